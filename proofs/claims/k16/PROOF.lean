import PyProof.Rows.All
import Wide.All
import OpenK.AllK
import Wide.FinOn
import PySem.Challenge.RW_lanescribe_k16_whole_takers_are_told_the
import HandS.Head0
import HandS.Head1
import HandS.Head2
import HandS.HeadEnd
import HandS.HeadHook1
import HandS.HeadHook2
import KE.KStateDown
import HandS.ForMost
import HandS.Exc
import HandS.TryOnly
import HandS.TryMany
import HandS.WordsExc
import HandS.Flow
import HandS.Style
import HandS.DictComp
import HandS.Deep
import HandS.Wide
import HandS.Defaults
import HandS.MakeKwOnly
import HandS.Zip
import HandS.TupAny
import HandS.TupLe
import HandS.IsInst
import HandS.Walk
import HandS.HeadHook3
import HandS.HeadHook4
import HandS.HeadWalk
import HandS.EndTab
import HandS.EndBits
import HandS.ClsMeth
import HandS.ExcInit
import HandS.ExcField
import HandS.Lambda
import HandS.ExcOwn
import KE.GoesMore
import HandS.OwnEq
import HandS.NamedTupGet
import OpenK.KOps
import KE.KDictZip
import HandS.Dict
import HandS.SetFor
import HandS.Codes
import HandS.MakeKw
import HandS.Text
import HandS.FStr
import PyProof.InstNe
import HandS.More
set_option Elab.async false
set_option linter.all false
set_option maxRecDepth 100000
set_option maxHeartbeats 4000000
open PySem PySem.Spec PyProof.Rows L2
namespace Ls
end Ls
open Ls
-- own part: places
namespace Lw
open PySem PySem.Spec PyProof.Rows L2 Ls
def top (i : Nat) : Stmt := PySem.Challenge.pw_lanescribe_k16_whole_takers_are_told_the.main.body.getD i (.Pass ⟨0, 0, 0, 0⟩)
abbrev s_law : Stmt := top 44
theorem sc_law : FnScope ["_law_script", "_law_d", "_law_kinds", "_law_many", "_law_wide", "_law_lane", "_law_row", "_law_pile", "_law_told", "_law_place", "_law_turn", "_law_way", "_law_ticket", "_law_mark", "_law_one"] ["_law_script"] (defScope s_law) := ⟨rfl, rfl, rfl, by decide +kernel, rfl, by decide +kernel, by decide +kernel⟩
abbrev s__law_begin : Stmt := top 33
theorem sc__law_begin : FnScope ["_law_script", "_law_seed", "_law_cell"] ["_law_script"] (defScope s__law_begin) := ⟨rfl, rfl, rfl, by decide +kernel, rfl, by decide +kernel, by decide +kernel⟩
abbrev s__law_kinds_for : Stmt := top 41
theorem sc__law_kinds_for : FnScope ["_law_d", "_law_many", "_law_title"] ["_law_d"] (defScope s__law_kinds_for) := ⟨rfl, rfl, rfl, by decide +kernel, rfl, by decide +kernel, by decide +kernel⟩
abbrev s_Lane___init__ : Stmt := inClass (top 30) 0
theorem sc_Lane___init__ : FnScope ["self", "pages", "room", "over"] ["self", "pages", "room", "over"] (defScope s_Lane___init__) := ⟨rfl, rfl, rfl, by decide +kernel, rfl, by decide +kernel, by decide +kernel⟩
abbrev s__law_emptied : Stmt := top 43
theorem sc__law_emptied : FnScope ["_law_lane", "_law_place", "_law_row", "_law_kind", "_law_told", "_law_many", "_law_one", "_law_step", "_law_given", "_law_thrown", "_law_lost", "_law_missed", "_law_taken", "_law_thing"] ["_law_lane", "_law_place", "_law_row", "_law_kind", "_law_told"] (defScope s__law_emptied) := ⟨rfl, rfl, rfl, by decide +kernel, rfl, by decide +kernel, by decide +kernel⟩
abbrev s__law_pick : Stmt := top 34
theorem sc__law_pick : FnScope ["_law_d", "_law_many", "_law_cell", "_law_digit", "_law_one"] ["_law_d", "_law_many"] (defScope s__law_pick) := ⟨rfl, rfl, rfl, by decide +kernel, rfl, by decide +kernel, by decide +kernel⟩
abbrev s_Lane_give : Stmt := inClass (top 30) 11
theorem sc_Lane_give : FnScope ["self", "ticket"] ["self", "ticket"] (defScope s_Lane_give) := ⟨rfl, rfl, rfl, by decide +kernel, rfl, by decide +kernel, by decide +kernel⟩
abbrev s_Lane_claim : Stmt := inClass (top 30) 7
theorem sc_Lane_claim : FnScope ["self", "kind", "time", "own"] ["self", "kind", "time"] (defScope s_Lane_claim) := ⟨rfl, rfl, rfl, by decide +kernel, rfl, by decide +kernel, by decide +kernel⟩
abbrev s_Kind___init__ : Stmt := inClass (top 19) 0
theorem sc_Kind___init__ : FnScope ["self", "name", "fields", "at", "field", "one"] ["self", "name", "fields"] (defScope s_Kind___init__) := ⟨rfl, rfl, rfl, by decide +kernel, rfl, by decide +kernel, by decide +kernel⟩
abbrev s_Lane_throw : Stmt := inClass (top 30) 12
theorem sc_Lane_throw : FnScope ["self", "ticket", "head"] ["self", "ticket"] (defScope s_Lane_throw) := ⟨rfl, rfl, rfl, by decide +kernel, rfl, by decide +kernel, by decide +kernel⟩
abbrev s__law_told_next : Stmt := top 42
theorem sc__law_told_next : FnScope ["_law_thing", "_law_place", "_law_row", "_law_kind", "_law_closed", "_law_ticket", "_law_time", "_law_mark", "_law_good", "_law_due", "_law_word_here", "_law_low", "_law_high"] ["_law_thing", "_law_place", "_law_row", "_law_kind"] (defScope s__law_told_next) := ⟨rfl, rfl, rfl, by decide +kernel, rfl, by decide +kernel, by decide +kernel⟩
abbrev s_Lane_take : Stmt := inClass (top 30) 14
theorem sc_Lane_take : FnScope ["self", "left", "one", "place", "at", "claim", "many", "step"] ["self"] (defScope s_Lane_take) := ⟨rfl, rfl, rfl, by decide +kernel, rfl, by decide +kernel, by decide +kernel⟩
abbrev s_Lane___len__ : Stmt := inClass (top 30) 1
theorem sc_Lane___len__ : FnScope ["self", "place", "at", "claim"] ["self"] (defScope s_Lane___len__) := ⟨rfl, rfl, rfl, by decide +kernel, rfl, by decide +kernel, by decide +kernel⟩
abbrev s__law_of : Stmt := top 35
theorem sc__law_of : FnScope ["_law_d", "_law_things"] ["_law_d", "_law_things"] (defScope s__law_of) := ⟨rfl, rfl, rfl, by decide +kernel, rfl, by decide +kernel, by decide +kernel⟩
abbrev s__law_fields : Stmt := top 40
theorem sc__law_fields : FnScope ["_law_d", "_law_many", "_law_names", "_law_found", "_law_title", "_law_low", "_law_high"] ["_law_d", "_law_many"] (defScope s__law_fields) := ⟨rfl, rfl, rfl, by decide +kernel, rfl, by decide +kernel, by decide +kernel⟩
abbrev s__law_words : Stmt := top 38
theorem sc__law_words : FnScope ["_law_d", "_law_many", "_law_found", "_law_k", "_law_word_here", "_law_step"] ["_law_d", "_law_many"] (defScope s__law_words) := ⟨rfl, rfl, rfl, by decide +kernel, rfl, by decide +kernel, by decide +kernel⟩
abbrev s_look_pages : Stmt := top 28
theorem sc_look_pages : FnScope ["pages"] ["pages"] (defScope s_look_pages) := ⟨rfl, rfl, rfl, by decide +kernel, rfl, by decide +kernel, by decide +kernel⟩
abbrev s_Page___init__ : Stmt := inClass (top 27) 0
theorem sc_Page___init__ : FnScope ["self"] ["self"] (defScope s_Page___init__) := ⟨rfl, rfl, rfl, by decide +kernel, rfl, by decide +kernel, by decide +kernel⟩
abbrev s_Lane_counts : Stmt := inClass (top 30) 19
theorem sc_Lane_counts : FnScope ["self"] ["self"] (defScope s_Lane_counts) := ⟨rfl, rfl, rfl, by decide +kernel, rfl, by decide +kernel, by decide +kernel⟩
abbrev s__law_same : Stmt := top 36
theorem sc__law_same : FnScope ["_law_found", "_law_due", "_law_k"] ["_law_found", "_law_due"] (defScope s__law_same) := ⟨rfl, rfl, rfl, by decide +kernel, rfl, by decide +kernel, by decide +kernel⟩
abbrev s_Lane_look : Stmt := inClass (top 30) 15
theorem sc_Lane_look : FnScope ["self"] ["self"] (defScope s_Lane_look) := ⟨rfl, rfl, rfl, by decide +kernel, rfl, by decide +kernel, by decide +kernel⟩
abbrev s_Lane_pending : Stmt := inClass (top 30) 16
theorem sc_Lane_pending : FnScope ["self"] ["self"] (defScope s_Lane_pending) := ⟨rfl, rfl, rfl, by decide +kernel, rfl, by decide +kernel, by decide +kernel⟩
abbrev s_Lane_close : Stmt := inClass (top 30) 10
theorem sc_Lane_close : FnScope ["self", "ticket", "mark", "page", "at"] ["self", "ticket", "mark"] (defScope s_Lane_close) := ⟨rfl, rfl, rfl, by decide +kernel, rfl, by decide +kernel, by decide +kernel⟩
abbrev s_Lane_turn_page : Stmt := inClass (top 30) 6
theorem sc_Lane_turn_page : FnScope ["self", "free"] ["self"] (defScope s_Lane_turn_page) := ⟨rfl, rfl, rfl, by decide +kernel, rfl, by decide +kernel, by decide +kernel⟩
abbrev s_Kind_lowest : Stmt := inClass (top 19) 5
theorem sc_Kind_lowest : FnScope ["self", "title", "low", "high"] ["self"] (defScope s_Kind_lowest) := ⟨rfl, rfl, rfl, by decide +kernel, rfl, by decide +kernel, by decide +kernel⟩
abbrev s_Page_used : Stmt := inClass (top 27) 2
theorem sc_Page_used : FnScope ["self", "claim"] ["self"] (defScope s_Page_used) := ⟨rfl, rfl, rfl, by decide +kernel, rfl, by decide +kernel, by decide +kernel⟩
abbrev s_Kind_cells : Stmt := inClass (top 19) 6
theorem sc_Kind_cells : FnScope ["self"] ["self"] (defScope s_Kind_cells) := ⟨rfl, rfl, rfl, by decide +kernel, rfl, by decide +kernel, by decide +kernel⟩
abbrev s_is_name : Stmt := top 17
theorem sc_is_name : FnScope ["text", "sign"] ["text"] (defScope s_is_name) := ⟨rfl, rfl, rfl, by decide +kernel, rfl, by decide +kernel, by decide +kernel⟩
abbrev s_look_field : Stmt := top 18
theorem sc_look_field : FnScope ["field", "names", "title", "low", "high"] ["field", "names"] (defScope s_look_field) := ⟨rfl, rfl, rfl, by decide +kernel, rfl, by decide +kernel, by decide +kernel⟩
abbrev s_told_event : Stmt := top 29
theorem sc_told_event : FnScope ["place", "claim"] ["place", "claim"] (defScope s_told_event) := ⟨rfl, rfl, rfl, by decide +kernel, rfl, by decide +kernel, by decide +kernel⟩
abbrev s_Lane_leave : Stmt := inClass (top 30) 5
theorem sc_Lane_leave : FnScope ["self", "at", "lost", "page", "many"] ["self", "at", "lost"] (defScope s_Lane_leave) := ⟨rfl, rfl, rfl, by decide +kernel, rfl, by decide +kernel, by decide +kernel⟩
abbrev s_Lane_seen : Stmt := inClass (top 30) 13
theorem sc_Lane_seen : FnScope ["self", "told", "place", "at", "page", "claim"] ["self"] (defScope s_Lane_seen) := ⟨rfl, rfl, rfl, by decide +kernel, rfl, by decide +kernel, by decide +kernel⟩
abbrev s__law_bound : Stmt := top 39
theorem sc__law_bound : FnScope ["_law_d", "_law_near"] ["_law_d"] (defScope s__law_bound) := ⟨rfl, rfl, rfl, by decide +kernel, rfl, by decide +kernel, by decide +kernel⟩
abbrev s__law_word : Stmt := top 37
theorem sc__law_word : FnScope ["_law_d", "_law_letters", "_law_first", "_law_size", "_law_some", "_law_k"] ["_law_d"] (defScope s__law_word) := ⟨rfl, rfl, rfl, by decide +kernel, rfl, by decide +kernel, by decide +kernel⟩
abbrev s_told_from : Stmt := top 31
theorem sc_told_from : FnScope ["lane", "place", "told", "here", "at", "claim"] ["lane", "place"] (defScope s_told_from) := ⟨rfl, rfl, rfl, by decide +kernel, rfl, by decide +kernel, by decide +kernel⟩
abbrev s_Lane_found : Stmt := inClass (top 30) 8
theorem sc_Lane_found : FnScope ["self", "ticket", "spots", "page", "at", "claim"] ["self", "ticket"] (defScope s_Lane_found) := ⟨rfl, rfl, rfl, by decide +kernel, rfl, by decide +kernel, by decide +kernel⟩
abbrev s_Lane_free_pages : Stmt := inClass (top 30) 4
theorem sc_Lane_free_pages : FnScope ["self", "at", "page"] ["self"] (defScope s_Lane_free_pages) := ⟨rfl, rfl, rfl, by decide +kernel, rfl, by decide +kernel, by decide +kernel⟩
abbrev s_Page_waits : Stmt := inClass (top 27) 4
theorem sc_Page_waits : FnScope ["self", "claim"] ["self"] (defScope s_Page_waits) := ⟨rfl, rfl, rfl, by decide +kernel, rfl, by decide +kernel, by decide +kernel⟩
abbrev s_Page_events : Stmt := inClass (top 27) 3
theorem sc_Page_events : FnScope ["self", "claim"] ["self"] (defScope s_Page_events) := ⟨rfl, rfl, rfl, by decide +kernel, rfl, by decide +kernel, by decide +kernel⟩
end Lw
-- own part: run
namespace Lh
open PySem PySem.Spec PyProof.Rows L2 Ls Lw
def d_law : He.DefD := ⟨("law", none), "law", "law", defArgs s_law, defBody s_law, defScope s_law, [], []⟩
def d__law_begin : He.DefD := ⟨("_law_begin", none), "_law_begin", "_law_begin", defArgs s__law_begin, defBody s__law_begin, defScope s__law_begin, [], []⟩
def d__law_kinds_for : He.DefD := ⟨("_law_kinds_for", none), "_law_kinds_for", "_law_kinds_for", defArgs s__law_kinds_for, defBody s__law_kinds_for, defScope s__law_kinds_for, [], []⟩
def d_Lane___init__ : He.DefD := ⟨("Lane", some "__init__"), "__init__", "Lane.__init__", defArgs s_Lane___init__, defBody s_Lane___init__, defScope s_Lane___init__, [], [("pages", .int 4), ("room", .int 8), ("over", .bl true)]⟩
def d__law_emptied : He.DefD := ⟨("_law_emptied", none), "_law_emptied", "_law_emptied", defArgs s__law_emptied, defBody s__law_emptied, defScope s__law_emptied, [], []⟩
def d__law_pick : He.DefD := ⟨("_law_pick", none), "_law_pick", "_law_pick", defArgs s__law_pick, defBody s__law_pick, defScope s__law_pick, [], []⟩
def d_Lane_give : He.DefD := ⟨("Lane", some "give"), "give", "Lane.give", defArgs s_Lane_give, defBody s_Lane_give, defScope s_Lane_give, [], []⟩
def d_Lane_claim : He.DefD := ⟨("Lane", some "claim"), "claim", "Lane.claim", defArgs s_Lane_claim, defBody s_Lane_claim, defScope s_Lane_claim, [], []⟩
def d_Kind___init__ : He.DefD := ⟨("Kind", some "__init__"), "__init__", "Kind.__init__", defArgs s_Kind___init__, defBody s_Kind___init__, defScope s_Kind___init__, [.adr (He.dflAt ("Kind", some "__init__") 0)], []⟩
def d_Lane_throw : He.DefD := ⟨("Lane", some "throw"), "throw", "Lane.throw", defArgs s_Lane_throw, defBody s_Lane_throw, defScope s_Lane_throw, [], []⟩
def d__law_told_next : He.DefD := ⟨("_law_told_next", none), "_law_told_next", "_law_told_next", defArgs s__law_told_next, defBody s__law_told_next, defScope s__law_told_next, [], []⟩
def d_Lane_take : He.DefD := ⟨("Lane", some "take"), "take", "Lane.take", defArgs s_Lane_take, defBody s_Lane_take, defScope s_Lane_take, [], []⟩
def d_Lane___len__ : He.DefD := ⟨("Lane", some "__len__"), "__len__", "Lane.__len__", defArgs s_Lane___len__, defBody s_Lane___len__, defScope s_Lane___len__, [], []⟩
def d__law_of : He.DefD := ⟨("_law_of", none), "_law_of", "_law_of", defArgs s__law_of, defBody s__law_of, defScope s__law_of, [], []⟩
def d__law_fields : He.DefD := ⟨("_law_fields", none), "_law_fields", "_law_fields", defArgs s__law_fields, defBody s__law_fields, defScope s__law_fields, [], []⟩
def d__law_words : He.DefD := ⟨("_law_words", none), "_law_words", "_law_words", defArgs s__law_words, defBody s__law_words, defScope s__law_words, [], []⟩
def d_look_pages : He.DefD := ⟨("look_pages", none), "look_pages", "look_pages", defArgs s_look_pages, defBody s_look_pages, defScope s_look_pages, [], []⟩
def d_Page___init__ : He.DefD := ⟨("Page", some "__init__"), "__init__", "Page.__init__", defArgs s_Page___init__, defBody s_Page___init__, defScope s_Page___init__, [], []⟩
def d_Lane_counts : He.DefD := ⟨("Lane", some "counts"), "counts", "Lane.counts", defArgs s_Lane_counts, defBody s_Lane_counts, defScope s_Lane_counts, [], []⟩
def d__law_same : He.DefD := ⟨("_law_same", none), "_law_same", "_law_same", defArgs s__law_same, defBody s__law_same, defScope s__law_same, [], []⟩
def d_Lane_look : He.DefD := ⟨("Lane", some "look"), "look", "Lane.look", defArgs s_Lane_look, defBody s_Lane_look, defScope s_Lane_look, [], []⟩
def d_Lane_pending : He.DefD := ⟨("Lane", some "pending"), "pending", "Lane.pending", defArgs s_Lane_pending, defBody s_Lane_pending, defScope s_Lane_pending, [], []⟩
def d_Lane_close : He.DefD := ⟨("Lane", some "close"), "close", "Lane.close", defArgs s_Lane_close, defBody s_Lane_close, defScope s_Lane_close, [], []⟩
def d_Lane_turn_page : He.DefD := ⟨("Lane", some "turn_page"), "turn_page", "Lane.turn_page", defArgs s_Lane_turn_page, defBody s_Lane_turn_page, defScope s_Lane_turn_page, [], []⟩
def d_Kind_lowest : He.DefD := ⟨("Kind", some "lowest"), "lowest", "Kind.lowest", defArgs s_Kind_lowest, defBody s_Kind_lowest, defScope s_Kind_lowest, [], []⟩
def d_Page_used : He.DefD := ⟨("Page", some "used"), "used", "Page.used", defArgs s_Page_used, defBody s_Page_used, defScope s_Page_used, [], []⟩
def d_Kind_cells : He.DefD := ⟨("Kind", some "cells"), "cells", "Kind.cells", defArgs s_Kind_cells, defBody s_Kind_cells, defScope s_Kind_cells, [], []⟩
def d_is_name : He.DefD := ⟨("is_name", none), "is_name", "is_name", defArgs s_is_name, defBody s_is_name, defScope s_is_name, [], []⟩
def d_look_field : He.DefD := ⟨("look_field", none), "look_field", "look_field", defArgs s_look_field, defBody s_look_field, defScope s_look_field, [], []⟩
def d_told_event : He.DefD := ⟨("told_event", none), "told_event", "told_event", defArgs s_told_event, defBody s_told_event, defScope s_told_event, [], []⟩
def d_Lane_leave : He.DefD := ⟨("Lane", some "leave"), "leave", "Lane.leave", defArgs s_Lane_leave, defBody s_Lane_leave, defScope s_Lane_leave, [], []⟩
def d_Lane_seen : He.DefD := ⟨("Lane", some "seen"), "seen", "Lane.seen", defArgs s_Lane_seen, defBody s_Lane_seen, defScope s_Lane_seen, [], []⟩
def d__law_bound : He.DefD := ⟨("_law_bound", none), "_law_bound", "_law_bound", defArgs s__law_bound, defBody s__law_bound, defScope s__law_bound, [], []⟩
def d__law_word : He.DefD := ⟨("_law_word", none), "_law_word", "_law_word", defArgs s__law_word, defBody s__law_word, defScope s__law_word, [], []⟩
def d_told_from : He.DefD := ⟨("told_from", none), "told_from", "told_from", defArgs s_told_from, defBody s_told_from, defScope s_told_from, [], []⟩
def d_Lane_found : He.DefD := ⟨("Lane", some "found"), "found", "Lane.found", defArgs s_Lane_found, defBody s_Lane_found, defScope s_Lane_found, [], []⟩
def d_Lane_free_pages : He.DefD := ⟨("Lane", some "free_pages"), "free_pages", "Lane.free_pages", defArgs s_Lane_free_pages, defBody s_Lane_free_pages, defScope s_Lane_free_pages, [], []⟩
def d_Page_waits : He.DefD := ⟨("Page", some "waits"), "waits", "Page.waits", defArgs s_Page_waits, defBody s_Page_waits, defScope s_Page_waits, [], []⟩
def d_Page_events : He.DefD := ⟨("Page", some "events"), "events", "Page.events", defArgs s_Page_events, defBody s_Page_events, defScope s_Page_events, [], []⟩
def fn : List He.DefD := [d_law, d__law_begin, d__law_kinds_for, d_Lane___init__, d__law_emptied, d__law_pick, d_Lane_give, d_Lane_claim, d_Kind___init__, d_Lane_throw, d__law_told_next, d_Lane_take, d_Lane___len__, d__law_of, d__law_fields, d__law_words, d_look_pages, d_Page___init__, d_Lane_counts, d__law_same, d_Lane_look, d_Lane_pending, d_Lane_close, d_Lane_turn_page, d_Kind_lowest, d_Page_used, d_Kind_cells, d_is_name, d_look_field, d_told_event, d_Lane_leave, d_Lane_seen, d__law_bound, d__law_word, d_told_from, d_Lane_found, d_Lane_free_pages, d_Page_waits, d_Page_events]
def fa : List He.Fa := [.glo "Lane", .cls "Lane", .noat "Lane" "most", .noat "Lane" "room", .noat "Lane" "over", .noat "Lane" "book", .noat "Lane" "pile", .noat "Lane" "latest", .noat "Lane" "coming", .noat "Lane" "last_ticket", .noat "Lane" "given", .noat "Lane" "back_thrown", .noat "Lane" "gone", .noat "Lane" "missed", .glo "Kind", .cls "Kind", .noat "Kind" "name", .noat "Kind" "fields", .glo "Page", .cls "Page", .noat "Page" "ahead", .noat "Page" "claims", .noat "Page" "held", .glo "law", .glo "_law_begin", .glo "_law_kinds_for", .mkr "Lane", .glo "_law_emptied", .glo "_law_pick", .meth "Lane" "give", .meth "Lane" "claim", .mkr "Kind", .meth "Lane" "throw", .glo "_law_told_next", .meth "Lane" "take", .meth "Lane" "__len__", .glo "_law_of", .glo "_law_fields", .glo "_law_words", .glo "look_pages", .mkr "Page", .meth "Lane" "counts", .glo "_law_same", .meth "Lane" "look", .meth "Lane" "pending", .meth "Lane" "close", .meth "Lane" "turn_page", .meth "Kind" "lowest", .meth "Page" "used", .meth "Kind" "cells", .glo "is_name", .glo "look_field", .glo "told_event", .meth "Lane" "leave", .meth "Lane" "seen", .glo "_law_bound", .glo "_law_word", .glo "told_from", .meth "Lane" "found", .meth "Lane" "free_pages", .meth "Page" "waits", .meth "Page" "events", .free "range", .free "int", .free "list", .free "len", .free "enumerate", .free "tuple", .free "min", .free "isinstance", .free "bool", .free "str", .free "all", .free "sum", .free "any", .int "PAGES" 4, .int "ROOM" 8, .int "LEAST_ROOM" 5, .int "MOST_ROOM" 12, .int "MOST_FIELDS" 4, .int "LEAST_PAGES" 2, .int "MOST_PAGES" 16, .int "LONGEST" 8, .str "LETTERS" "abcdefghijklmnopqrstuvwxyz", .int "LIMIT" 999999]
abbrev R : PySem.W.OpenRow := PySem.W.OpenLaw.row PySem.Challenge.rw_lanescribe_k16_whole_takers_are_told_the
abbrev hk : PySem.W.Hook := He.hookD 5 fa fn
def ob (s : PySem.W.SharedT) : He.AlD := He.obsDG 5 fa fn (HandSHeadRun.getT s)
theorem ob_eq (s : PySem.W.SharedT) : ob s = hk.obs s.abs := He.obsDG_eq (HandSHeadRun.getT_eq s)
def loose0 : List PySem.Str := ["_wall", "__name__", "ScribeError", "Missing", "BadName", "BadBounds", "BadSize", "BadTime", "Taken", "Full", "NotTop", "NoTicket", "LIMIT", "LONGEST", "MOST_FIELDS", "LETTERS", "is_name", "look_field", "Kind", "PAGES"]
def loose1 : List PySem.Str := ["ROOM", "LEAST_PAGES", "MOST_PAGES", "LEAST_ROOM", "MOST_ROOM", "Page", "look_pages", "told_event", "Lane", "told_from", "_law_begin", "_law_pick", "_law_of", "_law_same", "_law_word", "_law_words", "_law_bound", "_law_fields", "_law_kinds_for", "_law_told_next"]
def loose2 : List PySem.Str := ["_law_emptied"]
def loose : List PySem.Str := loose0 ++ loose1 ++ loose2
theorem run (w : World) : HandSHeadRun.RunEq R (PySem.W.view R.prog [44]) hk ob 20000 loose w := by
  intro os
  kernel_rfl
end Lh
-- own part: U
namespace Ls
open PySem PySem.Spec PyProof.Rows L2

/-! ### rules joined: one for each sign, whatever the values -/
section
variable {X : Cx}
def rAddU (K : PySem.W.Frag) : R2 := fun x y H Q => (∃ i j, x = .int i ∧ y = .int j ∧ Q (.int (i + j)) H) ∨ (∃ i j, x = .str i ∧ y = .str j ∧ i.length + j.length ≤ sizeLine ∧ Q (.str (i ++ j)) H) ∨ rCat x y H Q ∨ rCatA K x y H Q
theorem op_addU0 : OpR X (binaryOp .Add) (rAddU X.K) := OpR.or op_add (OpR.or op_add_str (OpR.or op_cat op_catA))
def rEqU (K : PySem.W.Frag) : R2 := fun x y H Q => rEq x y H Q ∨ rEqD K x y H Q
def rNeU (K : PySem.W.Frag) : R2 := fun x y H Q => rNe x y H Q ∨ rNeD K x y H Q
theorem op_eqU0 (hu : X.A.units + 66 < cLine) : OpR X (compareOp .Eq) (rEqU X.K) := OpR.or op_eq (op_eqD (by omega))
theorem op_neU0 (hu : X.A.units + 66 < cLine) : OpR X (compareOp .NotEq) (rNeU X.K) := OpR.or op_ne (op_neD (by omega))
def rIsU : R2 := fun x y H Q => (y = .non ∧ Q (.bl (decide (x = .non))) H) ∨ (∃ a b, x = .bl a ∧ y = .bl b ∧ Q (.bl (decide (a = b))) H)
def rIsNotU : R2 := fun x y H Q => (y = .non ∧ Q (.bl (!decide (x = .non))) H) ∨ (∃ a b, x = .bl a ∧ y = .bl b ∧ Q (.bl (!decide (a = b))) H)
theorem op_isU : OpR X (compareOp .Is) rIsU := OpR.or op_isN op_is_bl
theorem op_isnotU : OpR X (compareOp .IsNot) rIsNotU := OpR.or op_notN op_isnot_bl
def rInSg : R2 := fun x y H Q => ∃ (c : Nat) (z : Str), x = .str ⟨#[c]⟩ ∧ y = .str z ∧ Q (.bl (decide (c ∈ z.cps.toList))) H
def rNotInSg : R2 := fun x y H Q => ∃ (c : Nat) (z : Str), x = .str ⟨#[c]⟩ ∧ y = .str z ∧ Q (.bl (!decide (c ∈ z.cps.toList))) H
def rInU (K : PySem.W.Frag) : R2 := fun x y H Q => rIn K false x y H Q ∨ rInD K x y H Q ∨ rInSg x y H Q
def rNotInU (K : PySem.W.Frag) : R2 := fun x y H Q => rIn K true x y H Q ∨ rNotInD K x y H Q ∨ rNotInSg x y H Q
theorem op_inU0 (hu : X.A.units + 66 < cLine) : OpR X (compareOp .In) (rInU X.K) := OpR.or op_in_seq (OpR.or (op_inD (by omega)) op_in_sign)
theorem op_notinU0 (hu : X.A.units + 66 < cLine) : OpR X (compareOp .NotIn) (rNotInU X.K) := OpR.or op_notIn_seq (OpR.or (op_notInD (by omega)) op_notIn_sign)
def rLenU (K : PySem.W.Frag) : List V → Hp → VK → Prop := fun xs H Q => (∃ p ys, xs = [.ref p] ∧ (SqL K H p ys ∨ SqT K H p ys) ∧ Q (.int ys.length) H) ∨ (∃ z, xs = [.str z] ∧ z.length ≤ sizeLine ∧ Q (.int z.length) H) ∨ (∃ a kvs, xs = [V.ref a] ∧ H a = some (.dK kvs) ∧ Q (.int kvs.length) H)
theorem call_lenU0 : CallR X (.builtin "len") (rLenU X.K) := CallR.or call_len_seq (CallR.or call_len_str call_lenD)
def rSlU (K : PySem.W.Frag) : V → Option Int → Option Int → Hp → VK → Prop := fun x lo hi H Q => rSlL K x lo hi H Q ∨ rSlA K x lo hi H Q ∨ rSlS x lo hi H Q
theorem sl_U0 : SlR X (rSlU X.K) := SlR.or sl_list (SlR.or sl_tupA sl_str)
def rMaxU (K : PySem.W.Frag) : List V → Hp → VK → Prop := fun vs H Q => (∃ i j, vs = [.int i, .int j] ∧ Q (.int (if j > i then j else i)) H) ∨ rMax K vs H Q
def rMinU (K : PySem.W.Frag) : List V → Hp → VK → Prop := fun vs H Q => (∃ i j, vs = [.int i, .int j] ∧ Q (.int (if j < i then j else i)) H) ∨ rMin K vs H Q
theorem call_maxU0 (hc : X.calm = true) : CallR X (.builtin "max") (rMaxU X.K) := CallR.or (call_max2 hc) (cr_max hc)
theorem call_minU0 (hc : X.calm = true) : CallR X (.builtin "min") (rMinU X.K) := CallR.or (call_min2 hc) (cr_min hc)
end
section
variable {X : Cx}
theorem op_addU (K : PySem.W.Frag) (hK : X.K = K)  : OpR X (binaryOp .Add) (rAddU K) := by
  subst hK
  exact op_addU0
theorem op_eqU (K : PySem.W.Frag) (hK : X.K = K) (hu : X.A.units + 66 < cLine) : OpR X (compareOp .Eq) (rEqU K) := by
  subst hK
  exact op_eqU0 hu
theorem op_neU (K : PySem.W.Frag) (hK : X.K = K) (hu : X.A.units + 66 < cLine) : OpR X (compareOp .NotEq) (rNeU K) := by
  subst hK
  exact op_neU0 hu
theorem op_inU (K : PySem.W.Frag) (hK : X.K = K) (hu : X.A.units + 66 < cLine) : OpR X (compareOp .In) (rInU K) := by
  subst hK
  exact op_inU0 hu
theorem op_notinU (K : PySem.W.Frag) (hK : X.K = K) (hu : X.A.units + 66 < cLine) : OpR X (compareOp .NotIn) (rNotInU K) := by
  subst hK
  exact op_notinU0 hu
theorem call_lenU (K : PySem.W.Frag) (hK : X.K = K)  : CallR X (.builtin "len") (rLenU K) := by
  subst hK
  exact call_lenU0
theorem sl_U (K : PySem.W.Frag) (hK : X.K = K)  : SlR X (rSlU K) := by
  subst hK
  exact sl_U0
theorem call_maxU (K : PySem.W.Frag) (hK : X.K = K) (hc : X.calm = true) : CallR X (.builtin "max") (rMaxU K) := by
  subst hK
  exact call_maxU0 hc
theorem call_minU (K : PySem.W.Frag) (hK : X.K = K) (hc : X.calm = true) : CallR X (.builtin "min") (rMinU K) := by
  subst hK
  exact call_minU0 hc
def rListU (K : PySem.W.Frag) : List V → Hp → VK → Prop := fun xs H Q => ∃ p ys, xs = [V.ref p] ∧ (SqL K H p ys ∨ SqT K H p ys) ∧ ∀ l, H l = none → Q (.ref l) (upd H l (.lst ys))
def rTupleU (K : PySem.W.Frag) : List V → Hp → VK → Prop := fun xs H Q => ∃ p ys, xs = [.ref p] ∧ ((SqL K H p ys ∧ ∀ l, H l = none → Q (.ref l) (upd H l (.tup ys))) ∨ (SqT K H p ys ∧ Q (.ref p) H))
theorem call_listU (K : PySem.W.Frag) (hK : X.K = K) : CallR X (.type "list") (rListU K) := by
  subst hK
  exact call_list_of
theorem call_tupleU (K : PySem.W.Frag) (hK : X.K = K) : CallR X (.type "tuple") (rTupleU K) := by
  subst hK
  exact call_tuple_of
theorem cr_sumU (K : PySem.W.Frag) (hK : X.K = K) (hc : X.calm = true) : CallR X (.builtin "sum") (rSum K) := by
  subst hK
  exact cr_sum hc
theorem cr_allU (K : PySem.W.Frag) (hK : X.K = K) (hc : X.calm = true) : CallR X (.builtin "all") (rAll K) := by
  subst hK
  exact cr_all hc
theorem cr_anyU (K : PySem.W.Frag) (hK : X.K = K) (hc : X.calm = true) : CallR X (.builtin "any") (rAny K) := by
  subst hK
  exact cr_any hc
theorem call_isiU (K : PySem.W.Frag) (hK : X.K = K) : CallR X (.builtin "isinstance") (rIsi K) := by
  subst hK
  exact call_isi
theorem call_isiTU (K : PySem.W.Frag) (hK : X.K = K) : CallR X (.builtin "isinstance") (rIsiT K) := by
  subst hK
  exact call_isiT
theorem ix_U (K : PySem.W.Frag) (hK : X.K = K) : IxR X (rIx K) := by
  subst hK
  exact ix_seq
theorem kBM {e : Expr} {T : String} {r : V → List V → Hp → VK → Prop} {to : TE} {t : TA} (K : PySem.W.Frag) (hK : X.K = K) (h : PE X e (tBM X.K T r to t)) : PE X e (tBM K T r to t) := hK ▸ h
theorem kBM0 {e : Expr} {T : String} {r : V → List V → Hp → VK → Prop} {to : TE} (K : PySem.W.Frag) (hK : X.K = K) (h : PE X e (tBM0 X.K T r to)) : PE X e (tBM0 K T r to) := hK ▸ h
theorem kFld {e : Expr} {f : Str} {ta : TE} (K : PySem.W.Frag) (hK : X.K = K) (h : PE X e (tFld X.K ta f)) : PE X e (tFld K ta f) := hK ▸ h
theorem kGTup {e : Expr} {n : Nat} {t : TGs} (K : PySem.W.Frag) (hK : X.K = K) (h : PG X e (gTup X.K n t)) : PG X e (gTup K n t) := hK ▸ h
theorem kIL {tg l : Expr} {tl : TE} (K : PySem.W.Frag) (hK : X.K = K) (h : PI X tg l (iList X.K tl)) : PI X tg l (iList K tl) := hK ▸ h
theorem kIT {tg l : Expr} {tl : TE} (K : PySem.W.Frag) (hK : X.K = K) (h : PI X tg l (iTup X.K tl)) : PI X tg l (iTup K tl) := hK ▸ h
theorem kIE {tg l : Expr} {tl : TA} (K : PySem.W.Frag) (hK : X.K = K) (h : PI X tg l (iEnum X.K tl)) : PI X tg l (iEnum K tl) := hK ▸ h
theorem kIZ {tg l : Expr} {tl : TA} (K : PySem.W.Frag) (hK : X.K = K) (h : PI X tg l (RZ.iZipA X.K tl)) : PI X tg l (RZ.iZipA K tl) := hK ▸ h
theorem kIV {tg l : Expr} {tl : TA} (K : PySem.W.Frag) (hK : X.K = K) (h : PI X tg l (iRev X.K tl)) : PI X tg l (iRev K tl) := hK ▸ h
end
theorem huOf {A : Around} {k : Nat} (hr : Room k A) : A.units + 66 < cLine := by
  have := hr.un
  omega
end Ls
-- own part: U2
namespace Ls
open PySem PySem.Spec PyProof.Rows L2

/-! ### y = {k: v for ..} -/
theorem swd_true {kx vx : Expr} {gs : List Comprehension} {scope : Scope} {pos py : Pos} {y : Str} {l : Nat} {env : Env} (hk : env.scope.kind = .function) (hy : env.scope.names.lookup y = some .local) (hl : (py.line == pos.line) = true)
    (ha : (scope.names.any fun (n, k) => n == y && (k == .local || k == .cell)) = false) : swapsWith (.DictComp kx vx gs scope pos) (some (.Name y py)) l env = pure true := by
  have ky : env.kindOf y = some .local := hy
  have hb : env.blockKind = .function := by unfold Env.blockKind; rw [hk]; rfl
  unfold swapsWith
  simp only [hb, ky, ha, Expr.pos, hl]
  rfl
theorem ps_setDc {X : Cx} {i : Nat} {y : Str} {py : Pos} {kx vx tg iter : Expr} {ifs : List Expr} {scope : Scope} {own : List (Str × Nat)} {pos spos : Pos} {wi : TI} {g : TG} {tt : TT} {tk tv : TE} (hc : X.calm = true) (hN : X.N.Nodup) (hy : X.N[i]? = some y) (hyl : X.env.scope.names.lookup y = some .local)
    (hsw : swapsWith (.DictComp kx vx [⟨tg, iter, ifs, 0⟩] scope pos) (some (.Name y py)) spos.line X.env = pure true) (hi : PI X tg iter wi) (ok : BlkOk X.N X.env.scope scope own)
    (hg : ∀ (s : Shared) (H : Hp) (C : Addr) (cl : List (Str × Addr)) (fp : List Addr), PG (X.blk s H scope (compEnvC scope cl C X.env) fp) tg g) (ht : ∀ (s : Shared) (H : Hp) (C : Addr) (cl : List (Str × Addr)) (fp : List Addr), PTs (X.blk s H scope (compEnvC scope cl C X.env) fp) ifs tt)
    (hk : ∀ (s : Shared) (H : Hp) (C : Addr) (cl : List (Str × Addr)) (fp : List Addr), PE (X.blk s H scope (compEnvC scope cl C X.env) fp) kx tk)
    (he : ∀ (s : Shared) (H : Hp) (C : Addr) (cl : List (Str × Addr)) (fp : List Addr), PE (X.blk s H scope (compEnvC scope cl C X.env) fp) vx tv) (hs : ∀ x, foldedSetIterable iter X.env x = pure x := by intro _; rfl) :
    PS X (.Assign [.Name y py] (.DictComp kx vx [⟨tg, iter, ifs, 0⟩] scope pos) spos) (tAsg (tDc wi g tt tk tv (own.map (·.2))) (gName i)) := by
  refine ⟨fun pins s σ H D I h => ?_⟩
  rw [exec_Assign_Name_used _ _ _ _ hsw]
  refine wpAny_bind (wpAny_standAt (wpAny_bind ?_))
  show wpAny _ X.A (do let _ ← comprehension (.DictComp kx vx [⟨tg, iter, ifs, 0⟩] scope pos) scope X.env (firstIterPos [⟨tg, iter, ifs, 0⟩] pos) newDict false (eval iter X.env) (some (assign (.Name y py) X.env))) _ _ s
  have h : tDc wi g tt tk tv (own.map (·.2)) σ H (fun x H1 => gName i x σ H1 D.nx) := h
  refine wpAny_bind (thn (dc_core (Qf := fun _ s' => SP X pins D .next s') hc hN I hi ok hg ht hk he hs h fun L C s' m H' I' q hn f => ?_) fun _ s' hq => wpAny_pure (wpAny_pure hq))
  show wpAny _ _ (assign (.Name y py) X.env (.ref L)) _ _ _
  refine wpAny_assign_Name (store_ok2 (v := V.ref L) I' hN hy (.inl hyl) rfl (fun s2 I2 ⟨a, sb, ha⟩ => ?_) (.inr hyl))
  obtain ⟨f0, f1, f2, f3, f4, f5⟩ := f
  have haC : C ≠ a := by
    rcases ha with z | z
    · rw [z]; exact f1
    · exact fun e => f4 y a z e.symm
  refine ⟨m, hn.sameBut sb haC, fun h3 sb3 => ?_⟩
  exact ⟨_, H', I2.turned (t' := s2.toks) (fun b o hb e => (sb3.2 b hb).trans e) f0 f1 f3 f4 f5, q⟩

/-! ### heaps: what stays -/
/-- tuples stay (they always do) -/
def Tp (K : PySem.W.Frag) (H H' : Hp) : Prop := ∀ a xs, SqT K H a xs → SqT K H' a xs
/-- all but the object at d stays -/
def Keep (d : Addr) (H H' : Hp) : Prop := ∀ b o, b ≠ d → H b = some o → H' b = some o
theorem same_new {H : Hp} {p : Addr} {o : HO} (h : H p = none) : Same H (upd H p o) := fun b x e => by
  rw [upd_ne (ne_of_none e h)]
  exact e
theorem rd_same {H H' : Hp} {a : Addr} {u : HO} (e : Same H H') (h : Rd H a u) : Rd H' a u := by
  rcases h with h | ⟨o, h⟩
  · exact .inl (e _ _ h)
  · exact .inr ⟨o, e _ _ h⟩
theorem sqt_same {K : PySem.W.Frag} {H H' : Hp} {a : Addr} {xs : List V} (e : Same H H') (h : SqT K H a xs) : SqT K H' a xs := by
  rcases h with h | h
  · exact .inl (rd_same e h)
  · exact .inr h
theorem Tp.refl {K : PySem.W.Frag} {H : Hp} : Tp K H H := fun _ _ h => h
theorem Tp.trans {K : PySem.W.Frag} {H H1 H2 : Hp} (a : Tp K H H1) (b : Tp K H1 H2) : Tp K H H2 := fun x xs h => b x xs (a x xs h)
theorem Tp.same {K : PySem.W.Frag} {H H' : Hp} (e : Same H H') : Tp K H H' := fun _ _ h => sqt_same e h
theorem Tp.new {K : PySem.W.Frag} {H : Hp} {p : Addr} {o : HO} (h : H p = none) : Tp K H (upd H p o) := Tp.same (same_new h)
/-- an object that is no tuple (nor a locked one) -/
def NoT : HO → Bool
  | .tup _ => false
  | .frz _ _ => false
  | _ => true
theorem keep_tp {K : PySem.W.Frag} {d : Addr} {H H' : Hp} {o : HO} (k : Keep d H H') (h : H d = some o) (n : NoT o = true) : Tp K H H' := fun a xs q => by
  have ne : ∀ u, NoT u = false → H a = some u → a ≠ d := fun u hu e z => by
    rw [z, h] at e
    cases e
    rw [n] at hu
    cases hu
  rcases q with (q | ⟨u, q⟩) | q
  · exact .inl (.inl (k _ _ (ne _ rfl q) q))
  · exact .inl (.inr ⟨u, k _ _ (ne _ rfl q) q⟩)
  · exact .inr q
theorem Keep.refl {d : Addr} {H : Hp} : Keep d H H := fun _ _ _ h => h
theorem Keep.trans {d : Addr} {H H1 H2 : Hp} (a : Keep d H H1) (b : Keep d H1 H2) : Keep d H H2 := fun c o n h => b c o n (a c o n h)
theorem Keep.same {d : Addr} {H H' : Hp} (e : Same H H') : Keep d H H' := fun b o _ h => e b o h
theorem Keep.new {d p : Addr} {H H' : Hp} {o : HO} (k : Keep d H H') (h : H' p = none) : Keep d H (upd H' p o) := fun b u n e => same_new h _ _ (k b u n e)
theorem Keep.put {d : Addr} {H H' : Hp} {o : HO} (k : Keep d H H') : Keep d H (upd H' d o) := fun b u n e => by
  rw [upd_ne n]
  exact k b u n e
/-- a write to what did not stand there at first -/
theorem Keep.wr {d p : Addr} {H H' : Hp} {o : HO} (k : Keep d H H') (h : H p = none) : Keep d H (upd H' p o) := fun b u n e => by
  rw [upd_ne (ne_of_none e h)]
  exact k b u n e
theorem Same.wr {p : Addr} {H H' : Hp} {o : HO} (k : Same H H') (h : H p = none) : Same H (upd H' p o) := fun b u e => by
  rw [upd_ne (ne_of_none e h)]
  exact k b u e
theorem Keep.free {d p : Addr} {H H' : Hp} {o : HO} (k : Keep d H H') (hd : H' d = some o) (h : H' p = none) : H p = none := by
  cases q : H p with
  | none => rfl
  | some u =>
    by_cases e : p = d
    · rw [e, hd] at h
      cases h
    · rw [k p u e q] at h
      cases h
theorem wr_tp {K : PySem.W.Frag} {l : Addr} {H : Hp} {o u : HO} (h : H l = some o) (n : NoT o = true) : Tp K H (upd H l u) := keep_tp (d := l) (Keep.put Keep.refl) h n
theorem sql_same {K : PySem.W.Frag} {H H' : Hp} {a : Addr} {xs : List V} (e : Same H H') (h : SqL K H a xs) : SqL K H' a xs := e.seq h
theorem sql_keep {K : PySem.W.Frag} {d : Addr} {H H' : Hp} {a : Addr} {xs : List V} {kvs : List (Key × V)} (k : Keep d H H') (hd : H d = some (.dK kvs)) (h : SqL K H a xs) : SqL K H' a xs := by
  have ne : ∀ u, (∀ ks, u ≠ .dK ks) → H a = some u → a ≠ d := fun u hu e z => by
    rw [z, hd] at e
    exact hu _ (Option.some.inj e).symm
  rcases h with (q | ⟨u, q⟩) | q
  · exact .inl (.inl (k _ _ (ne _ (fun _ z => by cases z) q) q))
  · exact .inl (.inr ⟨u, k _ _ (ne _ (fun _ z => by cases z) q) q⟩)
  · exact .inr q

/-! ### data that never changes -/
mutual
inductive Im (K : PySem.W.Frag) (H : Hp) : V → PyData → Prop
  | non : Im K H .non .none
  | bl (b : Bool) : Im K H (.bl b) (.bool b)
  | int (i : Int) : Im K H (.int i) (.int i)
  | str (x : Str) : Im K H (.str x) (.str x)
  | tup {a : Addr} {xs : List V} {ds : List PyData} : SqT K H a xs → ImAll K H xs ds → Im K H (.ref a) (.tuple ds)
inductive ImAll (K : PySem.W.Frag) (H : Hp) : List V → List PyData → Prop
  | nil : ImAll K H [] []
  | cons {v : V} {vs : List V} {d : PyData} {ds : List PyData} : Im K H v d → ImAll K H vs ds → ImAll K H (v :: vs) (d :: ds)
end
section
variable {K : PySem.W.Frag} {H H' : Hp}
mutual
theorem Im.mono (t : Tp K H H') : ∀ {v : V} {d : PyData}, Im K H v d → Im K H' v d
  | _, _, .non => .non
  | _, _, .bl b => .bl b
  | _, _, .int i => .int i
  | _, _, .str x => .str x
  | _, _, .tup h hs => .tup (t _ _ h) (ImAll.mono t hs)
theorem ImAll.mono (t : Tp K H H') : ∀ {vs : List V} {ds : List PyData}, ImAll K H vs ds → ImAll K H' vs ds
  | _, _, .nil => .nil
  | _, _, .cons h hs => .cons (Im.mono t h) (ImAll.mono t hs)
end
mutual
theorem Im.dp : ∀ {v : V} {d : PyData}, Im K H v d → Dp K H v d
  | _, _, .non => .non
  | _, _, .bl b => .bl b
  | _, _, .int i => .int i
  | _, _, .str x => .str x
  | _, _, .tup h hs => .tup h (ImAll.dp hs)
theorem ImAll.dp : ∀ {vs : List V} {ds : List PyData}, ImAll K H vs ds → DpAll K H vs ds
  | _, _, .nil => .nil
  | _, _, .cons h hs => .cons (Im.dp h) (ImAll.dp hs)
end
theorem ImAll.length : ∀ {vs : List V} {ds : List PyData}, ImAll K H vs ds → vs.length = ds.length
  | _, _, .nil => rfl
  | _, _, .cons _ hs => congrArg Nat.succ (ImAll.length hs)
theorem ImAll.app : ∀ {vs ws : List V} {ds es : List PyData}, ImAll K H vs ds → ImAll K H ws es → ImAll K H (vs ++ ws) (ds ++ es)
  | _, _, _, _, .nil, h => h
  | _, _, _, _, .cons a b, h => .cons a (ImAll.app b h)
theorem ImAll.snoc {vs : List V} {ds : List PyData} {v : V} {d : PyData} (h : ImAll K H vs ds) (a : Im K H v d) : ImAll K H (vs ++ [v]) (ds ++ [d]) := h.app (.cons a .nil)
theorem ImAll.get : ∀ {vs : List V} {ds : List PyData} {i : Nat} {v : V}, ImAll K H vs ds → vs[i]? = some v → ∃ d, ds[i]? = some d ∧ Im K H v d
  | _, _, i, _, .nil, e => by simp at e
  | _, _, 0, _, .cons a _, e => by
    simp at e
    subst e
    exact ⟨_, rfl, a⟩
  | _, _, i + 1, v, .cons _ b, e => by
    obtain ⟨d, h1, h2⟩ := ImAll.get (i := i) (v := v) b (by simpa using e)
    exact ⟨d, by simpa using h1, h2⟩
theorem ImAll.getD : ∀ {vs : List V} {ds : List PyData} {i : Nat} {d : PyData}, ImAll K H vs ds → ds[i]? = some d → ∃ v, vs[i]? = some v ∧ Im K H v d
  | _, _, i, _, .nil, e => by simp at e
  | _, _, 0, _, .cons a _, e => by
    simp at e
    subst e
    exact ⟨_, rfl, a⟩
  | _, _, i + 1, d, .cons _ b, e => by
    obtain ⟨v, h1, h2⟩ := ImAll.getD (i := i) (d := d) b (by simpa using e)
    exact ⟨v, by simpa using h1, h2⟩
theorem ImAll.take : ∀ {vs : List V} {ds : List PyData} (n : Nat), ImAll K H vs ds → ImAll K H (vs.take n) (ds.take n)
  | _, _, 0, _ => by simp only [List.take_zero]; exact .nil
  | _, _, n + 1, .nil => by simp only [List.take_nil]; exact .nil
  | _, _, n + 1, .cons a b => .cons a (ImAll.take n b)
theorem ImAll.drop : ∀ {vs : List V} {ds : List PyData} (n : Nat), ImAll K H vs ds → ImAll K H (vs.drop n) (ds.drop n)
  | _, _, 0, h => h
  | _, _, n + 1, .nil => by simp only [List.drop_nil]; exact .nil
  | _, _, n + 1, .cons a b => ImAll.drop n b
theorem im_int {v : V} {i : Int} (h : Im K H v (.int i)) : v = .int i := by cases h; rfl
theorem im_str {v : V} {x : Str} (h : Im K H v (.str x)) : v = .str x := by cases h; rfl
theorem im_bl {v : V} {b : Bool} (h : Im K H v (.bool b)) : v = .bl b := by cases h; rfl
theorem im_non {v : V} (h : Im K H v .none) : v = .non := by cases h; rfl
theorem im_tup {v : V} {ds : List PyData} (h : Im K H v (.tuple ds)) : ∃ a xs, v = .ref a ∧ SqT K H a xs ∧ ImAll K H xs ds := by
  cases h with
  | tup h hs => exact ⟨_, _, rfl, h, hs⟩
theorem ImAll.ints : ∀ (ns : List Int), ImAll K H (ns.map V.int) (ns.map PyData.int)
  | [] => .nil
  | n :: r => .cons (.int n) (ImAll.ints r)
theorem ImAll.strs : ∀ (ns : List Str), ImAll K H (ns.map V.str) (ns.map PyData.str)
  | [] => .nil
  | n :: r => .cons (.str n) (ImAll.strs r)
end
/-- a new tuple -/
theorem sqt_new {K : PySem.W.Frag} {H : Hp} {p : Addr} {xs : List V} : SqT K (upd H p (.tup xs)) p xs := .inl (.inl upd_same)
theorem sqt_of {K : PySem.W.Frag} {H : Hp} {p : Addr} {xs : List V} (h : H p = some (.tup xs)) : SqT K H p xs := .inl (.inl h)
theorem sql_of {K : PySem.W.Frag} {H : Hp} {p : Addr} {xs : List V} (h : H p = some (.lst xs)) : SqL K H p xs := .inl (.inl h)
end Ls
-- own part: U3
namespace Ls
open PySem PySem.Spec PyProof.Rows L2

/-! ### the readings step by step: what is left to show -/
section
variable {K : PySem.W.Frag} {σ : L2.St} {H : Hp} {Q : VK} {D : Ends} {ta tb tc te td ty tv : TE} {tt tu : TT} {t u : TS} {tl : TA} {x y z v : V} {i j : Int} {b c : Bool} {a p l : Addr} {xs ys : List V}
theorem k_seq (h : t { D with nx := u D } σ H) : tSeq t u D σ H := h
theorem k_next (h : D.nx σ H) : tNext D σ H := h
theorem k_brk (h : D.bk σ H) : tBreak D σ H := h
theorem k_cont (h : D.ct σ H) : tCont D σ H := h
theorem k_drop (h : te σ H fun _ H1 => D.nx σ H1) : tDrop te D σ H := h
theorem k_ret (h : te σ H D.rt) : tRet te D σ H := h
theorem k_retN (h : D.rt .non H) : tRetN D σ H := h
theorem k_if (h : tt σ H fun b H1 => if b = true then t D σ H1 else u D σ H1) : tIfS tt t u D σ H := h
theorem k_set {i : Nat} (h : te σ H fun x H1 => D.nx (σ.set i (some x)) H1) : tAsg te (gName i) D σ H := h
theorem k_asg {g : TG} (h : te σ H fun x H1 => g x σ H1 D.nx) : tAsg te g D σ H := h
theorem k_par {i j : Nat} (h : tl σ H fun vs H1 => ∃ v w, vs = [v, w] ∧ D.nx ((σ.set i (some v)).set j (some w)) H1) : tPar i j tl D σ H := h
theorem k_par2 {Q : V → V → Prop} (h : Q x y) : ∃ v w, [x, y] = [v, w] ∧ Q v w := ⟨x, y, rfl, h⟩
theorem k_gname {i : Nat} {R : L2.St → Hp → Prop} (h : R (σ.set i (some v)) H) : gName i v σ H R := h
theorem k_gtup {n : Nat} {tg : TGs} {R : L2.St → Hp → Prop} (h1 : SqT K H a xs) (h2 : xs.length = n) (h : tg xs σ H R) : gTup K n tg (.ref a) σ H R := ⟨a, xs, rfl, h1, h2, h⟩
theorem k_gcons {tg : TG} {ug : TGs} {R : L2.St → Hp → Prop} (h : tg x σ H fun σ' H' => ug xs σ' H' R) : gCons tg ug (x :: xs) σ H R := ⟨x, xs, rfl, h⟩
theorem k_gnil {R : L2.St → Hp → Prop} (h : R σ H) : gNil [] σ H R := ⟨rfl, h⟩
theorem k_var {i : Nat} (e : σ[i]? = some (some v)) (q : Q v H) : tVar i σ H Q := ⟨v, e, q⟩
theorem k_c (q : Q v H) : tC v σ H Q := q
theorem k_op {r : R2} (h : ta σ H fun x H1 => tb σ H1 fun y H2 => r x y H2 Q) : tOp r ta tb σ H Q := h
theorem k_un {r : V → Hp → VK → Prop} (h : ta σ H fun x H1 => r x H1 Q) : tUn r ta σ H Q := h
theorem k_cb {r : List V → Hp → VK → Prop} (h : tl σ H fun vs H1 => r vs H1 Q) : tCB r tl σ H Q := h
theorem k_nil {R : List V → Hp → Prop} (h : R [] H) : tNil σ H R := h
theorem k_cons {R : List V → Hp → Prop} (h : ta σ H fun x H1 => tl σ H1 fun xs H2 => R (x :: xs) H2) : tCons ta tl σ H R := h
theorem k_call {sp : Sp} {dvs : List V} {E : XK} (h : tl σ H fun vs H1 => sp (vs ++ dvs) H1 Q E) : tCall sp dvs E tl σ H Q := h
theorem k_callN {n m : Nat} {sp : Sp} {gV : List V → List V → List V} {E : XK} {tk : TA} (h : tl σ H fun vs H1 => tk σ H1 fun zs H2 => vs.length = n ∧ zs.length = m ∧ sp (gV vs zs) H2 Q E) : tCallN n m sp gV E tl tk σ H Q := h
theorem k_tup (h : tl σ H fun xs H1 => xs.length ≤ sizeLine ∧ ∀ p, H1 p = none → Q (.ref p) (upd H1 p (.tup xs))) : tTup tl σ H Q := h
theorem k_lst (h : tl σ H fun xs H1 => xs.length ≤ sizeLine ∧ ∀ p, H1 p = none → Q (.ref p) (upd H1 p (.lst xs))) : tLst tl σ H Q := h
theorem k_new {P : Prop} (h1 : xs.length ≤ sizeLine) (h : P) : xs.length ≤ sizeLine ∧ P := ⟨h1, h⟩
theorem k_test {R : Bool → Hp → Prop} (h : te σ H fun x H' => ∃ k, x = .bl k ∧ R k H') : tTest te σ H R := h
theorem k_B {R : Bool → Hp → Prop} (h : te σ H fun x H' => ∃ k, x = .bl k ∧ R k H') : tB te σ H R := h
theorem k_bl {R : Bool → Prop} (h : R b) : ∃ k, V.bl b = .bl k ∧ R k := ⟨b, rfl, h⟩
theorem k_and {R : Bool → Hp → Prop} (h : tt σ H fun c H1 => if c = true then tu σ H1 R else R false H1) : tAnd tt tu σ H R := h
theorem k_or {R : Bool → Hp → Prop} (h : tt σ H fun c H1 => if c = true then R true H1 else tu σ H1 R) : tOr tt tu σ H R := h
theorem k_not {R : Bool → Hp → Prop} (h : tt σ H fun c H1 => R (!c) H1) : tNot tt σ H R := h
theorem k_andV (h : ta σ H fun x H1 => ∃ c, x = .bl c ∧ if c = true then tb σ H1 Q else Q (.bl false) H1) : tAndV ta tb σ H Q := h
theorem k_orV (h : ta σ H fun x H1 => ∃ c, x = .bl c ∧ if c = true then Q (.bl true) H1 else tb σ H1 Q) : tOrV ta tb σ H Q := h
theorem k_notV (h : ta σ H fun x H1 => ∃ c, x = .bl c ∧ Q (.bl (!c)) H1) : tNotV ta σ H Q := h
theorem k_ifE (h : tt σ H fun c H1 => if c = true then ta σ H1 Q else tb σ H1 Q) : tIf tt ta tb σ H Q := h
theorem k_yes {R : Bool → Hp → Prop} (h : R true H) : tYes σ H R := h
theorem k_chain {r r' : R2} (h : ta σ H fun x H1 => tb σ H1 fun y H2 => r x y H2 fun z H3 => ∃ k, z = .bl k ∧ (if k = true then tc σ H3 fun w' H4 => r' y w' H4 Q else Q (.bl false) H3)) : tChain r r' ta tb tc σ H Q := h
theorem k_dget (h : td σ H fun x H1 => ty σ H1 fun y H2 => ∃ a v, x = .ref a ∧ DGet H2 a y (some v) ∧ Q v H2) : tDGet td ty σ H Q := h
theorem k_dput (h : tv σ H fun v H1 => td σ H1 fun x H2 => ty σ H2 fun y H3 => ∃ a H4, x = .ref a ∧ DPut H3 a y v H4 ∧ D.nx σ H4) : sDPut td ty tv D σ H := h
theorem k_din (h : ty σ H fun y H1 => td σ H1 fun x H2 => ∃ a o, x = .ref a ∧ DGet H2 a y o ∧ Q (.bl o.isSome) H2) : tDIn ty td σ H Q := h
theorem k_dnotin (h : ty σ H fun y H1 => td σ H1 fun x H2 => ∃ a o, x = .ref a ∧ DGet H2 a y o ∧ Q (.bl (!o.isSome)) H2) : tDNotIn ty td σ H Q := h
theorem k_getI {kvs : List (Key × V)} {R : V → Prop} {k : Int} (h1 : H a = some (.dK kvs)) (h2 : valV kvs (.inl k) = some v) (h : R v) : ∃ b w, V.ref a = .ref b ∧ DGet H b (.int k) (some w) ∧ R w :=
  ⟨a, v, rfl, .inl ⟨kvs, .inl k, .inl h1, rfl, h2.symm⟩, h⟩
theorem k_getS {kvs : List (Key × V)} {R : V → Prop} {k : Str} (h1 : H a = some (.dK kvs)) (h2 : valV kvs (.inr k) = some v) (h : R v) : ∃ b w, V.ref a = .ref b ∧ DGet H b (.str k) (some w) ∧ R w :=
  ⟨a, v, rfl, .inl ⟨kvs, .inr k, .inl h1, rfl, h2.symm⟩, h⟩
theorem k_isI {kvs : List (Key × V)} {R : Option V → Prop} {k : Int} (h1 : H a = some (.dK kvs)) (h : R (valV kvs (.inl k))) : ∃ b o, V.ref a = .ref b ∧ DGet H b (.int k) o ∧ R o := ⟨a, _, rfl, .inl ⟨kvs, .inl k, .inl h1, rfl, rfl⟩, h⟩
theorem k_isS {kvs : List (Key × V)} {R : Option V → Prop} {k : Str} (h1 : H a = some (.dK kvs)) (h : R (valV kvs (.inr k))) : ∃ b o, V.ref a = .ref b ∧ DGet H b (.str k) o ∧ R o := ⟨a, _, rfl, .inl ⟨kvs, .inr k, .inl h1, rfl, rfl⟩, h⟩
theorem k_putI {kvs : List (Key × V)} {R : Hp → Prop} {k : Int} (h1 : H a = some (.dK kvs)) (h2 : kvs.length < sizeLine) (h : R (upd H a (.dK (putK kvs (.inl k) v)))) : ∃ b H4, V.ref a = .ref b ∧ DPut H b (.int k) v H4 ∧ R H4 :=
  ⟨a, _, rfl, .inl ⟨kvs, .inl k, h1, rfl, h2, rfl⟩, h⟩
theorem k_putS {kvs : List (Key × V)} {R : Hp → Prop} {k : Str} (h1 : H a = some (.dK kvs)) (h2 : kvs.length < sizeLine) (h : R (upd H a (.dK (putK kvs (.inr k) v)))) : ∃ b H4, V.ref a = .ref b ∧ DPut H b (.str k) v H4 ∧ R H4 :=
  ⟨a, _, rfl, .inl ⟨kvs, .inr k, h1, rfl, h2, rfl⟩, h⟩
theorem k_addI (q : Q (.int (i + j)) H) : rAddU K (.int i) (.int j) H Q := .inl ⟨i, j, rfl, rfl, q⟩
theorem k_addS {x y : Str} (h : x.length + y.length ≤ sizeLine) (q : Q (.str (x ++ y)) H) : rAddU K (.str x) (.str y) H Q := .inr (.inl ⟨x, y, rfl, rfl, h, q⟩)
theorem k_addL (h1 : H a = some (.lst xs)) (h2 : H l = some (.lst ys)) (h3 : xs.length + ys.length ≤ sizeLine) (q : ∀ p, H p = none → Q (.ref p) (upd H p (.lst (xs ++ ys)))) : rAddU K (.ref a) (.ref l) H Q := .inr (.inr (.inl ⟨a, l, xs, ys, rfl, rfl, h1, h2, h3, q⟩))
theorem k_addT (h1 : SqT K H a xs) (h2 : SqT K H l ys) (h3 : xs.length + ys.length ≤ sizeLine) (q1 : xs = [] → Q (.ref l) H) (q2 : xs ≠ [] → ys = [] → Q (.ref a) H) (q : ∀ p, H p = none → Q (.ref p) (upd H p (.tup (xs ++ ys)))) : rAddU K (.ref a) (.ref l) H Q :=
  .inr (.inr (.inr ⟨a, l, xs, ys, rfl, rfl, h1, h2, h3, q1, q2, fun _ _ => q⟩))
theorem k_sub (q : Q (.int (i - j)) H) : rI0 (fun i j => .int (i - j)) (.int i) (.int j) H Q := ⟨i, j, rfl, rfl, q⟩
theorem k_mulR (h : -(2 ^ 64) < j ∧ j < 2 ^ 64) (q : Q (.int (i * j)) H) : rI CMul (fun i j => .int (i * j)) (.int i) (.int j) H Q := ⟨i, j, rfl, rfl, .inr h, q⟩
theorem k_mulL (h : -(2 ^ 64) < i ∧ i < 2 ^ 64) (q : Q (.int (i * j)) H) : rI CMul (fun i j => .int (i * j)) (.int i) (.int j) H Q := ⟨i, j, rfl, rfl, .inl h, q⟩
theorem k_mod (h : 0 < j) (q : Q (.int (i % j)) H) : rI (fun _ j => 0 < j) (fun i j => .int (i % j)) (.int i) (.int j) H Q := ⟨i, j, rfl, rfl, h, q⟩
theorem k_fdiv (h : 0 < j) (h2 : j < 2 ^ 200) (q : Q (.int (i / j)) H) : rI CDivW (fun i j => .int (i / j)) (.int i) (.int j) H Q := ⟨i, j, rfl, rfl, wide_div h (b := 200) (by omega) (by decide) (by decide), q⟩
theorem k_pow {n : Nat} (h2 : n ≤ 1000000) (h3 : i.natAbs < 2 ^ 64) (q : Q (.int (i ^ n)) H) : rI CPow (fun i j => .int (i ^ j.toNat)) (.int i) (.int (n : Int)) H Q := ⟨i, n, rfl, rfl, ⟨by omega, by omega, h3⟩, q⟩
theorem k_neg (q : Q (.int (-i)) H) : rU (fun i => .int (-i)) (.int i) H Q := ⟨i, rfl, q⟩
theorem k_lt (q : Q (.bl (decide (i < j))) H) : rI0 (fun i j => .bl (decide (i < j))) (.int i) (.int j) H Q := ⟨i, j, rfl, rfl, q⟩
theorem k_le (q : Q (.bl (decide (i ≤ j))) H) : rI0 (fun i j => .bl (decide (i ≤ j))) (.int i) (.int j) H Q := ⟨i, j, rfl, rfl, q⟩
theorem k_gt (q : Q (.bl (decide (j < i))) H) : rI0 (fun i j => .bl (decide (j < i))) (.int i) (.int j) H Q := ⟨i, j, rfl, rfl, q⟩
theorem k_ge (q : Q (.bl (decide (j ≤ i))) H) : rI0 (fun i j => .bl (decide (j ≤ i))) (.int i) (.int j) H Q := ⟨i, j, rfl, rfl, q⟩
theorem dec_eqI : decide (V.int i = V.int j) = decide (i = j) := by
  by_cases h : i = j
  · subst h; simp
  · rw [decide_eq_false h]; exact decide_eq_false fun e => h (V.int.inj e)
theorem dec_eqS {x y : Str} : decide (V.str x = V.str y) = decide (x = y) := by
  by_cases h : x = y
  · subst h; simp
  · rw [decide_eq_false h]; exact decide_eq_false fun e => h (V.str.inj e)
theorem k_eqI (q : Q (.bl (decide (i = j))) H) : rEqU K (.int i) (.int j) H Q := .inl ⟨rfl, by rw [dec_eqI]; exact q⟩
theorem k_neI (q : Q (.bl (!decide (i = j))) H) : rNeU K (.int i) (.int j) H Q := .inl ⟨rfl, by rw [dec_eqI]; exact q⟩
theorem k_eqS {x y : Str} (q : Q (.bl (decide (x = y))) H) : rEqU K (.str x) (.str y) H Q := .inl ⟨rfl, by rw [dec_eqS]; exact q⟩
theorem k_neS {x y : Str} (q : Q (.bl (!decide (x = y))) H) : rNeU K (.str x) (.str y) H Q := .inl ⟨rfl, by rw [dec_eqS]; exact q⟩
theorem k_eqB (q : Q (.bl (decide (b = c))) H) : rEqU K (.bl b) (.bl c) H Q := .inl ⟨rfl, by
  have e : decide (V.bl b = V.bl c) = decide (b = c) := by cases b <;> cases c <;> decide
  rw [e]; exact q⟩
theorem k_neB (q : Q (.bl (!decide (b = c))) H) : rNeU K (.bl b) (.bl c) H Q := .inl ⟨rfl, by
  have e : decide (V.bl b = V.bl c) = decide (b = c) := by cases b <;> cases c <;> decide
  rw [e]; exact q⟩
theorem k_eqD {d e : PyData} (h1 : Dp K H x d) (h2 : Dp K H y e) (s1 : SeqAt.shaped d = true) (s2 : SeqAt.shaped e = true) (q : Q (.bl (PyData.eqv d e)) H) : rEqU K x y H Q := .inr ⟨d, e, h1, h2, s1, s2, q⟩
theorem k_neD {d e : PyData} (h1 : Dp K H x d) (h2 : Dp K H y e) (s1 : SeqAt.shaped d = true) (s2 : SeqAt.shaped e = true) (q : Q (.bl (!PyData.eqv d e)) H) : rNeU K x y H Q := .inr ⟨d, e, h1, h2, s1, s2, q⟩
theorem k_isN (q : Q (.bl (decide (x = .non))) H) : rIsU x .non H Q := .inl ⟨rfl, q⟩
theorem k_isnotN (q : Q (.bl (!decide (x = .non))) H) : rIsNotU x .non H Q := .inl ⟨rfl, q⟩
theorem k_lenL (h : SqL K H a xs) (q : Q (.int xs.length) H) : rLenU K [.ref a] H Q := .inl ⟨a, xs, rfl, .inl h, q⟩
theorem k_lenT (h : SqT K H a xs) (q : Q (.int xs.length) H) : rLenU K [.ref a] H Q := .inl ⟨a, xs, rfl, .inr h, q⟩
theorem k_lenS {w : Str} (h : w.length ≤ sizeLine) (q : Q (.int w.length) H) : rLenU K [.str w] H Q := .inr (.inl ⟨w, rfl, h, q⟩)
theorem k_ixL (h : SqL K H a xs) (h2 : atI xs i = some v) (q : Q v H) : rIx K (.ref a) (.int i) H Q := .inl ⟨a, xs, i, v, rfl, rfl, h, h2, q⟩
theorem k_ixT (h : SqT K H a xs) (h2 : atI xs i = some v) (q : Q v H) : rIx K (.ref a) (.int i) H Q := .inr (.inl ⟨a, xs, i, v, rfl, rfl, h, h2, q⟩)
theorem k_ixS {w : Str} {c : Nat} (h : w.length ≤ sizeLine) (h2 : atI w.cps.toList i = some c) (q : Q (.str ⟨#[c]⟩) H) : rIx K (.str w) (.int i) H Q := .inr (.inr ⟨w, i, c, rfl, rfl, h, h2, q⟩)
theorem k_bm {T : String} {r : V → List V → Hp → VK → Prop} (h : ta σ H fun x H1 => tyV K T x H1 ∧ tl σ H1 fun xs H2 => r x xs H2 Q) : tBM K T r ta tl σ H Q := h
theorem k_bm0 {T : String} {r : V → List V → Hp → VK → Prop} (h : ta σ H fun x H1 => tyV K T x H1 ∧ r x [] H1 Q) : tBM0 K T r ta σ H Q := h
theorem k_tyL {P : Prop} (h : SqL K H a xs) (q : P) : tyV K "list" (.ref a) H ∧ P := ⟨.inl ⟨rfl, _, h⟩, q⟩
theorem k_app (h : H a = some (.lst xs)) (hl : xs.length < sizeLine) (q : Q .non (upd H a (.lst (xs ++ [x])))) : rAppend (.ref a) [x] H Q := ⟨a, xs, x, rfl, rfl, h, hl, q⟩
theorem k_sl {r : V → Option Int → Option Int → Hp → VK → Prop} {tlo thi : TO} (h : te σ H fun x H1 => tlo σ H1 fun l H2 => thi σ H2 fun u H3 => r x l u H3 Q) : tSl r te tlo thi σ H Q := h
theorem k_nop {R : Option Int → Hp → Prop} (h : R none H) : tNoPart σ H R := h
theorem k_part {R : Option Int → Hp → Prop} (h : te σ H fun x H1 => ∃ i, x = .int i ∧ R (some i) H1) : tPart te σ H R := h
theorem k_partI {R : Int → Prop} (h : R i) : ∃ k, V.int i = .int k ∧ R k := ⟨i, rfl, h⟩
theorem k_slL {lo hi : Option Int} (h : SqL K H a xs) (q : ∀ p, H p = none → Q (.ref p) (upd H p (.lst (cutV xs lo hi)))) : rSlU K (.ref a) lo hi H Q := .inl ⟨a, xs, rfl, h, q⟩
theorem k_list (h : SqL K H a xs) (q : ∀ p, H p = none → Q (.ref p) (upd H p (.lst xs))) : rListU K [V.ref a] H Q := ⟨a, xs, rfl, .inl h, q⟩
theorem k_for {wi : TI} {g : TG} {tb : TS} (h : wi σ H fun J H1 => ∃ W : Nat → Nat → L2.St → Hp → Prop, (∃ m, W 0 m σ H1) ∧ ∀ i m σ H, W i m σ H → (J.stop i H ∧ D.nx σ H) ∨ (J.go i H ∧ ∃ N : L2.St → Hp → Prop, (∀ σ' H', N σ' H' → ∃ m', m' < m ∧ W (i + 1) m' σ' H') ∧ ∀ x H', J.yld i H x H' → g x σ H' fun σ2 H2 => tb { D with nx := N, ct := N, bk := D.nx } σ2 H2)) : tFor wi g tb D σ H := h
theorem k_itL {R : It → Hp → Prop} (h : te σ H fun x H1 => ∃ a, x = .ref a ∧ (∃ xs, SqL K H1 a xs) ∧ R (Itl K a) H1) : iList K te σ H R := h
theorem k_itl {R : Addr → Prop} (h1 : SqL K H a xs) (h : R a) : ∃ b, V.ref a = .ref b ∧ (∃ xs, SqL K H b xs) ∧ R b := ⟨a, rfl, ⟨xs, h1⟩, h⟩
theorem k_itT {R : It → Hp → Prop} (h : te σ H fun x H1 => ∃ a, x = .ref a ∧ (∃ xs, SqT K H1 a xs) ∧ R (Itt K a) H1) : iTup K te σ H R := h
theorem k_itt {R : Addr → Prop} (h1 : SqT K H a xs) (h : R a) : ∃ b, V.ref a = .ref b ∧ (∃ xs, SqT K H b xs) ∧ R b := ⟨a, rfl, ⟨xs, h1⟩, h⟩
theorem k_itR1 {R : It → Hp → Prop} (h : tl σ H fun vs H1 => ∃ j : Int, vs = [.int j] ∧ -(2 ^ 62) ≤ j ∧ j < 2 ^ 62 ∧ R (Itr 0 j.toNat) H1) : iRng1 tl σ H R := h
theorem k_itr1 {R : Int → Prop} (h1 : -(2 ^ 62) ≤ j ∧ j < 2 ^ 62) (h : R j) : ∃ k : Int, [V.int j] = [.int k] ∧ -(2 ^ 62) ≤ k ∧ k < 2 ^ 62 ∧ R k := ⟨j, rfl, h1.1, h1.2, h⟩
theorem k_itR2 {R : It → Hp → Prop} (h : tl σ H fun vs H1 => ∃ i j : Int, vs = [.int i, .int j] ∧ (-(2 ^ 62) ≤ i ∧ i < 2 ^ 62 ∧ -(2 ^ 62) ≤ j ∧ j < 2 ^ 62) ∧ R (Itr i (j - i).toNat) H1) : iRng2 tl σ H R := h
theorem k_itr2 {R : Int → Int → Prop} (h1 : -(2 ^ 62) ≤ i ∧ i < 2 ^ 62 ∧ -(2 ^ 62) ≤ j ∧ j < 2 ^ 62) (h : R i j) : ∃ k m : Int, [V.int i, V.int j] = [.int k, .int m] ∧ (-(2 ^ 62) ≤ k ∧ k < 2 ^ 62 ∧ -(2 ^ 62) ≤ m ∧ m < 2 ^ 62) ∧ R k m := ⟨i, j, rfl, h1, h⟩
theorem k_dnew (q : ∀ p, H p = none → Q (.ref p) (upd H p (.dK []))) : tDNewK σ H Q := q
end
/-! ### ifs -/
theorem k_ite {b : Bool} {A B : Prop} (h1 : b = true → A) (h2 : b = false → B) : if b = true then A else B := by
  cases b with
  | true => rw [if_pos rfl]; exact h1 rfl
  | false => rw [if_neg Bool.false_ne_true]; exact h2 rfl
theorem k_itd {p A B : Prop} [Decidable p] (h1 : p → A) (h2 : ¬ p → B) : if decide p = true then A else B := k_ite (fun h => h1 (of_decide_eq_true h)) fun h => h2 (of_decide_eq_false h)
theorem k_itn {p A B : Prop} [Decidable p] (h1 : ¬ p → A) (h2 : p → B) : if (!decide p) = true then A else B := k_ite (fun h => h1 (of_decide_eq_false (by simpa using h))) fun h => h2 (of_decide_eq_true (by simpa using h))
theorem k_pos {p A B : Prop} [Decidable p] (hp : p) (h1 : A) : if decide p = true then A else B := k_itd (fun _ => h1) fun h => absurd hp h
theorem k_neg' {p A B : Prop} [Decidable p] (hp : ¬ p) (h1 : B) : if decide p = true then A else B := k_itd (fun h => absurd h hp) fun _ => h1
theorem k_npos {p A B : Prop} [Decidable p] (hp : ¬ p) (h1 : A) : if (!decide p) = true then A else B := k_itn (fun _ => h1) fun h => absurd h hp
theorem k_nneg {p A B : Prop} [Decidable p] (hp : p) (h1 : B) : if (!decide p) = true then A else B := k_itn (fun h => absurd hp h) fun _ => h1
theorem k_tt {A B : Prop} (h : A) : if true = true then A else B := by rw [if_pos rfl]; exact h
theorem k_ff {A B : Prop} (h : B) : if false = true then A else B := by rw [if_neg Bool.false_ne_true]; exact h
/-! ### what stands where -/
theorem up_new {H : Hp} {a p : Addr} {o u : HO} (hp : H p = none) (h : H a = some o) : upd H p u a = some o := same_new hp _ _ h
theorem up_ne {H : Hp} {a p : Addr} {o u : HO} (n : a ≠ p) (h : H a = some o) : upd H p u a = some o := by rw [upd_ne n]; exact h
theorem Keep.at {d a : Addr} {H H' : Hp} {o : HO} (k : Keep d H H') (n : a ≠ d) (h : H a = some o) : H' a = some o := k a o n h
end Ls
namespace Ls
theorem hu1 {n : Nat} (h : n + 66 < PySem.cLine) : n + 1 < PySem.cLine := by omega
end Ls
namespace Ls
open PySem PySem.Spec PyProof.Rows L2
theorem k_body {t : TS} {D : Ends} {s0 s1 : L2.St} {H : Hp} (e : s0 = s1) (h : t D s1 H) : t D s0 H := e ▸ h
end Ls
namespace Ls
open PySem PySem.Spec PyProof.Rows L2
/-- a statement, then the rest, the ways joined between: M what holds there -/
def tCut (t u : TS) : TS := fun D σ H => ∃ M : L2.St → Hp → Prop, t { D with nx := M } σ H ∧ ∀ σ' H', M σ' H' → u D σ' H'
theorem k_cut {t u : TS} {D : Ends} {σ : L2.St} {H : Hp} (M : L2.St → Hp → Prop) (h1 : t { D with nx := M } σ H) (h2 : ∀ σ' H', M σ' H' → u D σ' H') : tCut t u D σ H := ⟨M, h1, h2⟩
end Ls
namespace Ls
open PySem PySem.Spec PyProof.Rows L2
theorem pss_cut {X : Cx} {st : Stmt} {rest : List Stmt} {t u : TS} (h1 : PS X st t) (h2 : PSs X rest u) : PSs X (st :: rest) (tCut t u) := by
  refine ⟨fun pins s σ H D I h => ?_⟩
  obtain ⟨M, hm, hu⟩ := h
  refine wpAny_execs_cons (thn (h1.run pins s σ H { D with nx := M } I hm) fun f s1 q => ?_)
  cases f with
  | next =>
    obtain ⟨σ', H', I', q⟩ := q
    exact h2.run pins s1 σ' H' D I' (hu σ' H' q)
  | ret v => exact q
  | brk => exact q
  | cont => exact q
theorem k_powL {H : Hp} {Q : VK} {i j v : Int} (h1 : 0 ≤ j ∧ j ≤ 1000000) (h3 : i.natAbs < 2 ^ 64) (e : i ^ j.toNat = v) (q : Q (.int v) H) : rI CPow (fun i j => .int (i ^ j.toNat)) (.int i) (.int j) H Q := ⟨i, j, rfl, rfl, ⟨h1.1, h1.2, h3⟩, by
  show Q (.int (i ^ j.toNat)) H
  rw [e]
  exact q⟩
end Ls
namespace Ls
open PySem PySem.Spec PyProof.Rows L2
theorem pe_ty {X : Cx} {x : Str} {pos : Pos} (T : String) (hg : Gl X x) (hm : X.mg x = none) (hv : bootBuiltins x = some (.type T)) (hn : x ≠ "__name__" := by decide) (hd : (x == ("__debug__" : Str)) = false := by decide) : PE X (.Name x pos) (tC (.ty T)) := pe_bltn (v := .ty T) hg hm hv rfl hn hd
end Ls
namespace Ls
open PySem PySem.Spec PyProof.Rows L2
theorem pe_gc {X : Cx} {x : Str} {pos : Pos} {v : V} (hg : Gl X x) (h : ∃ u, X.mg x = some u ∧ RelV v u) (hd : (x == ("__debug__" : Str)) = false := by decide) : PE X (.Name x pos) (tC v) := by
  obtain ⟨u, h1, h2⟩ := h
  exact pe_glob hg h1 h2 hd
end Ls
namespace Ls
theorem k_nt {A B : Prop} (h : B) : if (!true) = true then A else B := by rw [if_neg (by decide)]; exact h
theorem k_nf {A B : Prop} (h : A) : if (!false) = true then A else B := by rw [if_pos (by decide)]; exact h
end Ls
-- own part: U4
namespace Ls
open PySem PySem.Spec PyProof.Rows L2
/-! ### slots by number -/
section
variable {H : Hp} {Q : VK} {D : Ends} {te : TE} {v x : V} {s : L2.St} {R : L2.St → Hp → Prop} {o0 o1 o2 o3 o4 o5 o6 o7 o8 o9 o10 o11 o12 o13 o14 o15 o16 o17 o18 o19 o20 o21 o22 o23 o24 o25 o26 o27 o28 o29 o30 o31 o32 o33 o34 o35 o36 o37 o38 o39 o40 o41 o42 o43 : Option V}
theorem k_v0 (q : Q v H) : tVar 0 (some v :: s) H Q := ⟨v, rfl, q⟩
theorem k_s0 (q : te (o0 :: s) H fun x H1 => D.nx (some x :: s) H1) : tAsg te (gName 0) D (o0 :: s) H := q
theorem k_g0 (q : R (some x :: s) H) : gName 0 x (o0 :: s) H R := q
theorem k_v1 (q : Q v H) : tVar 1 (o0 :: some v :: s) H Q := ⟨v, rfl, q⟩
theorem k_s1 (q : te (o0 :: o1 :: s) H fun x H1 => D.nx (o0 :: some x :: s) H1) : tAsg te (gName 1) D (o0 :: o1 :: s) H := q
theorem k_g1 (q : R (o0 :: some x :: s) H) : gName 1 x (o0 :: o1 :: s) H R := q
theorem k_v2 (q : Q v H) : tVar 2 (o0 :: o1 :: some v :: s) H Q := ⟨v, rfl, q⟩
theorem k_s2 (q : te (o0 :: o1 :: o2 :: s) H fun x H1 => D.nx (o0 :: o1 :: some x :: s) H1) : tAsg te (gName 2) D (o0 :: o1 :: o2 :: s) H := q
theorem k_g2 (q : R (o0 :: o1 :: some x :: s) H) : gName 2 x (o0 :: o1 :: o2 :: s) H R := q
theorem k_v3 (q : Q v H) : tVar 3 (o0 :: o1 :: o2 :: some v :: s) H Q := ⟨v, rfl, q⟩
theorem k_s3 (q : te (o0 :: o1 :: o2 :: o3 :: s) H fun x H1 => D.nx (o0 :: o1 :: o2 :: some x :: s) H1) : tAsg te (gName 3) D (o0 :: o1 :: o2 :: o3 :: s) H := q
theorem k_g3 (q : R (o0 :: o1 :: o2 :: some x :: s) H) : gName 3 x (o0 :: o1 :: o2 :: o3 :: s) H R := q
theorem k_v4 (q : Q v H) : tVar 4 (o0 :: o1 :: o2 :: o3 :: some v :: s) H Q := ⟨v, rfl, q⟩
theorem k_s4 (q : te (o0 :: o1 :: o2 :: o3 :: o4 :: s) H fun x H1 => D.nx (o0 :: o1 :: o2 :: o3 :: some x :: s) H1) : tAsg te (gName 4) D (o0 :: o1 :: o2 :: o3 :: o4 :: s) H := q
theorem k_g4 (q : R (o0 :: o1 :: o2 :: o3 :: some x :: s) H) : gName 4 x (o0 :: o1 :: o2 :: o3 :: o4 :: s) H R := q
theorem k_v5 (q : Q v H) : tVar 5 (o0 :: o1 :: o2 :: o3 :: o4 :: some v :: s) H Q := ⟨v, rfl, q⟩
theorem k_s5 (q : te (o0 :: o1 :: o2 :: o3 :: o4 :: o5 :: s) H fun x H1 => D.nx (o0 :: o1 :: o2 :: o3 :: o4 :: some x :: s) H1) : tAsg te (gName 5) D (o0 :: o1 :: o2 :: o3 :: o4 :: o5 :: s) H := q
theorem k_g5 (q : R (o0 :: o1 :: o2 :: o3 :: o4 :: some x :: s) H) : gName 5 x (o0 :: o1 :: o2 :: o3 :: o4 :: o5 :: s) H R := q
theorem k_v6 (q : Q v H) : tVar 6 (o0 :: o1 :: o2 :: o3 :: o4 :: o5 :: some v :: s) H Q := ⟨v, rfl, q⟩
theorem k_s6 (q : te (o0 :: o1 :: o2 :: o3 :: o4 :: o5 :: o6 :: s) H fun x H1 => D.nx (o0 :: o1 :: o2 :: o3 :: o4 :: o5 :: some x :: s) H1) : tAsg te (gName 6) D (o0 :: o1 :: o2 :: o3 :: o4 :: o5 :: o6 :: s) H := q
theorem k_g6 (q : R (o0 :: o1 :: o2 :: o3 :: o4 :: o5 :: some x :: s) H) : gName 6 x (o0 :: o1 :: o2 :: o3 :: o4 :: o5 :: o6 :: s) H R := q
theorem k_v7 (q : Q v H) : tVar 7 (o0 :: o1 :: o2 :: o3 :: o4 :: o5 :: o6 :: some v :: s) H Q := ⟨v, rfl, q⟩
theorem k_s7 (q : te (o0 :: o1 :: o2 :: o3 :: o4 :: o5 :: o6 :: o7 :: s) H fun x H1 => D.nx (o0 :: o1 :: o2 :: o3 :: o4 :: o5 :: o6 :: some x :: s) H1) : tAsg te (gName 7) D (o0 :: o1 :: o2 :: o3 :: o4 :: o5 :: o6 :: o7 :: s) H := q
theorem k_g7 (q : R (o0 :: o1 :: o2 :: o3 :: o4 :: o5 :: o6 :: some x :: s) H) : gName 7 x (o0 :: o1 :: o2 :: o3 :: o4 :: o5 :: o6 :: o7 :: s) H R := q
theorem k_v8 (q : Q v H) : tVar 8 (o0 :: o1 :: o2 :: o3 :: o4 :: o5 :: o6 :: o7 :: some v :: s) H Q := ⟨v, rfl, q⟩
theorem k_s8 (q : te (o0 :: o1 :: o2 :: o3 :: o4 :: o5 :: o6 :: o7 :: o8 :: s) H fun x H1 => D.nx (o0 :: o1 :: o2 :: o3 :: o4 :: o5 :: o6 :: o7 :: some x :: s) H1) : tAsg te (gName 8) D (o0 :: o1 :: o2 :: o3 :: o4 :: o5 :: o6 :: o7 :: o8 :: s) H := q
theorem k_g8 (q : R (o0 :: o1 :: o2 :: o3 :: o4 :: o5 :: o6 :: o7 :: some x :: s) H) : gName 8 x (o0 :: o1 :: o2 :: o3 :: o4 :: o5 :: o6 :: o7 :: o8 :: s) H R := q
theorem k_v9 (q : Q v H) : tVar 9 (o0 :: o1 :: o2 :: o3 :: o4 :: o5 :: o6 :: o7 :: o8 :: some v :: s) H Q := ⟨v, rfl, q⟩
theorem k_s9 (q : te (o0 :: o1 :: o2 :: o3 :: o4 :: o5 :: o6 :: o7 :: o8 :: o9 :: s) H fun x H1 => D.nx (o0 :: o1 :: o2 :: o3 :: o4 :: o5 :: o6 :: o7 :: o8 :: some x :: s) H1) : tAsg te (gName 9) D (o0 :: o1 :: o2 :: o3 :: o4 :: o5 :: o6 :: o7 :: o8 :: o9 :: s) H := q
theorem k_g9 (q : R (o0 :: o1 :: o2 :: o3 :: o4 :: o5 :: o6 :: o7 :: o8 :: some x :: s) H) : gName 9 x (o0 :: o1 :: o2 :: o3 :: o4 :: o5 :: o6 :: o7 :: o8 :: o9 :: s) H R := q
theorem k_v10 (q : Q v H) : tVar 10 (o0 :: o1 :: o2 :: o3 :: o4 :: o5 :: o6 :: o7 :: o8 :: o9 :: some v :: s) H Q := ⟨v, rfl, q⟩
theorem k_s10 (q : te (o0 :: o1 :: o2 :: o3 :: o4 :: o5 :: o6 :: o7 :: o8 :: o9 :: o10 :: s) H fun x H1 => D.nx (o0 :: o1 :: o2 :: o3 :: o4 :: o5 :: o6 :: o7 :: o8 :: o9 :: some x :: s) H1) : tAsg te (gName 10) D (o0 :: o1 :: o2 :: o3 :: o4 :: o5 :: o6 :: o7 :: o8 :: o9 :: o10 :: s) H := q
theorem k_g10 (q : R (o0 :: o1 :: o2 :: o3 :: o4 :: o5 :: o6 :: o7 :: o8 :: o9 :: some x :: s) H) : gName 10 x (o0 :: o1 :: o2 :: o3 :: o4 :: o5 :: o6 :: o7 :: o8 :: o9 :: o10 :: s) H R := q
theorem k_v11 (q : Q v H) : tVar 11 (o0 :: o1 :: o2 :: o3 :: o4 :: o5 :: o6 :: o7 :: o8 :: o9 :: o10 :: some v :: s) H Q := ⟨v, rfl, q⟩
theorem k_s11 (q : te (o0 :: o1 :: o2 :: o3 :: o4 :: o5 :: o6 :: o7 :: o8 :: o9 :: o10 :: o11 :: s) H fun x H1 => D.nx (o0 :: o1 :: o2 :: o3 :: o4 :: o5 :: o6 :: o7 :: o8 :: o9 :: o10 :: some x :: s) H1) : tAsg te (gName 11) D (o0 :: o1 :: o2 :: o3 :: o4 :: o5 :: o6 :: o7 :: o8 :: o9 :: o10 :: o11 :: s) H := q
theorem k_g11 (q : R (o0 :: o1 :: o2 :: o3 :: o4 :: o5 :: o6 :: o7 :: o8 :: o9 :: o10 :: some x :: s) H) : gName 11 x (o0 :: o1 :: o2 :: o3 :: o4 :: o5 :: o6 :: o7 :: o8 :: o9 :: o10 :: o11 :: s) H R := q
theorem k_v12 (q : Q v H) : tVar 12 (o0 :: o1 :: o2 :: o3 :: o4 :: o5 :: o6 :: o7 :: o8 :: o9 :: o10 :: o11 :: some v :: s) H Q := ⟨v, rfl, q⟩
theorem k_s12 (q : te (o0 :: o1 :: o2 :: o3 :: o4 :: o5 :: o6 :: o7 :: o8 :: o9 :: o10 :: o11 :: o12 :: s) H fun x H1 => D.nx (o0 :: o1 :: o2 :: o3 :: o4 :: o5 :: o6 :: o7 :: o8 :: o9 :: o10 :: o11 :: some x :: s) H1) : tAsg te (gName 12) D (o0 :: o1 :: o2 :: o3 :: o4 :: o5 :: o6 :: o7 :: o8 :: o9 :: o10 :: o11 :: o12 :: s) H := q
theorem k_g12 (q : R (o0 :: o1 :: o2 :: o3 :: o4 :: o5 :: o6 :: o7 :: o8 :: o9 :: o10 :: o11 :: some x :: s) H) : gName 12 x (o0 :: o1 :: o2 :: o3 :: o4 :: o5 :: o6 :: o7 :: o8 :: o9 :: o10 :: o11 :: o12 :: s) H R := q
theorem k_v13 (q : Q v H) : tVar 13 (o0 :: o1 :: o2 :: o3 :: o4 :: o5 :: o6 :: o7 :: o8 :: o9 :: o10 :: o11 :: o12 :: some v :: s) H Q := ⟨v, rfl, q⟩
theorem k_s13 (q : te (o0 :: o1 :: o2 :: o3 :: o4 :: o5 :: o6 :: o7 :: o8 :: o9 :: o10 :: o11 :: o12 :: o13 :: s) H fun x H1 => D.nx (o0 :: o1 :: o2 :: o3 :: o4 :: o5 :: o6 :: o7 :: o8 :: o9 :: o10 :: o11 :: o12 :: some x :: s) H1) : tAsg te (gName 13) D (o0 :: o1 :: o2 :: o3 :: o4 :: o5 :: o6 :: o7 :: o8 :: o9 :: o10 :: o11 :: o12 :: o13 :: s) H := q
theorem k_g13 (q : R (o0 :: o1 :: o2 :: o3 :: o4 :: o5 :: o6 :: o7 :: o8 :: o9 :: o10 :: o11 :: o12 :: some x :: s) H) : gName 13 x (o0 :: o1 :: o2 :: o3 :: o4 :: o5 :: o6 :: o7 :: o8 :: o9 :: o10 :: o11 :: o12 :: o13 :: s) H R := q
theorem k_v14 (q : Q v H) : tVar 14 (o0 :: o1 :: o2 :: o3 :: o4 :: o5 :: o6 :: o7 :: o8 :: o9 :: o10 :: o11 :: o12 :: o13 :: some v :: s) H Q := ⟨v, rfl, q⟩
theorem k_s14 (q : te (o0 :: o1 :: o2 :: o3 :: o4 :: o5 :: o6 :: o7 :: o8 :: o9 :: o10 :: o11 :: o12 :: o13 :: o14 :: s) H fun x H1 => D.nx (o0 :: o1 :: o2 :: o3 :: o4 :: o5 :: o6 :: o7 :: o8 :: o9 :: o10 :: o11 :: o12 :: o13 :: some x :: s) H1) : tAsg te (gName 14) D (o0 :: o1 :: o2 :: o3 :: o4 :: o5 :: o6 :: o7 :: o8 :: o9 :: o10 :: o11 :: o12 :: o13 :: o14 :: s) H := q
theorem k_g14 (q : R (o0 :: o1 :: o2 :: o3 :: o4 :: o5 :: o6 :: o7 :: o8 :: o9 :: o10 :: o11 :: o12 :: o13 :: some x :: s) H) : gName 14 x (o0 :: o1 :: o2 :: o3 :: o4 :: o5 :: o6 :: o7 :: o8 :: o9 :: o10 :: o11 :: o12 :: o13 :: o14 :: s) H R := q
theorem k_v15 (q : Q v H) : tVar 15 (o0 :: o1 :: o2 :: o3 :: o4 :: o5 :: o6 :: o7 :: o8 :: o9 :: o10 :: o11 :: o12 :: o13 :: o14 :: some v :: s) H Q := ⟨v, rfl, q⟩
theorem k_s15 (q : te (o0 :: o1 :: o2 :: o3 :: o4 :: o5 :: o6 :: o7 :: o8 :: o9 :: o10 :: o11 :: o12 :: o13 :: o14 :: o15 :: s) H fun x H1 => D.nx (o0 :: o1 :: o2 :: o3 :: o4 :: o5 :: o6 :: o7 :: o8 :: o9 :: o10 :: o11 :: o12 :: o13 :: o14 :: some x :: s) H1) : tAsg te (gName 15) D (o0 :: o1 :: o2 :: o3 :: o4 :: o5 :: o6 :: o7 :: o8 :: o9 :: o10 :: o11 :: o12 :: o13 :: o14 :: o15 :: s) H := q
theorem k_g15 (q : R (o0 :: o1 :: o2 :: o3 :: o4 :: o5 :: o6 :: o7 :: o8 :: o9 :: o10 :: o11 :: o12 :: o13 :: o14 :: some x :: s) H) : gName 15 x (o0 :: o1 :: o2 :: o3 :: o4 :: o5 :: o6 :: o7 :: o8 :: o9 :: o10 :: o11 :: o12 :: o13 :: o14 :: o15 :: s) H R := q
theorem k_v16 (q : Q v H) : tVar 16 (o0 :: o1 :: o2 :: o3 :: o4 :: o5 :: o6 :: o7 :: o8 :: o9 :: o10 :: o11 :: o12 :: o13 :: o14 :: o15 :: some v :: s) H Q := ⟨v, rfl, q⟩
theorem k_s16 (q : te (o0 :: o1 :: o2 :: o3 :: o4 :: o5 :: o6 :: o7 :: o8 :: o9 :: o10 :: o11 :: o12 :: o13 :: o14 :: o15 :: o16 :: s) H fun x H1 => D.nx (o0 :: o1 :: o2 :: o3 :: o4 :: o5 :: o6 :: o7 :: o8 :: o9 :: o10 :: o11 :: o12 :: o13 :: o14 :: o15 :: some x :: s) H1) : tAsg te (gName 16) D (o0 :: o1 :: o2 :: o3 :: o4 :: o5 :: o6 :: o7 :: o8 :: o9 :: o10 :: o11 :: o12 :: o13 :: o14 :: o15 :: o16 :: s) H := q
theorem k_g16 (q : R (o0 :: o1 :: o2 :: o3 :: o4 :: o5 :: o6 :: o7 :: o8 :: o9 :: o10 :: o11 :: o12 :: o13 :: o14 :: o15 :: some x :: s) H) : gName 16 x (o0 :: o1 :: o2 :: o3 :: o4 :: o5 :: o6 :: o7 :: o8 :: o9 :: o10 :: o11 :: o12 :: o13 :: o14 :: o15 :: o16 :: s) H R := q
theorem k_v17 (q : Q v H) : tVar 17 (o0 :: o1 :: o2 :: o3 :: o4 :: o5 :: o6 :: o7 :: o8 :: o9 :: o10 :: o11 :: o12 :: o13 :: o14 :: o15 :: o16 :: some v :: s) H Q := ⟨v, rfl, q⟩
theorem k_s17 (q : te (o0 :: o1 :: o2 :: o3 :: o4 :: o5 :: o6 :: o7 :: o8 :: o9 :: o10 :: o11 :: o12 :: o13 :: o14 :: o15 :: o16 :: o17 :: s) H fun x H1 => D.nx (o0 :: o1 :: o2 :: o3 :: o4 :: o5 :: o6 :: o7 :: o8 :: o9 :: o10 :: o11 :: o12 :: o13 :: o14 :: o15 :: o16 :: some x :: s) H1) : tAsg te (gName 17) D (o0 :: o1 :: o2 :: o3 :: o4 :: o5 :: o6 :: o7 :: o8 :: o9 :: o10 :: o11 :: o12 :: o13 :: o14 :: o15 :: o16 :: o17 :: s) H := q
theorem k_g17 (q : R (o0 :: o1 :: o2 :: o3 :: o4 :: o5 :: o6 :: o7 :: o8 :: o9 :: o10 :: o11 :: o12 :: o13 :: o14 :: o15 :: o16 :: some x :: s) H) : gName 17 x (o0 :: o1 :: o2 :: o3 :: o4 :: o5 :: o6 :: o7 :: o8 :: o9 :: o10 :: o11 :: o12 :: o13 :: o14 :: o15 :: o16 :: o17 :: s) H R := q
theorem k_v18 (q : Q v H) : tVar 18 (o0 :: o1 :: o2 :: o3 :: o4 :: o5 :: o6 :: o7 :: o8 :: o9 :: o10 :: o11 :: o12 :: o13 :: o14 :: o15 :: o16 :: o17 :: some v :: s) H Q := ⟨v, rfl, q⟩
theorem k_s18 (q : te (o0 :: o1 :: o2 :: o3 :: o4 :: o5 :: o6 :: o7 :: o8 :: o9 :: o10 :: o11 :: o12 :: o13 :: o14 :: o15 :: o16 :: o17 :: o18 :: s) H fun x H1 => D.nx (o0 :: o1 :: o2 :: o3 :: o4 :: o5 :: o6 :: o7 :: o8 :: o9 :: o10 :: o11 :: o12 :: o13 :: o14 :: o15 :: o16 :: o17 :: some x :: s) H1) : tAsg te (gName 18) D (o0 :: o1 :: o2 :: o3 :: o4 :: o5 :: o6 :: o7 :: o8 :: o9 :: o10 :: o11 :: o12 :: o13 :: o14 :: o15 :: o16 :: o17 :: o18 :: s) H := q
theorem k_g18 (q : R (o0 :: o1 :: o2 :: o3 :: o4 :: o5 :: o6 :: o7 :: o8 :: o9 :: o10 :: o11 :: o12 :: o13 :: o14 :: o15 :: o16 :: o17 :: some x :: s) H) : gName 18 x (o0 :: o1 :: o2 :: o3 :: o4 :: o5 :: o6 :: o7 :: o8 :: o9 :: o10 :: o11 :: o12 :: o13 :: o14 :: o15 :: o16 :: o17 :: o18 :: s) H R := q
theorem k_v19 (q : Q v H) : tVar 19 (o0 :: o1 :: o2 :: o3 :: o4 :: o5 :: o6 :: o7 :: o8 :: o9 :: o10 :: o11 :: o12 :: o13 :: o14 :: o15 :: o16 :: o17 :: o18 :: some v :: s) H Q := ⟨v, rfl, q⟩
theorem k_s19 (q : te (o0 :: o1 :: o2 :: o3 :: o4 :: o5 :: o6 :: o7 :: o8 :: o9 :: o10 :: o11 :: o12 :: o13 :: o14 :: o15 :: o16 :: o17 :: o18 :: o19 :: s) H fun x H1 => D.nx (o0 :: o1 :: o2 :: o3 :: o4 :: o5 :: o6 :: o7 :: o8 :: o9 :: o10 :: o11 :: o12 :: o13 :: o14 :: o15 :: o16 :: o17 :: o18 :: some x :: s) H1) : tAsg te (gName 19) D (o0 :: o1 :: o2 :: o3 :: o4 :: o5 :: o6 :: o7 :: o8 :: o9 :: o10 :: o11 :: o12 :: o13 :: o14 :: o15 :: o16 :: o17 :: o18 :: o19 :: s) H := q
theorem k_g19 (q : R (o0 :: o1 :: o2 :: o3 :: o4 :: o5 :: o6 :: o7 :: o8 :: o9 :: o10 :: o11 :: o12 :: o13 :: o14 :: o15 :: o16 :: o17 :: o18 :: some x :: s) H) : gName 19 x (o0 :: o1 :: o2 :: o3 :: o4 :: o5 :: o6 :: o7 :: o8 :: o9 :: o10 :: o11 :: o12 :: o13 :: o14 :: o15 :: o16 :: o17 :: o18 :: o19 :: s) H R := q
theorem k_v20 (q : Q v H) : tVar 20 (o0 :: o1 :: o2 :: o3 :: o4 :: o5 :: o6 :: o7 :: o8 :: o9 :: o10 :: o11 :: o12 :: o13 :: o14 :: o15 :: o16 :: o17 :: o18 :: o19 :: some v :: s) H Q := ⟨v, rfl, q⟩
theorem k_s20 (q : te (o0 :: o1 :: o2 :: o3 :: o4 :: o5 :: o6 :: o7 :: o8 :: o9 :: o10 :: o11 :: o12 :: o13 :: o14 :: o15 :: o16 :: o17 :: o18 :: o19 :: o20 :: s) H fun x H1 => D.nx (o0 :: o1 :: o2 :: o3 :: o4 :: o5 :: o6 :: o7 :: o8 :: o9 :: o10 :: o11 :: o12 :: o13 :: o14 :: o15 :: o16 :: o17 :: o18 :: o19 :: some x :: s) H1) : tAsg te (gName 20) D (o0 :: o1 :: o2 :: o3 :: o4 :: o5 :: o6 :: o7 :: o8 :: o9 :: o10 :: o11 :: o12 :: o13 :: o14 :: o15 :: o16 :: o17 :: o18 :: o19 :: o20 :: s) H := q
theorem k_g20 (q : R (o0 :: o1 :: o2 :: o3 :: o4 :: o5 :: o6 :: o7 :: o8 :: o9 :: o10 :: o11 :: o12 :: o13 :: o14 :: o15 :: o16 :: o17 :: o18 :: o19 :: some x :: s) H) : gName 20 x (o0 :: o1 :: o2 :: o3 :: o4 :: o5 :: o6 :: o7 :: o8 :: o9 :: o10 :: o11 :: o12 :: o13 :: o14 :: o15 :: o16 :: o17 :: o18 :: o19 :: o20 :: s) H R := q
theorem k_v21 (q : Q v H) : tVar 21 (o0 :: o1 :: o2 :: o3 :: o4 :: o5 :: o6 :: o7 :: o8 :: o9 :: o10 :: o11 :: o12 :: o13 :: o14 :: o15 :: o16 :: o17 :: o18 :: o19 :: o20 :: some v :: s) H Q := ⟨v, rfl, q⟩
theorem k_s21 (q : te (o0 :: o1 :: o2 :: o3 :: o4 :: o5 :: o6 :: o7 :: o8 :: o9 :: o10 :: o11 :: o12 :: o13 :: o14 :: o15 :: o16 :: o17 :: o18 :: o19 :: o20 :: o21 :: s) H fun x H1 => D.nx (o0 :: o1 :: o2 :: o3 :: o4 :: o5 :: o6 :: o7 :: o8 :: o9 :: o10 :: o11 :: o12 :: o13 :: o14 :: o15 :: o16 :: o17 :: o18 :: o19 :: o20 :: some x :: s) H1) : tAsg te (gName 21) D (o0 :: o1 :: o2 :: o3 :: o4 :: o5 :: o6 :: o7 :: o8 :: o9 :: o10 :: o11 :: o12 :: o13 :: o14 :: o15 :: o16 :: o17 :: o18 :: o19 :: o20 :: o21 :: s) H := q
theorem k_g21 (q : R (o0 :: o1 :: o2 :: o3 :: o4 :: o5 :: o6 :: o7 :: o8 :: o9 :: o10 :: o11 :: o12 :: o13 :: o14 :: o15 :: o16 :: o17 :: o18 :: o19 :: o20 :: some x :: s) H) : gName 21 x (o0 :: o1 :: o2 :: o3 :: o4 :: o5 :: o6 :: o7 :: o8 :: o9 :: o10 :: o11 :: o12 :: o13 :: o14 :: o15 :: o16 :: o17 :: o18 :: o19 :: o20 :: o21 :: s) H R := q
theorem k_v22 (q : Q v H) : tVar 22 (o0 :: o1 :: o2 :: o3 :: o4 :: o5 :: o6 :: o7 :: o8 :: o9 :: o10 :: o11 :: o12 :: o13 :: o14 :: o15 :: o16 :: o17 :: o18 :: o19 :: o20 :: o21 :: some v :: s) H Q := ⟨v, rfl, q⟩
theorem k_s22 (q : te (o0 :: o1 :: o2 :: o3 :: o4 :: o5 :: o6 :: o7 :: o8 :: o9 :: o10 :: o11 :: o12 :: o13 :: o14 :: o15 :: o16 :: o17 :: o18 :: o19 :: o20 :: o21 :: o22 :: s) H fun x H1 => D.nx (o0 :: o1 :: o2 :: o3 :: o4 :: o5 :: o6 :: o7 :: o8 :: o9 :: o10 :: o11 :: o12 :: o13 :: o14 :: o15 :: o16 :: o17 :: o18 :: o19 :: o20 :: o21 :: some x :: s) H1) : tAsg te (gName 22) D (o0 :: o1 :: o2 :: o3 :: o4 :: o5 :: o6 :: o7 :: o8 :: o9 :: o10 :: o11 :: o12 :: o13 :: o14 :: o15 :: o16 :: o17 :: o18 :: o19 :: o20 :: o21 :: o22 :: s) H := q
theorem k_g22 (q : R (o0 :: o1 :: o2 :: o3 :: o4 :: o5 :: o6 :: o7 :: o8 :: o9 :: o10 :: o11 :: o12 :: o13 :: o14 :: o15 :: o16 :: o17 :: o18 :: o19 :: o20 :: o21 :: some x :: s) H) : gName 22 x (o0 :: o1 :: o2 :: o3 :: o4 :: o5 :: o6 :: o7 :: o8 :: o9 :: o10 :: o11 :: o12 :: o13 :: o14 :: o15 :: o16 :: o17 :: o18 :: o19 :: o20 :: o21 :: o22 :: s) H R := q
theorem k_v23 (q : Q v H) : tVar 23 (o0 :: o1 :: o2 :: o3 :: o4 :: o5 :: o6 :: o7 :: o8 :: o9 :: o10 :: o11 :: o12 :: o13 :: o14 :: o15 :: o16 :: o17 :: o18 :: o19 :: o20 :: o21 :: o22 :: some v :: s) H Q := ⟨v, rfl, q⟩
theorem k_s23 (q : te (o0 :: o1 :: o2 :: o3 :: o4 :: o5 :: o6 :: o7 :: o8 :: o9 :: o10 :: o11 :: o12 :: o13 :: o14 :: o15 :: o16 :: o17 :: o18 :: o19 :: o20 :: o21 :: o22 :: o23 :: s) H fun x H1 => D.nx (o0 :: o1 :: o2 :: o3 :: o4 :: o5 :: o6 :: o7 :: o8 :: o9 :: o10 :: o11 :: o12 :: o13 :: o14 :: o15 :: o16 :: o17 :: o18 :: o19 :: o20 :: o21 :: o22 :: some x :: s) H1) : tAsg te (gName 23) D (o0 :: o1 :: o2 :: o3 :: o4 :: o5 :: o6 :: o7 :: o8 :: o9 :: o10 :: o11 :: o12 :: o13 :: o14 :: o15 :: o16 :: o17 :: o18 :: o19 :: o20 :: o21 :: o22 :: o23 :: s) H := q
theorem k_g23 (q : R (o0 :: o1 :: o2 :: o3 :: o4 :: o5 :: o6 :: o7 :: o8 :: o9 :: o10 :: o11 :: o12 :: o13 :: o14 :: o15 :: o16 :: o17 :: o18 :: o19 :: o20 :: o21 :: o22 :: some x :: s) H) : gName 23 x (o0 :: o1 :: o2 :: o3 :: o4 :: o5 :: o6 :: o7 :: o8 :: o9 :: o10 :: o11 :: o12 :: o13 :: o14 :: o15 :: o16 :: o17 :: o18 :: o19 :: o20 :: o21 :: o22 :: o23 :: s) H R := q
theorem k_v24 (q : Q v H) : tVar 24 (o0 :: o1 :: o2 :: o3 :: o4 :: o5 :: o6 :: o7 :: o8 :: o9 :: o10 :: o11 :: o12 :: o13 :: o14 :: o15 :: o16 :: o17 :: o18 :: o19 :: o20 :: o21 :: o22 :: o23 :: some v :: s) H Q := ⟨v, rfl, q⟩
theorem k_s24 (q : te (o0 :: o1 :: o2 :: o3 :: o4 :: o5 :: o6 :: o7 :: o8 :: o9 :: o10 :: o11 :: o12 :: o13 :: o14 :: o15 :: o16 :: o17 :: o18 :: o19 :: o20 :: o21 :: o22 :: o23 :: o24 :: s) H fun x H1 => D.nx (o0 :: o1 :: o2 :: o3 :: o4 :: o5 :: o6 :: o7 :: o8 :: o9 :: o10 :: o11 :: o12 :: o13 :: o14 :: o15 :: o16 :: o17 :: o18 :: o19 :: o20 :: o21 :: o22 :: o23 :: some x :: s) H1) : tAsg te (gName 24) D (o0 :: o1 :: o2 :: o3 :: o4 :: o5 :: o6 :: o7 :: o8 :: o9 :: o10 :: o11 :: o12 :: o13 :: o14 :: o15 :: o16 :: o17 :: o18 :: o19 :: o20 :: o21 :: o22 :: o23 :: o24 :: s) H := q
theorem k_g24 (q : R (o0 :: o1 :: o2 :: o3 :: o4 :: o5 :: o6 :: o7 :: o8 :: o9 :: o10 :: o11 :: o12 :: o13 :: o14 :: o15 :: o16 :: o17 :: o18 :: o19 :: o20 :: o21 :: o22 :: o23 :: some x :: s) H) : gName 24 x (o0 :: o1 :: o2 :: o3 :: o4 :: o5 :: o6 :: o7 :: o8 :: o9 :: o10 :: o11 :: o12 :: o13 :: o14 :: o15 :: o16 :: o17 :: o18 :: o19 :: o20 :: o21 :: o22 :: o23 :: o24 :: s) H R := q
theorem k_v25 (q : Q v H) : tVar 25 (o0 :: o1 :: o2 :: o3 :: o4 :: o5 :: o6 :: o7 :: o8 :: o9 :: o10 :: o11 :: o12 :: o13 :: o14 :: o15 :: o16 :: o17 :: o18 :: o19 :: o20 :: o21 :: o22 :: o23 :: o24 :: some v :: s) H Q := ⟨v, rfl, q⟩
theorem k_s25 (q : te (o0 :: o1 :: o2 :: o3 :: o4 :: o5 :: o6 :: o7 :: o8 :: o9 :: o10 :: o11 :: o12 :: o13 :: o14 :: o15 :: o16 :: o17 :: o18 :: o19 :: o20 :: o21 :: o22 :: o23 :: o24 :: o25 :: s) H fun x H1 => D.nx (o0 :: o1 :: o2 :: o3 :: o4 :: o5 :: o6 :: o7 :: o8 :: o9 :: o10 :: o11 :: o12 :: o13 :: o14 :: o15 :: o16 :: o17 :: o18 :: o19 :: o20 :: o21 :: o22 :: o23 :: o24 :: some x :: s) H1) : tAsg te (gName 25) D (o0 :: o1 :: o2 :: o3 :: o4 :: o5 :: o6 :: o7 :: o8 :: o9 :: o10 :: o11 :: o12 :: o13 :: o14 :: o15 :: o16 :: o17 :: o18 :: o19 :: o20 :: o21 :: o22 :: o23 :: o24 :: o25 :: s) H := q
theorem k_g25 (q : R (o0 :: o1 :: o2 :: o3 :: o4 :: o5 :: o6 :: o7 :: o8 :: o9 :: o10 :: o11 :: o12 :: o13 :: o14 :: o15 :: o16 :: o17 :: o18 :: o19 :: o20 :: o21 :: o22 :: o23 :: o24 :: some x :: s) H) : gName 25 x (o0 :: o1 :: o2 :: o3 :: o4 :: o5 :: o6 :: o7 :: o8 :: o9 :: o10 :: o11 :: o12 :: o13 :: o14 :: o15 :: o16 :: o17 :: o18 :: o19 :: o20 :: o21 :: o22 :: o23 :: o24 :: o25 :: s) H R := q
theorem k_v26 (q : Q v H) : tVar 26 (o0 :: o1 :: o2 :: o3 :: o4 :: o5 :: o6 :: o7 :: o8 :: o9 :: o10 :: o11 :: o12 :: o13 :: o14 :: o15 :: o16 :: o17 :: o18 :: o19 :: o20 :: o21 :: o22 :: o23 :: o24 :: o25 :: some v :: s) H Q := ⟨v, rfl, q⟩
theorem k_s26 (q : te (o0 :: o1 :: o2 :: o3 :: o4 :: o5 :: o6 :: o7 :: o8 :: o9 :: o10 :: o11 :: o12 :: o13 :: o14 :: o15 :: o16 :: o17 :: o18 :: o19 :: o20 :: o21 :: o22 :: o23 :: o24 :: o25 :: o26 :: s) H fun x H1 => D.nx (o0 :: o1 :: o2 :: o3 :: o4 :: o5 :: o6 :: o7 :: o8 :: o9 :: o10 :: o11 :: o12 :: o13 :: o14 :: o15 :: o16 :: o17 :: o18 :: o19 :: o20 :: o21 :: o22 :: o23 :: o24 :: o25 :: some x :: s) H1) : tAsg te (gName 26) D (o0 :: o1 :: o2 :: o3 :: o4 :: o5 :: o6 :: o7 :: o8 :: o9 :: o10 :: o11 :: o12 :: o13 :: o14 :: o15 :: o16 :: o17 :: o18 :: o19 :: o20 :: o21 :: o22 :: o23 :: o24 :: o25 :: o26 :: s) H := q
theorem k_g26 (q : R (o0 :: o1 :: o2 :: o3 :: o4 :: o5 :: o6 :: o7 :: o8 :: o9 :: o10 :: o11 :: o12 :: o13 :: o14 :: o15 :: o16 :: o17 :: o18 :: o19 :: o20 :: o21 :: o22 :: o23 :: o24 :: o25 :: some x :: s) H) : gName 26 x (o0 :: o1 :: o2 :: o3 :: o4 :: o5 :: o6 :: o7 :: o8 :: o9 :: o10 :: o11 :: o12 :: o13 :: o14 :: o15 :: o16 :: o17 :: o18 :: o19 :: o20 :: o21 :: o22 :: o23 :: o24 :: o25 :: o26 :: s) H R := q
theorem k_v27 (q : Q v H) : tVar 27 (o0 :: o1 :: o2 :: o3 :: o4 :: o5 :: o6 :: o7 :: o8 :: o9 :: o10 :: o11 :: o12 :: o13 :: o14 :: o15 :: o16 :: o17 :: o18 :: o19 :: o20 :: o21 :: o22 :: o23 :: o24 :: o25 :: o26 :: some v :: s) H Q := ⟨v, rfl, q⟩
theorem k_s27 (q : te (o0 :: o1 :: o2 :: o3 :: o4 :: o5 :: o6 :: o7 :: o8 :: o9 :: o10 :: o11 :: o12 :: o13 :: o14 :: o15 :: o16 :: o17 :: o18 :: o19 :: o20 :: o21 :: o22 :: o23 :: o24 :: o25 :: o26 :: o27 :: s) H fun x H1 => D.nx (o0 :: o1 :: o2 :: o3 :: o4 :: o5 :: o6 :: o7 :: o8 :: o9 :: o10 :: o11 :: o12 :: o13 :: o14 :: o15 :: o16 :: o17 :: o18 :: o19 :: o20 :: o21 :: o22 :: o23 :: o24 :: o25 :: o26 :: some x :: s) H1) : tAsg te (gName 27) D (o0 :: o1 :: o2 :: o3 :: o4 :: o5 :: o6 :: o7 :: o8 :: o9 :: o10 :: o11 :: o12 :: o13 :: o14 :: o15 :: o16 :: o17 :: o18 :: o19 :: o20 :: o21 :: o22 :: o23 :: o24 :: o25 :: o26 :: o27 :: s) H := q
theorem k_g27 (q : R (o0 :: o1 :: o2 :: o3 :: o4 :: o5 :: o6 :: o7 :: o8 :: o9 :: o10 :: o11 :: o12 :: o13 :: o14 :: o15 :: o16 :: o17 :: o18 :: o19 :: o20 :: o21 :: o22 :: o23 :: o24 :: o25 :: o26 :: some x :: s) H) : gName 27 x (o0 :: o1 :: o2 :: o3 :: o4 :: o5 :: o6 :: o7 :: o8 :: o9 :: o10 :: o11 :: o12 :: o13 :: o14 :: o15 :: o16 :: o17 :: o18 :: o19 :: o20 :: o21 :: o22 :: o23 :: o24 :: o25 :: o26 :: o27 :: s) H R := q
theorem k_v28 (q : Q v H) : tVar 28 (o0 :: o1 :: o2 :: o3 :: o4 :: o5 :: o6 :: o7 :: o8 :: o9 :: o10 :: o11 :: o12 :: o13 :: o14 :: o15 :: o16 :: o17 :: o18 :: o19 :: o20 :: o21 :: o22 :: o23 :: o24 :: o25 :: o26 :: o27 :: some v :: s) H Q := ⟨v, rfl, q⟩
theorem k_s28 (q : te (o0 :: o1 :: o2 :: o3 :: o4 :: o5 :: o6 :: o7 :: o8 :: o9 :: o10 :: o11 :: o12 :: o13 :: o14 :: o15 :: o16 :: o17 :: o18 :: o19 :: o20 :: o21 :: o22 :: o23 :: o24 :: o25 :: o26 :: o27 :: o28 :: s) H fun x H1 => D.nx (o0 :: o1 :: o2 :: o3 :: o4 :: o5 :: o6 :: o7 :: o8 :: o9 :: o10 :: o11 :: o12 :: o13 :: o14 :: o15 :: o16 :: o17 :: o18 :: o19 :: o20 :: o21 :: o22 :: o23 :: o24 :: o25 :: o26 :: o27 :: some x :: s) H1) : tAsg te (gName 28) D (o0 :: o1 :: o2 :: o3 :: o4 :: o5 :: o6 :: o7 :: o8 :: o9 :: o10 :: o11 :: o12 :: o13 :: o14 :: o15 :: o16 :: o17 :: o18 :: o19 :: o20 :: o21 :: o22 :: o23 :: o24 :: o25 :: o26 :: o27 :: o28 :: s) H := q
theorem k_g28 (q : R (o0 :: o1 :: o2 :: o3 :: o4 :: o5 :: o6 :: o7 :: o8 :: o9 :: o10 :: o11 :: o12 :: o13 :: o14 :: o15 :: o16 :: o17 :: o18 :: o19 :: o20 :: o21 :: o22 :: o23 :: o24 :: o25 :: o26 :: o27 :: some x :: s) H) : gName 28 x (o0 :: o1 :: o2 :: o3 :: o4 :: o5 :: o6 :: o7 :: o8 :: o9 :: o10 :: o11 :: o12 :: o13 :: o14 :: o15 :: o16 :: o17 :: o18 :: o19 :: o20 :: o21 :: o22 :: o23 :: o24 :: o25 :: o26 :: o27 :: o28 :: s) H R := q
theorem k_v29 (q : Q v H) : tVar 29 (o0 :: o1 :: o2 :: o3 :: o4 :: o5 :: o6 :: o7 :: o8 :: o9 :: o10 :: o11 :: o12 :: o13 :: o14 :: o15 :: o16 :: o17 :: o18 :: o19 :: o20 :: o21 :: o22 :: o23 :: o24 :: o25 :: o26 :: o27 :: o28 :: some v :: s) H Q := ⟨v, rfl, q⟩
theorem k_s29 (q : te (o0 :: o1 :: o2 :: o3 :: o4 :: o5 :: o6 :: o7 :: o8 :: o9 :: o10 :: o11 :: o12 :: o13 :: o14 :: o15 :: o16 :: o17 :: o18 :: o19 :: o20 :: o21 :: o22 :: o23 :: o24 :: o25 :: o26 :: o27 :: o28 :: o29 :: s) H fun x H1 => D.nx (o0 :: o1 :: o2 :: o3 :: o4 :: o5 :: o6 :: o7 :: o8 :: o9 :: o10 :: o11 :: o12 :: o13 :: o14 :: o15 :: o16 :: o17 :: o18 :: o19 :: o20 :: o21 :: o22 :: o23 :: o24 :: o25 :: o26 :: o27 :: o28 :: some x :: s) H1) : tAsg te (gName 29) D (o0 :: o1 :: o2 :: o3 :: o4 :: o5 :: o6 :: o7 :: o8 :: o9 :: o10 :: o11 :: o12 :: o13 :: o14 :: o15 :: o16 :: o17 :: o18 :: o19 :: o20 :: o21 :: o22 :: o23 :: o24 :: o25 :: o26 :: o27 :: o28 :: o29 :: s) H := q
theorem k_g29 (q : R (o0 :: o1 :: o2 :: o3 :: o4 :: o5 :: o6 :: o7 :: o8 :: o9 :: o10 :: o11 :: o12 :: o13 :: o14 :: o15 :: o16 :: o17 :: o18 :: o19 :: o20 :: o21 :: o22 :: o23 :: o24 :: o25 :: o26 :: o27 :: o28 :: some x :: s) H) : gName 29 x (o0 :: o1 :: o2 :: o3 :: o4 :: o5 :: o6 :: o7 :: o8 :: o9 :: o10 :: o11 :: o12 :: o13 :: o14 :: o15 :: o16 :: o17 :: o18 :: o19 :: o20 :: o21 :: o22 :: o23 :: o24 :: o25 :: o26 :: o27 :: o28 :: o29 :: s) H R := q
theorem k_v30 (q : Q v H) : tVar 30 (o0 :: o1 :: o2 :: o3 :: o4 :: o5 :: o6 :: o7 :: o8 :: o9 :: o10 :: o11 :: o12 :: o13 :: o14 :: o15 :: o16 :: o17 :: o18 :: o19 :: o20 :: o21 :: o22 :: o23 :: o24 :: o25 :: o26 :: o27 :: o28 :: o29 :: some v :: s) H Q := ⟨v, rfl, q⟩
theorem k_s30 (q : te (o0 :: o1 :: o2 :: o3 :: o4 :: o5 :: o6 :: o7 :: o8 :: o9 :: o10 :: o11 :: o12 :: o13 :: o14 :: o15 :: o16 :: o17 :: o18 :: o19 :: o20 :: o21 :: o22 :: o23 :: o24 :: o25 :: o26 :: o27 :: o28 :: o29 :: o30 :: s) H fun x H1 => D.nx (o0 :: o1 :: o2 :: o3 :: o4 :: o5 :: o6 :: o7 :: o8 :: o9 :: o10 :: o11 :: o12 :: o13 :: o14 :: o15 :: o16 :: o17 :: o18 :: o19 :: o20 :: o21 :: o22 :: o23 :: o24 :: o25 :: o26 :: o27 :: o28 :: o29 :: some x :: s) H1) : tAsg te (gName 30) D (o0 :: o1 :: o2 :: o3 :: o4 :: o5 :: o6 :: o7 :: o8 :: o9 :: o10 :: o11 :: o12 :: o13 :: o14 :: o15 :: o16 :: o17 :: o18 :: o19 :: o20 :: o21 :: o22 :: o23 :: o24 :: o25 :: o26 :: o27 :: o28 :: o29 :: o30 :: s) H := q
theorem k_g30 (q : R (o0 :: o1 :: o2 :: o3 :: o4 :: o5 :: o6 :: o7 :: o8 :: o9 :: o10 :: o11 :: o12 :: o13 :: o14 :: o15 :: o16 :: o17 :: o18 :: o19 :: o20 :: o21 :: o22 :: o23 :: o24 :: o25 :: o26 :: o27 :: o28 :: o29 :: some x :: s) H) : gName 30 x (o0 :: o1 :: o2 :: o3 :: o4 :: o5 :: o6 :: o7 :: o8 :: o9 :: o10 :: o11 :: o12 :: o13 :: o14 :: o15 :: o16 :: o17 :: o18 :: o19 :: o20 :: o21 :: o22 :: o23 :: o24 :: o25 :: o26 :: o27 :: o28 :: o29 :: o30 :: s) H R := q
theorem k_v31 (q : Q v H) : tVar 31 (o0 :: o1 :: o2 :: o3 :: o4 :: o5 :: o6 :: o7 :: o8 :: o9 :: o10 :: o11 :: o12 :: o13 :: o14 :: o15 :: o16 :: o17 :: o18 :: o19 :: o20 :: o21 :: o22 :: o23 :: o24 :: o25 :: o26 :: o27 :: o28 :: o29 :: o30 :: some v :: s) H Q := ⟨v, rfl, q⟩
theorem k_s31 (q : te (o0 :: o1 :: o2 :: o3 :: o4 :: o5 :: o6 :: o7 :: o8 :: o9 :: o10 :: o11 :: o12 :: o13 :: o14 :: o15 :: o16 :: o17 :: o18 :: o19 :: o20 :: o21 :: o22 :: o23 :: o24 :: o25 :: o26 :: o27 :: o28 :: o29 :: o30 :: o31 :: s) H fun x H1 => D.nx (o0 :: o1 :: o2 :: o3 :: o4 :: o5 :: o6 :: o7 :: o8 :: o9 :: o10 :: o11 :: o12 :: o13 :: o14 :: o15 :: o16 :: o17 :: o18 :: o19 :: o20 :: o21 :: o22 :: o23 :: o24 :: o25 :: o26 :: o27 :: o28 :: o29 :: o30 :: some x :: s) H1) : tAsg te (gName 31) D (o0 :: o1 :: o2 :: o3 :: o4 :: o5 :: o6 :: o7 :: o8 :: o9 :: o10 :: o11 :: o12 :: o13 :: o14 :: o15 :: o16 :: o17 :: o18 :: o19 :: o20 :: o21 :: o22 :: o23 :: o24 :: o25 :: o26 :: o27 :: o28 :: o29 :: o30 :: o31 :: s) H := q
theorem k_g31 (q : R (o0 :: o1 :: o2 :: o3 :: o4 :: o5 :: o6 :: o7 :: o8 :: o9 :: o10 :: o11 :: o12 :: o13 :: o14 :: o15 :: o16 :: o17 :: o18 :: o19 :: o20 :: o21 :: o22 :: o23 :: o24 :: o25 :: o26 :: o27 :: o28 :: o29 :: o30 :: some x :: s) H) : gName 31 x (o0 :: o1 :: o2 :: o3 :: o4 :: o5 :: o6 :: o7 :: o8 :: o9 :: o10 :: o11 :: o12 :: o13 :: o14 :: o15 :: o16 :: o17 :: o18 :: o19 :: o20 :: o21 :: o22 :: o23 :: o24 :: o25 :: o26 :: o27 :: o28 :: o29 :: o30 :: o31 :: s) H R := q
theorem k_v32 (q : Q v H) : tVar 32 (o0 :: o1 :: o2 :: o3 :: o4 :: o5 :: o6 :: o7 :: o8 :: o9 :: o10 :: o11 :: o12 :: o13 :: o14 :: o15 :: o16 :: o17 :: o18 :: o19 :: o20 :: o21 :: o22 :: o23 :: o24 :: o25 :: o26 :: o27 :: o28 :: o29 :: o30 :: o31 :: some v :: s) H Q := ⟨v, rfl, q⟩
theorem k_s32 (q : te (o0 :: o1 :: o2 :: o3 :: o4 :: o5 :: o6 :: o7 :: o8 :: o9 :: o10 :: o11 :: o12 :: o13 :: o14 :: o15 :: o16 :: o17 :: o18 :: o19 :: o20 :: o21 :: o22 :: o23 :: o24 :: o25 :: o26 :: o27 :: o28 :: o29 :: o30 :: o31 :: o32 :: s) H fun x H1 => D.nx (o0 :: o1 :: o2 :: o3 :: o4 :: o5 :: o6 :: o7 :: o8 :: o9 :: o10 :: o11 :: o12 :: o13 :: o14 :: o15 :: o16 :: o17 :: o18 :: o19 :: o20 :: o21 :: o22 :: o23 :: o24 :: o25 :: o26 :: o27 :: o28 :: o29 :: o30 :: o31 :: some x :: s) H1) : tAsg te (gName 32) D (o0 :: o1 :: o2 :: o3 :: o4 :: o5 :: o6 :: o7 :: o8 :: o9 :: o10 :: o11 :: o12 :: o13 :: o14 :: o15 :: o16 :: o17 :: o18 :: o19 :: o20 :: o21 :: o22 :: o23 :: o24 :: o25 :: o26 :: o27 :: o28 :: o29 :: o30 :: o31 :: o32 :: s) H := q
theorem k_g32 (q : R (o0 :: o1 :: o2 :: o3 :: o4 :: o5 :: o6 :: o7 :: o8 :: o9 :: o10 :: o11 :: o12 :: o13 :: o14 :: o15 :: o16 :: o17 :: o18 :: o19 :: o20 :: o21 :: o22 :: o23 :: o24 :: o25 :: o26 :: o27 :: o28 :: o29 :: o30 :: o31 :: some x :: s) H) : gName 32 x (o0 :: o1 :: o2 :: o3 :: o4 :: o5 :: o6 :: o7 :: o8 :: o9 :: o10 :: o11 :: o12 :: o13 :: o14 :: o15 :: o16 :: o17 :: o18 :: o19 :: o20 :: o21 :: o22 :: o23 :: o24 :: o25 :: o26 :: o27 :: o28 :: o29 :: o30 :: o31 :: o32 :: s) H R := q
theorem k_v33 (q : Q v H) : tVar 33 (o0 :: o1 :: o2 :: o3 :: o4 :: o5 :: o6 :: o7 :: o8 :: o9 :: o10 :: o11 :: o12 :: o13 :: o14 :: o15 :: o16 :: o17 :: o18 :: o19 :: o20 :: o21 :: o22 :: o23 :: o24 :: o25 :: o26 :: o27 :: o28 :: o29 :: o30 :: o31 :: o32 :: some v :: s) H Q := ⟨v, rfl, q⟩
theorem k_s33 (q : te (o0 :: o1 :: o2 :: o3 :: o4 :: o5 :: o6 :: o7 :: o8 :: o9 :: o10 :: o11 :: o12 :: o13 :: o14 :: o15 :: o16 :: o17 :: o18 :: o19 :: o20 :: o21 :: o22 :: o23 :: o24 :: o25 :: o26 :: o27 :: o28 :: o29 :: o30 :: o31 :: o32 :: o33 :: s) H fun x H1 => D.nx (o0 :: o1 :: o2 :: o3 :: o4 :: o5 :: o6 :: o7 :: o8 :: o9 :: o10 :: o11 :: o12 :: o13 :: o14 :: o15 :: o16 :: o17 :: o18 :: o19 :: o20 :: o21 :: o22 :: o23 :: o24 :: o25 :: o26 :: o27 :: o28 :: o29 :: o30 :: o31 :: o32 :: some x :: s) H1) : tAsg te (gName 33) D (o0 :: o1 :: o2 :: o3 :: o4 :: o5 :: o6 :: o7 :: o8 :: o9 :: o10 :: o11 :: o12 :: o13 :: o14 :: o15 :: o16 :: o17 :: o18 :: o19 :: o20 :: o21 :: o22 :: o23 :: o24 :: o25 :: o26 :: o27 :: o28 :: o29 :: o30 :: o31 :: o32 :: o33 :: s) H := q
theorem k_g33 (q : R (o0 :: o1 :: o2 :: o3 :: o4 :: o5 :: o6 :: o7 :: o8 :: o9 :: o10 :: o11 :: o12 :: o13 :: o14 :: o15 :: o16 :: o17 :: o18 :: o19 :: o20 :: o21 :: o22 :: o23 :: o24 :: o25 :: o26 :: o27 :: o28 :: o29 :: o30 :: o31 :: o32 :: some x :: s) H) : gName 33 x (o0 :: o1 :: o2 :: o3 :: o4 :: o5 :: o6 :: o7 :: o8 :: o9 :: o10 :: o11 :: o12 :: o13 :: o14 :: o15 :: o16 :: o17 :: o18 :: o19 :: o20 :: o21 :: o22 :: o23 :: o24 :: o25 :: o26 :: o27 :: o28 :: o29 :: o30 :: o31 :: o32 :: o33 :: s) H R := q
theorem k_v34 (q : Q v H) : tVar 34 (o0 :: o1 :: o2 :: o3 :: o4 :: o5 :: o6 :: o7 :: o8 :: o9 :: o10 :: o11 :: o12 :: o13 :: o14 :: o15 :: o16 :: o17 :: o18 :: o19 :: o20 :: o21 :: o22 :: o23 :: o24 :: o25 :: o26 :: o27 :: o28 :: o29 :: o30 :: o31 :: o32 :: o33 :: some v :: s) H Q := ⟨v, rfl, q⟩
theorem k_s34 (q : te (o0 :: o1 :: o2 :: o3 :: o4 :: o5 :: o6 :: o7 :: o8 :: o9 :: o10 :: o11 :: o12 :: o13 :: o14 :: o15 :: o16 :: o17 :: o18 :: o19 :: o20 :: o21 :: o22 :: o23 :: o24 :: o25 :: o26 :: o27 :: o28 :: o29 :: o30 :: o31 :: o32 :: o33 :: o34 :: s) H fun x H1 => D.nx (o0 :: o1 :: o2 :: o3 :: o4 :: o5 :: o6 :: o7 :: o8 :: o9 :: o10 :: o11 :: o12 :: o13 :: o14 :: o15 :: o16 :: o17 :: o18 :: o19 :: o20 :: o21 :: o22 :: o23 :: o24 :: o25 :: o26 :: o27 :: o28 :: o29 :: o30 :: o31 :: o32 :: o33 :: some x :: s) H1) : tAsg te (gName 34) D (o0 :: o1 :: o2 :: o3 :: o4 :: o5 :: o6 :: o7 :: o8 :: o9 :: o10 :: o11 :: o12 :: o13 :: o14 :: o15 :: o16 :: o17 :: o18 :: o19 :: o20 :: o21 :: o22 :: o23 :: o24 :: o25 :: o26 :: o27 :: o28 :: o29 :: o30 :: o31 :: o32 :: o33 :: o34 :: s) H := q
theorem k_g34 (q : R (o0 :: o1 :: o2 :: o3 :: o4 :: o5 :: o6 :: o7 :: o8 :: o9 :: o10 :: o11 :: o12 :: o13 :: o14 :: o15 :: o16 :: o17 :: o18 :: o19 :: o20 :: o21 :: o22 :: o23 :: o24 :: o25 :: o26 :: o27 :: o28 :: o29 :: o30 :: o31 :: o32 :: o33 :: some x :: s) H) : gName 34 x (o0 :: o1 :: o2 :: o3 :: o4 :: o5 :: o6 :: o7 :: o8 :: o9 :: o10 :: o11 :: o12 :: o13 :: o14 :: o15 :: o16 :: o17 :: o18 :: o19 :: o20 :: o21 :: o22 :: o23 :: o24 :: o25 :: o26 :: o27 :: o28 :: o29 :: o30 :: o31 :: o32 :: o33 :: o34 :: s) H R := q
theorem k_v35 (q : Q v H) : tVar 35 (o0 :: o1 :: o2 :: o3 :: o4 :: o5 :: o6 :: o7 :: o8 :: o9 :: o10 :: o11 :: o12 :: o13 :: o14 :: o15 :: o16 :: o17 :: o18 :: o19 :: o20 :: o21 :: o22 :: o23 :: o24 :: o25 :: o26 :: o27 :: o28 :: o29 :: o30 :: o31 :: o32 :: o33 :: o34 :: some v :: s) H Q := ⟨v, rfl, q⟩
theorem k_s35 (q : te (o0 :: o1 :: o2 :: o3 :: o4 :: o5 :: o6 :: o7 :: o8 :: o9 :: o10 :: o11 :: o12 :: o13 :: o14 :: o15 :: o16 :: o17 :: o18 :: o19 :: o20 :: o21 :: o22 :: o23 :: o24 :: o25 :: o26 :: o27 :: o28 :: o29 :: o30 :: o31 :: o32 :: o33 :: o34 :: o35 :: s) H fun x H1 => D.nx (o0 :: o1 :: o2 :: o3 :: o4 :: o5 :: o6 :: o7 :: o8 :: o9 :: o10 :: o11 :: o12 :: o13 :: o14 :: o15 :: o16 :: o17 :: o18 :: o19 :: o20 :: o21 :: o22 :: o23 :: o24 :: o25 :: o26 :: o27 :: o28 :: o29 :: o30 :: o31 :: o32 :: o33 :: o34 :: some x :: s) H1) : tAsg te (gName 35) D (o0 :: o1 :: o2 :: o3 :: o4 :: o5 :: o6 :: o7 :: o8 :: o9 :: o10 :: o11 :: o12 :: o13 :: o14 :: o15 :: o16 :: o17 :: o18 :: o19 :: o20 :: o21 :: o22 :: o23 :: o24 :: o25 :: o26 :: o27 :: o28 :: o29 :: o30 :: o31 :: o32 :: o33 :: o34 :: o35 :: s) H := q
theorem k_g35 (q : R (o0 :: o1 :: o2 :: o3 :: o4 :: o5 :: o6 :: o7 :: o8 :: o9 :: o10 :: o11 :: o12 :: o13 :: o14 :: o15 :: o16 :: o17 :: o18 :: o19 :: o20 :: o21 :: o22 :: o23 :: o24 :: o25 :: o26 :: o27 :: o28 :: o29 :: o30 :: o31 :: o32 :: o33 :: o34 :: some x :: s) H) : gName 35 x (o0 :: o1 :: o2 :: o3 :: o4 :: o5 :: o6 :: o7 :: o8 :: o9 :: o10 :: o11 :: o12 :: o13 :: o14 :: o15 :: o16 :: o17 :: o18 :: o19 :: o20 :: o21 :: o22 :: o23 :: o24 :: o25 :: o26 :: o27 :: o28 :: o29 :: o30 :: o31 :: o32 :: o33 :: o34 :: o35 :: s) H R := q
theorem k_v36 (q : Q v H) : tVar 36 (o0 :: o1 :: o2 :: o3 :: o4 :: o5 :: o6 :: o7 :: o8 :: o9 :: o10 :: o11 :: o12 :: o13 :: o14 :: o15 :: o16 :: o17 :: o18 :: o19 :: o20 :: o21 :: o22 :: o23 :: o24 :: o25 :: o26 :: o27 :: o28 :: o29 :: o30 :: o31 :: o32 :: o33 :: o34 :: o35 :: some v :: s) H Q := ⟨v, rfl, q⟩
theorem k_s36 (q : te (o0 :: o1 :: o2 :: o3 :: o4 :: o5 :: o6 :: o7 :: o8 :: o9 :: o10 :: o11 :: o12 :: o13 :: o14 :: o15 :: o16 :: o17 :: o18 :: o19 :: o20 :: o21 :: o22 :: o23 :: o24 :: o25 :: o26 :: o27 :: o28 :: o29 :: o30 :: o31 :: o32 :: o33 :: o34 :: o35 :: o36 :: s) H fun x H1 => D.nx (o0 :: o1 :: o2 :: o3 :: o4 :: o5 :: o6 :: o7 :: o8 :: o9 :: o10 :: o11 :: o12 :: o13 :: o14 :: o15 :: o16 :: o17 :: o18 :: o19 :: o20 :: o21 :: o22 :: o23 :: o24 :: o25 :: o26 :: o27 :: o28 :: o29 :: o30 :: o31 :: o32 :: o33 :: o34 :: o35 :: some x :: s) H1) : tAsg te (gName 36) D (o0 :: o1 :: o2 :: o3 :: o4 :: o5 :: o6 :: o7 :: o8 :: o9 :: o10 :: o11 :: o12 :: o13 :: o14 :: o15 :: o16 :: o17 :: o18 :: o19 :: o20 :: o21 :: o22 :: o23 :: o24 :: o25 :: o26 :: o27 :: o28 :: o29 :: o30 :: o31 :: o32 :: o33 :: o34 :: o35 :: o36 :: s) H := q
theorem k_g36 (q : R (o0 :: o1 :: o2 :: o3 :: o4 :: o5 :: o6 :: o7 :: o8 :: o9 :: o10 :: o11 :: o12 :: o13 :: o14 :: o15 :: o16 :: o17 :: o18 :: o19 :: o20 :: o21 :: o22 :: o23 :: o24 :: o25 :: o26 :: o27 :: o28 :: o29 :: o30 :: o31 :: o32 :: o33 :: o34 :: o35 :: some x :: s) H) : gName 36 x (o0 :: o1 :: o2 :: o3 :: o4 :: o5 :: o6 :: o7 :: o8 :: o9 :: o10 :: o11 :: o12 :: o13 :: o14 :: o15 :: o16 :: o17 :: o18 :: o19 :: o20 :: o21 :: o22 :: o23 :: o24 :: o25 :: o26 :: o27 :: o28 :: o29 :: o30 :: o31 :: o32 :: o33 :: o34 :: o35 :: o36 :: s) H R := q
theorem k_v37 (q : Q v H) : tVar 37 (o0 :: o1 :: o2 :: o3 :: o4 :: o5 :: o6 :: o7 :: o8 :: o9 :: o10 :: o11 :: o12 :: o13 :: o14 :: o15 :: o16 :: o17 :: o18 :: o19 :: o20 :: o21 :: o22 :: o23 :: o24 :: o25 :: o26 :: o27 :: o28 :: o29 :: o30 :: o31 :: o32 :: o33 :: o34 :: o35 :: o36 :: some v :: s) H Q := ⟨v, rfl, q⟩
theorem k_s37 (q : te (o0 :: o1 :: o2 :: o3 :: o4 :: o5 :: o6 :: o7 :: o8 :: o9 :: o10 :: o11 :: o12 :: o13 :: o14 :: o15 :: o16 :: o17 :: o18 :: o19 :: o20 :: o21 :: o22 :: o23 :: o24 :: o25 :: o26 :: o27 :: o28 :: o29 :: o30 :: o31 :: o32 :: o33 :: o34 :: o35 :: o36 :: o37 :: s) H fun x H1 => D.nx (o0 :: o1 :: o2 :: o3 :: o4 :: o5 :: o6 :: o7 :: o8 :: o9 :: o10 :: o11 :: o12 :: o13 :: o14 :: o15 :: o16 :: o17 :: o18 :: o19 :: o20 :: o21 :: o22 :: o23 :: o24 :: o25 :: o26 :: o27 :: o28 :: o29 :: o30 :: o31 :: o32 :: o33 :: o34 :: o35 :: o36 :: some x :: s) H1) : tAsg te (gName 37) D (o0 :: o1 :: o2 :: o3 :: o4 :: o5 :: o6 :: o7 :: o8 :: o9 :: o10 :: o11 :: o12 :: o13 :: o14 :: o15 :: o16 :: o17 :: o18 :: o19 :: o20 :: o21 :: o22 :: o23 :: o24 :: o25 :: o26 :: o27 :: o28 :: o29 :: o30 :: o31 :: o32 :: o33 :: o34 :: o35 :: o36 :: o37 :: s) H := q
theorem k_g37 (q : R (o0 :: o1 :: o2 :: o3 :: o4 :: o5 :: o6 :: o7 :: o8 :: o9 :: o10 :: o11 :: o12 :: o13 :: o14 :: o15 :: o16 :: o17 :: o18 :: o19 :: o20 :: o21 :: o22 :: o23 :: o24 :: o25 :: o26 :: o27 :: o28 :: o29 :: o30 :: o31 :: o32 :: o33 :: o34 :: o35 :: o36 :: some x :: s) H) : gName 37 x (o0 :: o1 :: o2 :: o3 :: o4 :: o5 :: o6 :: o7 :: o8 :: o9 :: o10 :: o11 :: o12 :: o13 :: o14 :: o15 :: o16 :: o17 :: o18 :: o19 :: o20 :: o21 :: o22 :: o23 :: o24 :: o25 :: o26 :: o27 :: o28 :: o29 :: o30 :: o31 :: o32 :: o33 :: o34 :: o35 :: o36 :: o37 :: s) H R := q
theorem k_v38 (q : Q v H) : tVar 38 (o0 :: o1 :: o2 :: o3 :: o4 :: o5 :: o6 :: o7 :: o8 :: o9 :: o10 :: o11 :: o12 :: o13 :: o14 :: o15 :: o16 :: o17 :: o18 :: o19 :: o20 :: o21 :: o22 :: o23 :: o24 :: o25 :: o26 :: o27 :: o28 :: o29 :: o30 :: o31 :: o32 :: o33 :: o34 :: o35 :: o36 :: o37 :: some v :: s) H Q := ⟨v, rfl, q⟩
theorem k_s38 (q : te (o0 :: o1 :: o2 :: o3 :: o4 :: o5 :: o6 :: o7 :: o8 :: o9 :: o10 :: o11 :: o12 :: o13 :: o14 :: o15 :: o16 :: o17 :: o18 :: o19 :: o20 :: o21 :: o22 :: o23 :: o24 :: o25 :: o26 :: o27 :: o28 :: o29 :: o30 :: o31 :: o32 :: o33 :: o34 :: o35 :: o36 :: o37 :: o38 :: s) H fun x H1 => D.nx (o0 :: o1 :: o2 :: o3 :: o4 :: o5 :: o6 :: o7 :: o8 :: o9 :: o10 :: o11 :: o12 :: o13 :: o14 :: o15 :: o16 :: o17 :: o18 :: o19 :: o20 :: o21 :: o22 :: o23 :: o24 :: o25 :: o26 :: o27 :: o28 :: o29 :: o30 :: o31 :: o32 :: o33 :: o34 :: o35 :: o36 :: o37 :: some x :: s) H1) : tAsg te (gName 38) D (o0 :: o1 :: o2 :: o3 :: o4 :: o5 :: o6 :: o7 :: o8 :: o9 :: o10 :: o11 :: o12 :: o13 :: o14 :: o15 :: o16 :: o17 :: o18 :: o19 :: o20 :: o21 :: o22 :: o23 :: o24 :: o25 :: o26 :: o27 :: o28 :: o29 :: o30 :: o31 :: o32 :: o33 :: o34 :: o35 :: o36 :: o37 :: o38 :: s) H := q
theorem k_g38 (q : R (o0 :: o1 :: o2 :: o3 :: o4 :: o5 :: o6 :: o7 :: o8 :: o9 :: o10 :: o11 :: o12 :: o13 :: o14 :: o15 :: o16 :: o17 :: o18 :: o19 :: o20 :: o21 :: o22 :: o23 :: o24 :: o25 :: o26 :: o27 :: o28 :: o29 :: o30 :: o31 :: o32 :: o33 :: o34 :: o35 :: o36 :: o37 :: some x :: s) H) : gName 38 x (o0 :: o1 :: o2 :: o3 :: o4 :: o5 :: o6 :: o7 :: o8 :: o9 :: o10 :: o11 :: o12 :: o13 :: o14 :: o15 :: o16 :: o17 :: o18 :: o19 :: o20 :: o21 :: o22 :: o23 :: o24 :: o25 :: o26 :: o27 :: o28 :: o29 :: o30 :: o31 :: o32 :: o33 :: o34 :: o35 :: o36 :: o37 :: o38 :: s) H R := q
theorem k_v39 (q : Q v H) : tVar 39 (o0 :: o1 :: o2 :: o3 :: o4 :: o5 :: o6 :: o7 :: o8 :: o9 :: o10 :: o11 :: o12 :: o13 :: o14 :: o15 :: o16 :: o17 :: o18 :: o19 :: o20 :: o21 :: o22 :: o23 :: o24 :: o25 :: o26 :: o27 :: o28 :: o29 :: o30 :: o31 :: o32 :: o33 :: o34 :: o35 :: o36 :: o37 :: o38 :: some v :: s) H Q := ⟨v, rfl, q⟩
theorem k_s39 (q : te (o0 :: o1 :: o2 :: o3 :: o4 :: o5 :: o6 :: o7 :: o8 :: o9 :: o10 :: o11 :: o12 :: o13 :: o14 :: o15 :: o16 :: o17 :: o18 :: o19 :: o20 :: o21 :: o22 :: o23 :: o24 :: o25 :: o26 :: o27 :: o28 :: o29 :: o30 :: o31 :: o32 :: o33 :: o34 :: o35 :: o36 :: o37 :: o38 :: o39 :: s) H fun x H1 => D.nx (o0 :: o1 :: o2 :: o3 :: o4 :: o5 :: o6 :: o7 :: o8 :: o9 :: o10 :: o11 :: o12 :: o13 :: o14 :: o15 :: o16 :: o17 :: o18 :: o19 :: o20 :: o21 :: o22 :: o23 :: o24 :: o25 :: o26 :: o27 :: o28 :: o29 :: o30 :: o31 :: o32 :: o33 :: o34 :: o35 :: o36 :: o37 :: o38 :: some x :: s) H1) : tAsg te (gName 39) D (o0 :: o1 :: o2 :: o3 :: o4 :: o5 :: o6 :: o7 :: o8 :: o9 :: o10 :: o11 :: o12 :: o13 :: o14 :: o15 :: o16 :: o17 :: o18 :: o19 :: o20 :: o21 :: o22 :: o23 :: o24 :: o25 :: o26 :: o27 :: o28 :: o29 :: o30 :: o31 :: o32 :: o33 :: o34 :: o35 :: o36 :: o37 :: o38 :: o39 :: s) H := q
theorem k_g39 (q : R (o0 :: o1 :: o2 :: o3 :: o4 :: o5 :: o6 :: o7 :: o8 :: o9 :: o10 :: o11 :: o12 :: o13 :: o14 :: o15 :: o16 :: o17 :: o18 :: o19 :: o20 :: o21 :: o22 :: o23 :: o24 :: o25 :: o26 :: o27 :: o28 :: o29 :: o30 :: o31 :: o32 :: o33 :: o34 :: o35 :: o36 :: o37 :: o38 :: some x :: s) H) : gName 39 x (o0 :: o1 :: o2 :: o3 :: o4 :: o5 :: o6 :: o7 :: o8 :: o9 :: o10 :: o11 :: o12 :: o13 :: o14 :: o15 :: o16 :: o17 :: o18 :: o19 :: o20 :: o21 :: o22 :: o23 :: o24 :: o25 :: o26 :: o27 :: o28 :: o29 :: o30 :: o31 :: o32 :: o33 :: o34 :: o35 :: o36 :: o37 :: o38 :: o39 :: s) H R := q
theorem k_v40 (q : Q v H) : tVar 40 (o0 :: o1 :: o2 :: o3 :: o4 :: o5 :: o6 :: o7 :: o8 :: o9 :: o10 :: o11 :: o12 :: o13 :: o14 :: o15 :: o16 :: o17 :: o18 :: o19 :: o20 :: o21 :: o22 :: o23 :: o24 :: o25 :: o26 :: o27 :: o28 :: o29 :: o30 :: o31 :: o32 :: o33 :: o34 :: o35 :: o36 :: o37 :: o38 :: o39 :: some v :: s) H Q := ⟨v, rfl, q⟩
theorem k_s40 (q : te (o0 :: o1 :: o2 :: o3 :: o4 :: o5 :: o6 :: o7 :: o8 :: o9 :: o10 :: o11 :: o12 :: o13 :: o14 :: o15 :: o16 :: o17 :: o18 :: o19 :: o20 :: o21 :: o22 :: o23 :: o24 :: o25 :: o26 :: o27 :: o28 :: o29 :: o30 :: o31 :: o32 :: o33 :: o34 :: o35 :: o36 :: o37 :: o38 :: o39 :: o40 :: s) H fun x H1 => D.nx (o0 :: o1 :: o2 :: o3 :: o4 :: o5 :: o6 :: o7 :: o8 :: o9 :: o10 :: o11 :: o12 :: o13 :: o14 :: o15 :: o16 :: o17 :: o18 :: o19 :: o20 :: o21 :: o22 :: o23 :: o24 :: o25 :: o26 :: o27 :: o28 :: o29 :: o30 :: o31 :: o32 :: o33 :: o34 :: o35 :: o36 :: o37 :: o38 :: o39 :: some x :: s) H1) : tAsg te (gName 40) D (o0 :: o1 :: o2 :: o3 :: o4 :: o5 :: o6 :: o7 :: o8 :: o9 :: o10 :: o11 :: o12 :: o13 :: o14 :: o15 :: o16 :: o17 :: o18 :: o19 :: o20 :: o21 :: o22 :: o23 :: o24 :: o25 :: o26 :: o27 :: o28 :: o29 :: o30 :: o31 :: o32 :: o33 :: o34 :: o35 :: o36 :: o37 :: o38 :: o39 :: o40 :: s) H := q
theorem k_g40 (q : R (o0 :: o1 :: o2 :: o3 :: o4 :: o5 :: o6 :: o7 :: o8 :: o9 :: o10 :: o11 :: o12 :: o13 :: o14 :: o15 :: o16 :: o17 :: o18 :: o19 :: o20 :: o21 :: o22 :: o23 :: o24 :: o25 :: o26 :: o27 :: o28 :: o29 :: o30 :: o31 :: o32 :: o33 :: o34 :: o35 :: o36 :: o37 :: o38 :: o39 :: some x :: s) H) : gName 40 x (o0 :: o1 :: o2 :: o3 :: o4 :: o5 :: o6 :: o7 :: o8 :: o9 :: o10 :: o11 :: o12 :: o13 :: o14 :: o15 :: o16 :: o17 :: o18 :: o19 :: o20 :: o21 :: o22 :: o23 :: o24 :: o25 :: o26 :: o27 :: o28 :: o29 :: o30 :: o31 :: o32 :: o33 :: o34 :: o35 :: o36 :: o37 :: o38 :: o39 :: o40 :: s) H R := q
theorem k_v41 (q : Q v H) : tVar 41 (o0 :: o1 :: o2 :: o3 :: o4 :: o5 :: o6 :: o7 :: o8 :: o9 :: o10 :: o11 :: o12 :: o13 :: o14 :: o15 :: o16 :: o17 :: o18 :: o19 :: o20 :: o21 :: o22 :: o23 :: o24 :: o25 :: o26 :: o27 :: o28 :: o29 :: o30 :: o31 :: o32 :: o33 :: o34 :: o35 :: o36 :: o37 :: o38 :: o39 :: o40 :: some v :: s) H Q := ⟨v, rfl, q⟩
theorem k_s41 (q : te (o0 :: o1 :: o2 :: o3 :: o4 :: o5 :: o6 :: o7 :: o8 :: o9 :: o10 :: o11 :: o12 :: o13 :: o14 :: o15 :: o16 :: o17 :: o18 :: o19 :: o20 :: o21 :: o22 :: o23 :: o24 :: o25 :: o26 :: o27 :: o28 :: o29 :: o30 :: o31 :: o32 :: o33 :: o34 :: o35 :: o36 :: o37 :: o38 :: o39 :: o40 :: o41 :: s) H fun x H1 => D.nx (o0 :: o1 :: o2 :: o3 :: o4 :: o5 :: o6 :: o7 :: o8 :: o9 :: o10 :: o11 :: o12 :: o13 :: o14 :: o15 :: o16 :: o17 :: o18 :: o19 :: o20 :: o21 :: o22 :: o23 :: o24 :: o25 :: o26 :: o27 :: o28 :: o29 :: o30 :: o31 :: o32 :: o33 :: o34 :: o35 :: o36 :: o37 :: o38 :: o39 :: o40 :: some x :: s) H1) : tAsg te (gName 41) D (o0 :: o1 :: o2 :: o3 :: o4 :: o5 :: o6 :: o7 :: o8 :: o9 :: o10 :: o11 :: o12 :: o13 :: o14 :: o15 :: o16 :: o17 :: o18 :: o19 :: o20 :: o21 :: o22 :: o23 :: o24 :: o25 :: o26 :: o27 :: o28 :: o29 :: o30 :: o31 :: o32 :: o33 :: o34 :: o35 :: o36 :: o37 :: o38 :: o39 :: o40 :: o41 :: s) H := q
theorem k_g41 (q : R (o0 :: o1 :: o2 :: o3 :: o4 :: o5 :: o6 :: o7 :: o8 :: o9 :: o10 :: o11 :: o12 :: o13 :: o14 :: o15 :: o16 :: o17 :: o18 :: o19 :: o20 :: o21 :: o22 :: o23 :: o24 :: o25 :: o26 :: o27 :: o28 :: o29 :: o30 :: o31 :: o32 :: o33 :: o34 :: o35 :: o36 :: o37 :: o38 :: o39 :: o40 :: some x :: s) H) : gName 41 x (o0 :: o1 :: o2 :: o3 :: o4 :: o5 :: o6 :: o7 :: o8 :: o9 :: o10 :: o11 :: o12 :: o13 :: o14 :: o15 :: o16 :: o17 :: o18 :: o19 :: o20 :: o21 :: o22 :: o23 :: o24 :: o25 :: o26 :: o27 :: o28 :: o29 :: o30 :: o31 :: o32 :: o33 :: o34 :: o35 :: o36 :: o37 :: o38 :: o39 :: o40 :: o41 :: s) H R := q
theorem k_v42 (q : Q v H) : tVar 42 (o0 :: o1 :: o2 :: o3 :: o4 :: o5 :: o6 :: o7 :: o8 :: o9 :: o10 :: o11 :: o12 :: o13 :: o14 :: o15 :: o16 :: o17 :: o18 :: o19 :: o20 :: o21 :: o22 :: o23 :: o24 :: o25 :: o26 :: o27 :: o28 :: o29 :: o30 :: o31 :: o32 :: o33 :: o34 :: o35 :: o36 :: o37 :: o38 :: o39 :: o40 :: o41 :: some v :: s) H Q := ⟨v, rfl, q⟩
theorem k_s42 (q : te (o0 :: o1 :: o2 :: o3 :: o4 :: o5 :: o6 :: o7 :: o8 :: o9 :: o10 :: o11 :: o12 :: o13 :: o14 :: o15 :: o16 :: o17 :: o18 :: o19 :: o20 :: o21 :: o22 :: o23 :: o24 :: o25 :: o26 :: o27 :: o28 :: o29 :: o30 :: o31 :: o32 :: o33 :: o34 :: o35 :: o36 :: o37 :: o38 :: o39 :: o40 :: o41 :: o42 :: s) H fun x H1 => D.nx (o0 :: o1 :: o2 :: o3 :: o4 :: o5 :: o6 :: o7 :: o8 :: o9 :: o10 :: o11 :: o12 :: o13 :: o14 :: o15 :: o16 :: o17 :: o18 :: o19 :: o20 :: o21 :: o22 :: o23 :: o24 :: o25 :: o26 :: o27 :: o28 :: o29 :: o30 :: o31 :: o32 :: o33 :: o34 :: o35 :: o36 :: o37 :: o38 :: o39 :: o40 :: o41 :: some x :: s) H1) : tAsg te (gName 42) D (o0 :: o1 :: o2 :: o3 :: o4 :: o5 :: o6 :: o7 :: o8 :: o9 :: o10 :: o11 :: o12 :: o13 :: o14 :: o15 :: o16 :: o17 :: o18 :: o19 :: o20 :: o21 :: o22 :: o23 :: o24 :: o25 :: o26 :: o27 :: o28 :: o29 :: o30 :: o31 :: o32 :: o33 :: o34 :: o35 :: o36 :: o37 :: o38 :: o39 :: o40 :: o41 :: o42 :: s) H := q
theorem k_g42 (q : R (o0 :: o1 :: o2 :: o3 :: o4 :: o5 :: o6 :: o7 :: o8 :: o9 :: o10 :: o11 :: o12 :: o13 :: o14 :: o15 :: o16 :: o17 :: o18 :: o19 :: o20 :: o21 :: o22 :: o23 :: o24 :: o25 :: o26 :: o27 :: o28 :: o29 :: o30 :: o31 :: o32 :: o33 :: o34 :: o35 :: o36 :: o37 :: o38 :: o39 :: o40 :: o41 :: some x :: s) H) : gName 42 x (o0 :: o1 :: o2 :: o3 :: o4 :: o5 :: o6 :: o7 :: o8 :: o9 :: o10 :: o11 :: o12 :: o13 :: o14 :: o15 :: o16 :: o17 :: o18 :: o19 :: o20 :: o21 :: o22 :: o23 :: o24 :: o25 :: o26 :: o27 :: o28 :: o29 :: o30 :: o31 :: o32 :: o33 :: o34 :: o35 :: o36 :: o37 :: o38 :: o39 :: o40 :: o41 :: o42 :: s) H R := q
theorem k_v43 (q : Q v H) : tVar 43 (o0 :: o1 :: o2 :: o3 :: o4 :: o5 :: o6 :: o7 :: o8 :: o9 :: o10 :: o11 :: o12 :: o13 :: o14 :: o15 :: o16 :: o17 :: o18 :: o19 :: o20 :: o21 :: o22 :: o23 :: o24 :: o25 :: o26 :: o27 :: o28 :: o29 :: o30 :: o31 :: o32 :: o33 :: o34 :: o35 :: o36 :: o37 :: o38 :: o39 :: o40 :: o41 :: o42 :: some v :: s) H Q := ⟨v, rfl, q⟩
theorem k_s43 (q : te (o0 :: o1 :: o2 :: o3 :: o4 :: o5 :: o6 :: o7 :: o8 :: o9 :: o10 :: o11 :: o12 :: o13 :: o14 :: o15 :: o16 :: o17 :: o18 :: o19 :: o20 :: o21 :: o22 :: o23 :: o24 :: o25 :: o26 :: o27 :: o28 :: o29 :: o30 :: o31 :: o32 :: o33 :: o34 :: o35 :: o36 :: o37 :: o38 :: o39 :: o40 :: o41 :: o42 :: o43 :: s) H fun x H1 => D.nx (o0 :: o1 :: o2 :: o3 :: o4 :: o5 :: o6 :: o7 :: o8 :: o9 :: o10 :: o11 :: o12 :: o13 :: o14 :: o15 :: o16 :: o17 :: o18 :: o19 :: o20 :: o21 :: o22 :: o23 :: o24 :: o25 :: o26 :: o27 :: o28 :: o29 :: o30 :: o31 :: o32 :: o33 :: o34 :: o35 :: o36 :: o37 :: o38 :: o39 :: o40 :: o41 :: o42 :: some x :: s) H1) : tAsg te (gName 43) D (o0 :: o1 :: o2 :: o3 :: o4 :: o5 :: o6 :: o7 :: o8 :: o9 :: o10 :: o11 :: o12 :: o13 :: o14 :: o15 :: o16 :: o17 :: o18 :: o19 :: o20 :: o21 :: o22 :: o23 :: o24 :: o25 :: o26 :: o27 :: o28 :: o29 :: o30 :: o31 :: o32 :: o33 :: o34 :: o35 :: o36 :: o37 :: o38 :: o39 :: o40 :: o41 :: o42 :: o43 :: s) H := q
theorem k_g43 (q : R (o0 :: o1 :: o2 :: o3 :: o4 :: o5 :: o6 :: o7 :: o8 :: o9 :: o10 :: o11 :: o12 :: o13 :: o14 :: o15 :: o16 :: o17 :: o18 :: o19 :: o20 :: o21 :: o22 :: o23 :: o24 :: o25 :: o26 :: o27 :: o28 :: o29 :: o30 :: o31 :: o32 :: o33 :: o34 :: o35 :: o36 :: o37 :: o38 :: o39 :: o40 :: o41 :: o42 :: some x :: s) H) : gName 43 x (o0 :: o1 :: o2 :: o3 :: o4 :: o5 :: o6 :: o7 :: o8 :: o9 :: o10 :: o11 :: o12 :: o13 :: o14 :: o15 :: o16 :: o17 :: o18 :: o19 :: o20 :: o21 :: o22 :: o23 :: o24 :: o25 :: o26 :: o27 :: o28 :: o29 :: o30 :: o31 :: o32 :: o33 :: o34 :: o35 :: o36 :: o37 :: o38 :: o39 :: o40 :: o41 :: o42 :: o43 :: s) H R := q
end
end Ls
-- own part: lw0
/-! ### the law's draws -/
namespace Ls
open PySem PySem.Spec PyProof.Rows L2
def dd (c : Addr) (n r s : Int) : List (Key × V) := [(.inr ("cells" : Str), .ref c), (.inr ("at" : Str), .int n), (.inr ("rest" : Str), .int r), (.inr ("seed" : Str), .int s)]
theorem kne {a b : Str} (h : ¬ a = b) : ¬ (Sum.inr a : Key) = Sum.inr b := fun e => h (Sum.inr.inj e)
theorem n_ca : ¬ ("cells" : Str) = "at" := by decide +kernel
theorem n_cr : ¬ ("cells" : Str) = "rest" := by decide +kernel
theorem n_cs : ¬ ("cells" : Str) = "seed" := by decide +kernel
theorem n_ar : ¬ ("at" : Str) = "rest" := by decide +kernel
theorem n_as : ¬ ("at" : Str) = "seed" := by decide +kernel
theorem n_rs : ¬ ("rest" : Str) = "seed" := by decide +kernel
section
variable {c : Addr} {n r s m : Int}
theorem dd_cells : valV (dd c n r s) (.inr ("cells" : Str)) = some (.ref c) := valV_pos rfl
theorem dd_at : valV (dd c n r s) (.inr ("at" : Str)) = some (.int n) := (valV_neg (kne n_ca)).trans (valV_pos rfl)
theorem dd_rest : valV (dd c n r s) (.inr ("rest" : Str)) = some (.int r) := (valV_neg (kne n_cr)).trans ((valV_neg (kne n_ar)).trans (valV_pos rfl))
theorem dd_seed : valV (dd c n r s) (.inr ("seed" : Str)) = some (.int s) := (valV_neg (kne n_cs)).trans ((valV_neg (kne n_as)).trans ((valV_neg (kne n_rs)).trans (valV_pos rfl)))
theorem dd_len : (dd c n r s).length < sizeLine := by show 4 < sizeLine; decide
theorem put_of {kvs : List (Key × V)} {k : Key} {v w : V} (h : valV kvs k = some w) : putK kvs k v = kvs.map (fun kv => if kv.1 = k then (kv.1, v) else kv) := by
  unfold putK
  rw [valV_any, h]
  rfl
theorem dd_put_at : putK (dd c n r s) (.inr ("at" : Str)) (.int m) = dd c m r s := by
  rw [put_of dd_at]
  simp only [dd, List.map_cons, List.map_nil, if_neg (kne n_ca), if_neg (kne (fun e => n_ar e.symm)), if_neg (kne (fun e => n_as e.symm)), if_true]
theorem dd_put_rest : putK (dd c n r s) (.inr ("rest" : Str)) (.int m) = dd c n m s := by
  rw [put_of dd_rest]
  simp only [dd, List.map_cons, List.map_nil, if_neg (kne n_cr), if_neg (kne n_ar), if_neg (kne (fun e => n_rs e.symm)), if_true]
theorem dd_put_seed : putK (dd c n r s) (.inr ("seed" : Str)) (.int m) = dd c n r m := by
  rw [put_of dd_seed]
  simp only [dd, List.map_cons, List.map_nil, if_neg (kne n_cs), if_neg (kne n_as), if_neg (kne n_rs), if_true]
end
/-- the draws' dict: any state of it -/
def Draw (K : PySem.W.Frag) (H : Hp) (d c : Addr) : Prop := ∃ (n r s : Int) (ns : List Int), H d = some (.dK (dd c n r s)) ∧ H c = some (.lst (ns.map V.int)) ∧ 0 ≤ n ∧ 0 ≤ r ∧ 0 ≤ s ∧ s < 2305843009213693951
theorem Draw.keeps {K : PySem.W.Frag} {H H' : Hp} {d c : Addr} (h : Draw K H d c) (k : Same H H') : Draw K H' d c := by
  obtain ⟨n, r, s, ns, h1, h2, h3⟩ := h
  exact ⟨n, r, s, ns, k _ _ h1, k _ _ h2, h3⟩
theorem Draw.is {K : PySem.W.Frag} {H : Hp} {d c : Addr} (h : Draw K H d c) : ∃ kvs, H d = some (.dK kvs) := by
  obtain ⟨n, r, s, ns, h1, _⟩ := h
  exact ⟨_, h1⟩
theorem Draw.ne {K : PySem.W.Frag} {H : Hp} {d c a : Addr} {o : HO} (h : Draw K H d c) (e : H a = some o) (n : ∀ kvs, o ≠ .dK kvs) : a ≠ d := by
  obtain ⟨kvs, h1⟩ := h.is
  exact ne_of e h1 (n kvs)
theorem Draw.free {K : PySem.W.Frag} {H : Hp} {d c p : Addr} (h : Draw K H d c) (e : H p = none) : p ≠ d := by
  obtain ⟨kvs, h1⟩ := h.is
  exact fun z => by
    rw [z, h1] at e
    cases e
theorem Draw.tp {K : PySem.W.Frag} {H H' : Hp} {d c : Addr} (h : Draw K H d c) (k : Keep d H H') : Tp K H H' := by
  obtain ⟨kvs, h1⟩ := h.is
  exact keep_tp k h1 rfl
theorem Draw.sql {K : PySem.W.Frag} {H H' : Hp} {d c a : Addr} {xs : List V} (h : Draw K H d c) (k : Keep d H H') (q : SqL K H a xs) : SqL K H' a xs := by
  obtain ⟨kvs, h1⟩ := h.is
  exact sql_keep k h1 q
/-- a write to a list that the draws do not hold -/
theorem Draw.new {K : PySem.W.Frag} {H : Hp} {d c p : Addr} {o : HO} (h : Draw K H d c) (e : H p = none) : Draw K (upd H p o) d c := h.keeps (same_new e)
theorem Draw.nec {K : PySem.W.Frag} {H : Hp} {d c p : Addr} (h : Draw K H d c) (e : H p = none) : p ≠ c := by
  obtain ⟨n, r, s, ns, h1, h2, _⟩ := h
  rintro rfl
  rw [h2] at e
  cases e
theorem Draw.wr {K : PySem.W.Frag} {H : Hp} {d c p : Addr} {o : HO} (h : Draw K H d c) (n1 : p ≠ d) (n2 : p ≠ c) : Draw K (upd H p o) d c := by
  obtain ⟨n, r, s, ns, h1, h2, h3⟩ := h
  exact ⟨n, r, s, ns, by rw [upd_ne n1.symm]; exact h1, by rw [upd_ne n2.symm]; exact h2, h3⟩
def spBegin (K : PySem.W.Frag) : Sp := fun vs H Q _ => ∃ (a : Addr) (ns : List Int), vs = [.ref a] ∧ SqL K H a (ns.map V.int) ∧ ns.length ≤ 63 ∧ ∀ d c H', H d = none → H c = none → Same H H' → Draw K H' d c → Q (.ref d) H'
def spPick (K : PySem.W.Frag) : Sp := fun vs H Q _ => ∃ (d c : Addr) (many : Int), vs = [.ref d, .int many] ∧ Draw K H d c ∧ 0 < many ∧ many < 2 ^ 200 ∧ ∀ r H', Keep d H H' → Draw K H' d c → 0 ≤ r → r < many → Q (.int r) H'
theorem use_pick {K : PySem.W.Frag} {d c : Addr} {many : Int} {H : Hp} {Q : VK} {E : XK} (hD : Draw K H d c) (h1 : 0 < many) (h2 : many < 2 ^ 200) (q : ∀ r H', Keep d H H' → Draw K H' d c → 0 ≤ r → r < many → Q (.int r) H') : spPick K ([.ref d, .int many] ++ []) H Q E := ⟨d, c, many, rfl, hD, h1, h2, q⟩
end Ls
-- own part: lw2
namespace Ls
open PySem PySem.Spec PyProof.Rows L2
/-! ### data and their types -/
/-- data of at most this depth, its lists not too long -/
def OkD : Nat → PyData → Prop
  | _, .none => True
  | _, .bool _ => True
  | _, .int _ => True
  | _, .str x => PyData.strOk x = true
  | n + 1, .list xs => xs.length ≤ 100000 ∧ ∀ d ∈ xs, OkD n d
  | n + 1, .tuple xs => xs.length ≤ 100000 ∧ ∀ d ∈ xs, OkD n d
  | _, _ => False
theorem lay_all : ∀ {xs : List PyData}, (∀ d ∈ xs, d.canLay0 = true) → PyData.canLayAll0 xs = true
  | [], _ => by simp only [PyData.canLayAll0]
  | d :: r, h => by
    simp only [PyData.canLayAll0, Bool.and_eq_true]
    exact ⟨h d List.mem_cons_self, lay_all fun e he => h e (List.mem_cons_of_mem _ he)⟩
theorem depth_all {n : Nat} : ∀ {xs : List PyData}, (∀ d ∈ xs, d.depth ≤ n) → PyData.depthAll xs ≤ n
  | [], _ => by simp only [PyData.depthAll]; omega
  | d :: r, h => by
    simp only [PyData.depthAll]
    have h1 := h d List.mem_cons_self
    have h2 := depth_all fun e he => h e (List.mem_cons_of_mem _ he)
    omega
theorem OkD.lay : ∀ {n : Nat} {d : PyData}, OkD n d → d.canLay0 = true ∧ d.depth ≤ n
  | _, .none, _ => by simp only [PyData.canLay0, PyData.depth]; exact ⟨trivial, Nat.zero_le _⟩
  | _, .bool _, _ => by simp only [PyData.canLay0, PyData.depth]; exact ⟨trivial, Nat.zero_le _⟩
  | _, .int _, _ => by simp only [PyData.canLay0, PyData.depth]; exact ⟨trivial, Nat.zero_le _⟩
  | n, .str x, h => by
    cases n <;> exact ⟨by simp only [PyData.canLay0]; exact h, by simp only [PyData.depth]; omega⟩
  | n + 1, .list xs, h => by
    have ih : ∀ d ∈ xs, d.canLay0 = true ∧ d.depth ≤ n := fun d hd => OkD.lay (h.2 d hd)
    simp only [PyData.canLay0, PyData.depth]
    exact ⟨lay_all fun d hd => (ih d hd).1, Nat.succ_le_succ (depth_all fun d hd => (ih d hd).2)⟩
  | n + 1, .tuple xs, h => by
    have ih : ∀ d ∈ xs, d.canLay0 = true ∧ d.depth ≤ n := fun d hd => OkD.lay (h.2 d hd)
    simp only [PyData.canLay0, PyData.depth]
    exact ⟨lay_all fun d hd => (ih d hd).1, Nat.succ_le_succ (depth_all fun d hd => (ih d hd).2)⟩
  | 0, .list _, h => (show False from h).elim
  | 0, .tuple _, h => (show False from h).elim
  | n, .dict _, h => by
    cases n <;> exact (show False from h).elim
theorem OkD.shaped {n : Nat} {d : PyData} (h : OkD n d) (hn : n ≤ 64) : SeqAt.shaped d = true := by
  obtain ⟨h1, h2⟩ := h.lay
  show (d.canLay0 && decide (d.depth ≤ 64)) = true
  rw [h1, decide_eq_true (Nat.le_trans h2 hn)]
  rfl
theorem OkD.mono : ∀ {n m : Nat} {d : PyData}, n ≤ m → OkD n d → OkD m d
  | n, m, .none, _, _ => by cases m <;> trivial
  | n, m, .bool _, _, _ => by cases m <;> trivial
  | n, m, .int _, _, _ => by cases m <;> trivial
  | n, m, .str x, _, h => by cases n <;> cases m <;> exact h
  | n + 1, m + 1, .list xs, hl, h => ⟨h.1, fun d hd => OkD.mono (Nat.le_of_succ_le_succ hl) (h.2 d hd)⟩
  | n + 1, m + 1, .tuple xs, hl, h => ⟨h.1, fun d hd => OkD.mono (Nat.le_of_succ_le_succ hl) (h.2 d hd)⟩
  | 0, _, .list _, _, h => (show False from h).elim
  | 0, _, .tuple _, _, h => (show False from h).elim
  | n + 1, 0, .list _, hl, _ => absurd hl (by omega)
  | n + 1, 0, .tuple _, hl, _ => absurd hl (by omega)
  | n, m, .dict _, _, h => by cases n <;> exact (show False from h).elim
theorem kt_none_bool : kitB "NoneType" "bool" = some false := by decide +kernel
theorem kt_none_int : kitB "NoneType" "int" = some false := by decide +kernel
theorem kt_none_str : kitB "NoneType" "str" = some false := by decide +kernel
theorem kt_none_list : kitB "NoneType" "list" = some false := by decide +kernel
theorem kt_none_tuple : kitB "NoneType" "tuple" = some false := by decide +kernel
theorem kt_bool_bool : kitB "bool" "bool" = some true := by decide +kernel
theorem kt_bool_int : kitB "bool" "int" = some true := by decide +kernel
theorem kt_bool_str : kitB "bool" "str" = some false := by decide +kernel
theorem kt_bool_list : kitB "bool" "list" = some false := by decide +kernel
theorem kt_bool_tuple : kitB "bool" "tuple" = some false := by decide +kernel
theorem kt_int_bool : kitB "int" "bool" = some false := by decide +kernel
theorem kt_int_int : kitB "int" "int" = some true := by decide +kernel
theorem kt_int_str : kitB "int" "str" = some false := by decide +kernel
theorem kt_int_list : kitB "int" "list" = some false := by decide +kernel
theorem kt_int_tuple : kitB "int" "tuple" = some false := by decide +kernel
theorem kt_str_bool : kitB "str" "bool" = some false := by decide +kernel
theorem kt_str_int : kitB "str" "int" = some false := by decide +kernel
theorem kt_str_str : kitB "str" "str" = some true := by decide +kernel
theorem kt_str_list : kitB "str" "list" = some false := by decide +kernel
theorem kt_str_tuple : kitB "str" "tuple" = some false := by decide +kernel
theorem kt_list_bool : kitB "list" "bool" = some false := by decide +kernel
theorem kt_list_int : kitB "list" "int" = some false := by decide +kernel
theorem kt_list_str : kitB "list" "str" = some false := by decide +kernel
theorem kt_list_list : kitB "list" "list" = some true := by decide +kernel
theorem kt_list_tuple : kitB "list" "tuple" = some false := by decide +kernel
theorem kt_tuple_bool : kitB "tuple" "bool" = some false := by decide +kernel
theorem kt_tuple_int : kitB "tuple" "int" = some false := by decide +kernel
theorem kt_tuple_str : kitB "tuple" "str" = some false := by decide +kernel
theorem kt_tuple_list : kitB "tuple" "list" = some false := by decide +kernel
theorem kt_tuple_tuple : kitB "tuple" "tuple" = some true := by decide +kernel
/-- a datum's type -/
def tyn : PyData → String
  | .none => "NoneType"
  | .bool _ => "bool"
  | .int _ => "int"
  | .str _ => "str"
  | .list _ => "list"
  | .tuple _ => "tuple"
  | .dict _ => "dict"
section
variable {K : PySem.W.Frag} {H H' : Hp} {Q : VK} {x : V} {d : PyData} {b : Bool}
theorem sql_ty {a : Addr} {xs : List V} (h : SqL K H a xs) : TyX K H (.ref a) (.type "list") := by
  rcases h with (h | ⟨o, h⟩) | ⟨o, its, n, h1, h2, _⟩
  · exact .base (.lst h)
  · exact .base (.frz h)
  · exact .kList h1 h2
theorem sqt_ty {a : Addr} {xs : List V} (h : SqT K H a xs) : TyX K H (.ref a) (.type "tuple") := by
  rcases h with (h | ⟨o, h⟩) | ⟨o, its, n, h1, h2, _⟩
  · exact .base (.tup h)
  · exact .fTuple h
  · exact .kTuple h1 h2
theorem dp_ty (h : Dp K H x d) : TyX K H x (.type (tyn d)) := by
  cases h with
  | non => exact .base .non
  | bl b => exact .base (.bl b)
  | int i => exact .base (.int i)
  | str x => exact .base (.str x)
  | lst h _ => exact sql_ty h
  | tup h _ => exact sqt_ty h
theorem k_isi {T U : String} (h : Dp K H x d) (e0 : tyn d = U) (e : kitB U T = some b) (q : Q (.bl b) H) : rIsi K [x, .ty T] H Q := ⟨x, .ty T, _, _, b, rfl, .ty T, dp_ty h, kit_ty (by rw [e0]; exact e), q⟩
theorem k_isi2 {T U W : String} {b1 b2 b : Bool} {tp : Addr} (h : Dp K H x d) (ht : H tp = some (.tup [.ty T, .ty U])) (e0 : tyn d = W) (e1 : kitB W T = some b1) (e2 : kitB W U = some b2) (eb : (b1 || b2) = b) (q : Q (.bl b) H) : rIsiT K [x, .ref tp] H Q :=
  ⟨x, tp, _, _, [.type T, .type U], b1 || b2, rfl, ht, .cons (.ty T) (.cons (.ty U) .nil), dp_ty h, by
    subst e0
    refine kitAny_cons (kit_ty e1) (fun h1 => ?_) fun h1 => by rw [h1]; rfl
    rw [h1, Bool.false_or]
    refine kitAny_cons (kit_ty e2) (fun h2 => by rw [h2]; rfl) fun h2 => h2, by rw [eb]; exact q⟩
theorem k_all {a : Addr} {bs : List Bool} (h : SqL K H a (bs.map V.bl)) (q : Q (.bl (bs.all id)) H) : rAll K [.ref a] H Q := ⟨a, bs, rfl, h, q⟩
theorem k_any {a : Addr} {bs : List Bool} (h : SqL K H a (bs.map V.bl)) (q : Q (.bl (bs.any id)) H) : rAny K [.ref a] H Q := ⟨a, bs, rfl, h, q⟩
theorem k_lc {wi : TI} {g : TG} {tt : TT} {te : TE} {vs : List Nat} {σ : L2.St} (h : wi σ H fun J H1 => ∀ D, H1 D = none → ∃ W : Nat → Nat → Hp → Prop, (∃ m, W 0 m (upd H1 D (.lst []))) ∧ ∀ i m H, W i m H →
  (J.stop i H ∧ Q (.ref D) H) ∨ (J.go i H ∧ ∃ Nx : Hp → Prop, (∀ H', Nx H' → ∃ m', m' < m ∧ W (i + 1) m' H') ∧ ∀ x H', J.yld i H x H' → g x (wipe σ vs) H' fun σ2 H2 => wipe σ2 vs = wipe σ vs ∧ tt σ2 H2 fun b H3 =>
    if b = true then te σ2 H3 fun y H4 => ∃ acc, H4 D = some (.lst acc) ∧ acc.length < sizeLine ∧ Nx (upd H4 D (.lst (acc ++ [y]))) else Nx H3)) : tLc wi g tt te vs σ H Q := h
theorem k_lenE {a : Addr} {xs : List V} (h : SqL K H a xs ∨ SqT K H a xs) (q : Q (.int xs.length) H) : rLenU K [.ref a] H Q := .inl ⟨a, xs, rfl, h, q⟩
theorem k_ixE {a : Addr} {xs : List V} {v : V} {i : Int} (h : SqL K H a xs ∨ SqT K H a xs) (h2 : atI xs i = some v) (q : Q v H) : rIx K (.ref a) (.int i) H Q := by
  rcases h with h | h
  · exact k_ixL h h2 q
  · exact k_ixT h h2 q
theorem seq_same {a : Addr} {xs : List V} (e : Same H H') (h : SqL K H a xs ∨ SqT K H a xs) : SqL K H' a xs ∨ SqT K H' a xs := by
  rcases h with h | h
  · exact .inl (e.seq h)
  · exact .inr (sqt_same e h)
theorem dp_same (e : Same H H') : ∀ {x : V} {d : PyData}, Dp K H x d → Dp K H' x d := by
  intro x d h
  induction h using Dp.rec (motive_2 := fun vs ds _ => DpAll K H' vs ds) with
  | non => exact .non
  | bl b => exact .bl b
  | int i => exact .int i
  | str x => exact .str x
  | lst h _ ih => exact .lst (e.seq h) ih
  | tup h _ ih => exact .tup (sqt_same e h) ih
  | nil => exact .nil
  | cons _ _ h1 h2 => exact .cons h1 h2
theorem dpall_same (e : Same H H') : ∀ {vs : List V} {ds : List PyData}, DpAll K H vs ds → DpAll K H' vs ds
  | _, _, .nil => .nil
  | _, _, .cons a b => .cons (dp_same e a) (dpall_same e b)
theorem DpAll.length' : ∀ {vs : List V} {ds : List PyData}, DpAll K H vs ds → vs.length = ds.length
  | _, _, .nil => rfl
  | _, _, .cons _ hs => congrArg Nat.succ (DpAll.length' hs)
theorem DpAll.getD' : ∀ {vs : List V} {ds : List PyData} {i : Nat} {d : PyData}, DpAll K H vs ds → ds[i]? = some d → ∃ v, vs[i]? = some v ∧ Dp K H v d
  | _, _, i, _, .nil, e => by simp at e
  | _, _, 0, _, .cons a _, e => by
    simp at e
    subst e
    exact ⟨_, rfl, a⟩
  | _, _, i + 1, d, .cons _ b, e => by
    obtain ⟨v, h1, h2⟩ := DpAll.getD' (i := i) (d := d) b (by simpa using e)
    exact ⟨v, by simpa using h1, h2⟩
end
def spSame (K : PySem.W.Frag) (n : Nat) : Sp := fun vs H Q _ => ∃ (x y : V) (d : PyData), vs = [x, y] ∧ Dp K H x d ∧ Dp K H y d ∧ OkD n d ∧ ∀ H', Same H H' → Q (.bl true) H'
theorem use_same {K : PySem.W.Frag} {n : Nat} {x y : V} {d : PyData} {H : Hp} {Q : VK} {E : XK} (h1 : Dp K H x d) (h2 : Dp K H y d) (h3 : OkD n d) (q : ∀ H', Same H H' → Q (.bl true) H') : spSame K n ([x, y] ++ []) H Q E := ⟨x, y, d, rfl, h1, h2, h3, q⟩
end Ls
-- own part: lw4
namespace Ls
open PySem PySem.Spec PyProof.Rows L2
section
variable {σ : L2.St} {H : Hp} {Q : VK} {tk tv : TE} {r : List (TE × TE)}
theorem k_disp {trs : List (TE × TE)} (q : ∀ p, H p = none → tPairs trs σ (upd H p (.dK [])) fun ps H2 => H2 p = some (.dK []) ∧ ∃ kvs : List (Key × V), ps = kvs.map (fun kv => (kV kv.1, kv.2)) ∧ kvs.length ≤ 15 ∧ Q (.ref p) (upd H2 p (.dK (mergeK [] kvs)))) : tDisp trs σ H Q := q
theorem k_prs {R : List (V × V) → Hp → Prop} (h : tk σ H fun x H1 => tv σ H1 fun y H2 => tPairs r σ H2 fun ps H3 => R ((x, y) :: ps) H3) : tPairs ((tk, tv) :: r) σ H R := h
theorem k_prn {R : List (V × V) → Hp → Prop} (h : R [] H) : tPairs [] σ H R := h
theorem cut_to {xs : List V} {i : Int} (h : 0 ≤ i) : cutV xs none (some i) = xs.take i.toNat := by
  obtain ⟨k, rfl⟩ := Int.eq_ofNat_of_zero_le h
  show (xs.drop 0).take (HT.sIx xs.length xs.length (some (k : Int)) - 0) = _
  rw [HT.sIx_nat, List.drop_zero, Nat.sub_zero, Int.toNat_natCast]
  by_cases hk : k ≤ xs.length
  · rw [Nat.min_eq_left hk]
  · rw [Nat.min_eq_right (by omega), List.take_of_length_le (Nat.le_refl _), List.take_of_length_le (by omega)]
theorem cut_from {xs : List V} {i : Int} (h : 0 ≤ i) : cutV xs (some i) none = xs.drop i.toNat := by
  obtain ⟨k, rfl⟩ := Int.eq_ofNat_of_zero_le h
  show (xs.drop (HT.sIx xs.length 0 (some (k : Int)))).take (xs.length - HT.sIx xs.length 0 (some (k : Int))) = _
  rw [HT.sIx_nat, Int.toNat_natCast]
  by_cases hk : k ≤ xs.length
  · rw [Nat.min_eq_left hk]
    exact List.take_of_length_le (by rw [List.length_drop]; omega)
  · rw [Nat.min_eq_right (by omega), List.drop_of_length_le (Nat.le_refl _), List.drop_of_length_le (by omega), List.take_nil]
theorem cut_all {xs : List V} {i : Int} (h : (xs.length : Int) ≤ i) : cutV xs none (some i) = xs := by
  rw [cut_to (by omega), List.take_of_length_le (by omega)]
theorem put_none {kvs : List (Key × V)} {k : Key} {v : V} (h : valV kvs k = none) : putK kvs k v = kvs ++ [(k, v)] := by
  unfold putK
  rw [valV_any, h]
  rfl
theorem dd_merge {c : Addr} {n r s : Int} : mergeK [] (dd c n r s) = dd c n r s := by
  show putK (putK (putK (putK ([] : List (Key × V)) (Sum.inr ("cells" : Str) : Key) (V.ref c)) (Sum.inr ("at" : Str) : Key) (V.int n)) (Sum.inr ("rest" : Str) : Key) (V.int r)) (Sum.inr ("seed" : Str) : Key) (V.int s) = _
  rw [put_none (kvs := []) rfl]
  rw [put_none (kvs := [] ++ _) ((valV_neg (kne n_ca)).trans rfl)]
  rw [put_none (kvs := [] ++ _ ++ _) ((valV_neg (kne n_cr)).trans ((valV_neg (kne n_ar)).trans rfl))]
  rw [put_none (kvs := [] ++ _ ++ _ ++ _) ((valV_neg (kne n_cs)).trans ((valV_neg (kne n_as)).trans ((valV_neg (kne n_rs)).trans rfl)))]
  rfl
end
/-- some element of a list -/
def spOf (K : PySem.W.Frag) : Sp := fun vs H Q _ => ∃ (d c l : Addr) (xs : List V), vs = [.ref d, .ref l] ∧ Draw K H d c ∧ SqL K H l xs ∧ 0 < xs.length ∧ xs.length < 2 ^ 100 ∧ ∀ x H', Keep d H H' → Draw K H' d c → x ∈ xs → Q x H'
theorem use_of {K : PySem.W.Frag} {d c l : Addr} {xs : List V} {H : Hp} {Q : VK} {E : XK} (hD : Draw K H d c) (h : SqL K H l xs) (h1 : 0 < xs.length) (h2 : xs.length < 2 ^ 100) (q : ∀ x H', Keep d H H' → Draw K H' d c → x ∈ xs → Q x H') : spOf K ([.ref d, .ref l] ++ []) H Q E := ⟨d, c, l, xs, rfl, hD, h, h1, h2, q⟩
end Ls
-- own part: lm
namespace Lm
/-! ### least amounts and rings, in plain Lean -/
abbrev Tie := Int × Int × Int
structure S where
  row : Int → Int
  way : Int → Option Tie
  last : Option Int
def push1 (s : S) (t : Tie) : S :=
  if s.row t.1 < s.row t.2.1 + t.2.2 then ⟨fun p => if p = t.1 then s.row t.2.1 + t.2.2 else s.row p, fun p => if p = t.1 then some t else s.way p, some t.1⟩ else s
def pushedS (s : S) (es : List Tie) : S := es.foldl push1 { s with last := none }
def iter (es : List Tie) (s : S) : Nat → S
  | 0 => s
  | k + 1 => pushedS (iter es s k) es
/-- a tie is met -/
def Met (x : Int → Int) (t : Tie) : Prop := x t.2.1 + t.2.2 ≤ x t.1
theorem push1_pos {s : S} {t : Tie} (h : s.row t.1 < s.row t.2.1 + t.2.2) : push1 s t = ⟨fun p => if p = t.1 then s.row t.2.1 + t.2.2 else s.row p, fun p => if p = t.1 then some t else s.way p, some t.1⟩ := if_pos h
theorem push1_neg {s : S} {t : Tie} (h : ¬ s.row t.1 < s.row t.2.1 + t.2.2) : push1 s t = s := if_neg h
theorem push1_mono (s : S) (t : Tie) (p : Int) : s.row p ≤ (push1 s t).row p := by
  by_cases h : s.row t.1 < s.row t.2.1 + t.2.2
  · rw [push1_pos h]
    show s.row p ≤ if p = t.1 then s.row t.2.1 + t.2.2 else s.row p
    by_cases e : p = t.1
    · rw [if_pos e, e]; omega
    · rw [if_neg e]; omega
  · rw [push1_neg h]; omega
theorem fold_mono (p : Int) : ∀ (ts : List Tie) (s : S), s.row p ≤ (ts.foldl push1 s).row p
  | [], s => Int.le_refl _
  | t :: ts, s => Int.le_trans (push1_mono s t p) (fold_mono p ts (push1 s t))
theorem fold_none : ∀ (ts : List Tie) (s : S), (ts.foldl push1 s).last = none → s.last = none ∧ ts.foldl push1 s = s ∧ ∀ t ∈ ts, Met s.row t
  | [], s, h => ⟨h, rfl, fun t ht => by cases ht⟩
  | t :: ts, s, h => by
    obtain ⟨h1, h2, h3⟩ := fold_none ts (push1 s t) h
    by_cases c : s.row t.1 < s.row t.2.1 + t.2.2
    · rw [push1_pos c] at h1; cases h1
    · rw [push1_neg c] at h1 h2 h3
      refine ⟨h1, ?_, fun u hu => ?_⟩
      · show ts.foldl push1 (push1 s t) = s
        rw [push1_neg c]; exact h2
      · rcases List.mem_cons.mp hu with rfl | hu
        · show s.row u.2.1 + u.2.2 ≤ s.row u.1
          omega
        · exact h3 u hu
theorem fold_least (R : Int → Prop) (x : Int → Int) : ∀ (ts : List Tie) (s : S), (∀ t ∈ ts, R t.1 ∧ R t.2.1 ∧ Met x t) → (∀ p, R p → s.row p ≤ x p) → ∀ p, R p → (ts.foldl push1 s).row p ≤ x p
  | [], s, _, h => h
  | t :: ts, s, ht, h => by
    refine fold_least R x ts (push1 s t) (fun u hu => ht u (List.mem_cons_of_mem _ hu)) fun p hp => ?_
    by_cases c : s.row t.1 < s.row t.2.1 + t.2.2
    · rw [push1_pos c]
      show (if p = t.1 then s.row t.2.1 + t.2.2 else s.row p) ≤ x p
      obtain ⟨r1, r2, m⟩ := ht t List.mem_cons_self
      have m : x t.2.1 + t.2.2 ≤ x t.1 := m
      have := h _ r2
      by_cases e : p = t.1
      · rw [if_pos e, e]; omega
      · rw [if_neg e]; exact h p hp
    · rw [push1_neg c]; exact h p hp
theorem fold_push : ∀ (ts : List Tie) (s : S) (t : Tie), t ∈ ts → s.row t.2.1 + t.2.2 ≤ (ts.foldl push1 s).row t.1
  | u :: ts, s, t, h => by
    rcases List.mem_cons.mp h with rfl | h
    · refine Int.le_trans ?_ (fold_mono t.1 ts (push1 s t))
      by_cases c : s.row t.1 < s.row t.2.1 + t.2.2
      · rw [push1_pos c]
        show _ ≤ if t.1 = t.1 then s.row t.2.1 + t.2.2 else s.row t.1
        rw [if_pos rfl]; omega
      · rw [push1_neg c]; omega
    · have := fold_push ts (push1 s u) t h
      have := push1_mono s u t.2.1
      show _ ≤ (ts.foldl push1 (push1 s u)).row t.1
      omega
/-! ### counting -/
theorem count_le {α : Type} {p q : α → Bool} : ∀ (l : List α), (∀ a ∈ l, p a = true → q a = true) → l.countP p ≤ l.countP q
  | [], _ => Nat.le_refl _
  | a :: l, h => by
    have ih := count_le l fun b hb => h b (List.mem_cons_of_mem _ hb)
    have := h a List.mem_cons_self
    rw [List.countP_cons, List.countP_cons]
    by_cases c : p a = true
    · rw [if_pos c, if_pos (this c)]; omega
    · rw [if_neg c]; omega
theorem count_lt {α : Type} {p q : α → Bool} : ∀ (l : List α), (∀ a ∈ l, p a = true → q a = true) → (∃ a ∈ l, p a = false ∧ q a = true) → l.countP p < l.countP q
  | [], _, ⟨a, h, _⟩ => by cases h
  | a :: l, h, ⟨b, hb, b1, b2⟩ => by
    have h' := fun b hb => h b (List.mem_cons_of_mem a hb)
    have ih := count_le l h'
    have := h a List.mem_cons_self
    rw [List.countP_cons, List.countP_cons]
    rcases List.mem_cons.mp hb with rfl | hb
    · rw [b1, b2, if_neg (by decide), if_pos rfl]; omega
    · have ih := count_lt l h' ⟨b, hb, b1, b2⟩
      by_cases c : p a = true
      · rw [if_pos c, if_pos (this c)]; omega
      · rw [if_neg c]; omega
theorem sum_le (f g : Int → Int) : ∀ (l : List Int), (∀ a ∈ l, f a ≤ g a) → (l.map f).sum ≤ (l.map g).sum
  | [], _ => Int.le_refl _
  | a :: l, h => by
    have ih := sum_le f g l fun b hb => h b (List.mem_cons_of_mem _ hb)
    have := h a List.mem_cons_self
    rw [List.map_cons, List.map_cons, List.sum_cons, List.sum_cons]
    omega
theorem sum_lt (f g : Int → Int) : ∀ (l : List Int), (∀ a ∈ l, f a ≤ g a) → (∃ a ∈ l, f a < g a) → (l.map f).sum < (l.map g).sum
  | [], _, ⟨a, h, _⟩ => by cases h
  | a :: l, h, ⟨b, hb, b1⟩ => by
    have h' := fun b hb => h b (List.mem_cons_of_mem a hb)
    have ih := sum_le f g l h'
    have := h a List.mem_cons_self
    rw [List.map_cons, List.map_cons, List.sum_cons, List.sum_cons]
    rcases List.mem_cons.mp hb with rfl | hb
    · omega
    · have ih := sum_lt f g l h' ⟨b, hb, b1⟩
      omega
theorem sum_nn (f : Int → Int) : ∀ (l : List Int), (∀ a ∈ l, 0 ≤ f a) → 0 ≤ (l.map f).sum
  | [], _ => Int.le_refl _
  | a :: l, h => by
    have ih := sum_nn f l fun b hb => h b (List.mem_cons_of_mem _ hb)
    have := h a List.mem_cons_self
    rw [List.map_cons, List.sum_cons]
    omega
/-! ### when amounts there are, pushing ends -/
/-- amounts over the places ps -/
def Sol (ps : List Int) (es : List Tie) (x : Int → Int) : Prop := (∀ p ∈ ps, 0 ≤ x p) ∧ x (-1) = 0 ∧ ∀ t ∈ es, Met x t
theorem sol_min (ps : List Int) (es : List Tie) : ∀ (n : Nat) (x : Int → Int), Sol ps es x → ((ps.map x).sum).toNat = n → ∃ m, Sol ps es m ∧ ∀ y, Sol ps es y → (ps.map m).sum ≤ (ps.map y).sum := by
  intro n
  induction n using Nat.strongRecOn with
  | _ n ih =>
    intro x hx e
    by_cases c : ∃ y, Sol ps es y ∧ (ps.map y).sum < (ps.map x).sum
    · obtain ⟨y, hy, hl⟩ := c
      have := sum_nn y ps hy.1
      exact ih _ (by omega) y hy rfl
    · refine ⟨x, hx, fun y hy => ?_⟩
      by_cases d : (ps.map x).sum ≤ (ps.map y).sum
      · exact d
      · exact (c ⟨y, hy, by omega⟩).elim
theorem tight {ps : List Int} {es : List Tie} {m r : Int → Int} (hm : Sol ps es m) (mn : ∀ y, Sol ps es y → (ps.map m).sum ≤ (ps.map y).sum) (h0 : ∀ p ∈ ps, 0 ≤ r p) (h1 : ∀ p ∈ ps, r p ≤ m p) (hz : -1 ∈ ps) (hd : ∃ p ∈ ps, r p ≠ m p) :
    ∃ t ∈ es, r t.2.1 = m t.2.1 ∧ r t.1 ≠ m t.1 ∧ m t.1 = m t.2.1 + t.2.2 := by
  apply Classical.byContradiction
  intro hn
  have key : ∀ t ∈ es, r t.2.1 = m t.2.1 → r t.1 ≠ m t.1 → m t.2.1 + t.2.2 + 1 ≤ m t.1 := fun t ht a b => by
    have c := hm.2.2 t ht
    have c : m t.2.1 + t.2.2 ≤ m t.1 := c
    by_cases e : m t.1 = m t.2.1 + t.2.2
    · exact (hn ⟨t, ht, a, b, e⟩).elim
    · omega
  have hs : Sol ps es (fun p => if r p = m p then m p else m p - 1) := by
    refine ⟨fun p hp => ?_, ?_, fun t ht => ?_⟩
    · show 0 ≤ if r p = m p then m p else m p - 1
      have a := h0 p hp
      have b := h1 p hp
      by_cases c : r p = m p
      · rw [if_pos c]; omega
      · rw [if_neg c]; omega
    · show (if r (-1) = m (-1) then m (-1) else m (-1) - 1) = 0
      have a := h0 _ hz
      have b := h1 _ hz
      have c := hm.2.1
      rw [if_pos (by omega)]; exact c
    · show (if r t.2.1 = m t.2.1 then m t.2.1 else m t.2.1 - 1) + t.2.2 ≤ (if r t.1 = m t.1 then m t.1 else m t.1 - 1)
      have c : m t.2.1 + t.2.2 ≤ m t.1 := hm.2.2 t ht
      by_cases a : r t.2.1 = m t.2.1
      · by_cases b : r t.1 = m t.1
        · rw [if_pos a, if_pos b]; exact c
        · have := key t ht a b
          rw [if_pos a, if_neg b]; omega
      · by_cases b : r t.1 = m t.1
        · rw [if_neg a, if_pos b]; omega
        · rw [if_neg a, if_neg b]; omega
  have := mn _ hs
  obtain ⟨p, hp, hne⟩ := hd
  have lt := sum_lt (fun p => if r p = m p then m p else m p - 1) m ps (fun p _ => by
    show (if r p = m p then m p else m p - 1) ≤ m p
    by_cases c : r p = m p
    · rw [if_pos c]; omega
    · rw [if_neg c]; omega) ⟨p, hp, by
      show (if r p = m p then m p else m p - 1) < m p
      rw [if_neg hne]; omega⟩
  omega
/-- how many places are not at their amounts yet -/
def off (ps : List Int) (m : Int → Int) (s : S) : Nat := ps.countP fun p => decide (s.row p ≠ m p)
theorem off_round {ps : List Int} {es : List Tie} {m : Int → Int} {s : S} (hm : Sol ps es m) (mn : ∀ y, Sol ps es y → (ps.map m).sum ≤ (ps.map y).sum) (hp : ∀ t ∈ es, t.1 ∈ ps ∧ t.2.1 ∈ ps) (h0 : ∀ p ∈ ps, 0 ≤ s.row p) (h1 : ∀ p ∈ ps, s.row p ≤ m p) (hz : -1 ∈ ps) :
    (∀ p ∈ ps, 0 ≤ (pushedS s es).row p) ∧ (∀ p ∈ ps, (pushedS s es).row p ≤ m p) ∧ (off ps m (pushedS s es) < off ps m s ∨ off ps m s = 0 ∧ off ps m (pushedS s es) = 0) := by
  have up : ∀ p ∈ ps, (pushedS s es).row p ≤ m p := fold_least (fun p => p ∈ ps) m es { s with last := none } (fun t ht => ⟨(hp t ht).1, (hp t ht).2, hm.2.2 t ht⟩) h1
  have lo : ∀ p, s.row p ≤ (pushedS s es).row p := fun p => fold_mono p es { s with last := none }
  refine ⟨fun p hp => Int.le_trans (h0 p hp) (lo p), up, ?_⟩
  have keep : ∀ p ∈ ps, decide ((pushedS s es).row p ≠ m p) = true → decide (s.row p ≠ m p) = true := fun p hp h => by
    have h := of_decide_eq_true h
    have a := lo p
    have b := up p hp
    exact decide_eq_true (by omega)
  by_cases hd : ∃ p ∈ ps, s.row p ≠ m p
  · left
    obtain ⟨t, ht, a, b, c⟩ := tight hm mn h0 h1 hz hd
    refine count_lt ps keep ⟨t.1, (hp t ht).1, ?_, decide_eq_true b⟩
    have d : s.row t.2.1 + t.2.2 ≤ (pushedS s es).row t.1 := fold_push es { s with last := none } t ht
    have e := up t.1 (hp t ht).1
    exact decide_eq_false (by omega)
  · right
    have z : off ps m s = 0 := List.countP_eq_zero.mpr fun p hp h => hd ⟨p, hp, of_decide_eq_true h⟩
    refine ⟨z, ?_⟩
    have := count_le ps keep
    unfold off at z ⊢
    omega
theorem off_iter {ps : List Int} {es : List Tie} {m : Int → Int} {s : S} (hm : Sol ps es m) (mn : ∀ y, Sol ps es y → (ps.map m).sum ≤ (ps.map y).sum) (hp : ∀ t ∈ es, t.1 ∈ ps ∧ t.2.1 ∈ ps) (h0 : ∀ p ∈ ps, 0 ≤ s.row p) (h1 : ∀ p ∈ ps, s.row p ≤ m p) (hz : -1 ∈ ps) :
    ∀ k, (∀ p ∈ ps, 0 ≤ (iter es s k).row p) ∧ (∀ p ∈ ps, (iter es s k).row p ≤ m p) ∧ off ps m (iter es s k) ≤ off ps m s - k
  | 0 => ⟨h0, h1, Nat.le_refl _⟩
  | k + 1 => by
    obtain ⟨a, b, c⟩ := off_iter hm mn hp h0 h1 hz k
    obtain ⟨d, e, f⟩ := off_round hm mn hp a b hz
    refine ⟨d, e, ?_⟩
    show off ps m (pushedS (iter es s k) es) ≤ _
    omega
theorem fold_still : ∀ (ts : List Tie) (s : S), (∀ t ∈ ts, Met s.row t) → ts.foldl push1 s = s
  | [], s, _ => rfl
  | t :: ts, s, h => by
    have a : s.row t.2.1 + t.2.2 ≤ s.row t.1 := h t List.mem_cons_self
    show ts.foldl push1 (push1 s t) = s
    rw [push1_neg (by omega)]
    exact fold_still ts s fun u hu => h u (List.mem_cons_of_mem _ hu)
/-- when there are amounts, nothing is pushed any more after as many rounds as places -/
theorem ends {ps : List Int} {es : List Tie} {x : Int → Int} {s : S} (hx : Sol ps es x) (hp : ∀ t ∈ es, t.1 ∈ ps ∧ t.2.1 ∈ ps) (h0 : ∀ p, s.row p = 0) (hz : -1 ∈ ps) {k : Nat} (hk : ps.length ≤ k) : (iter es s (k + 1)).last = none := by
  obtain ⟨m, hm, mn⟩ := sol_min ps es _ x hx rfl
  obtain ⟨a, b, c⟩ := off_iter (s := s) hm mn hp (fun p _ => by rw [h0]; exact Int.le_refl _) (fun p q => by rw [h0]; exact hm.1 p q) hz k
  have d : off ps m s ≤ ps.length := List.countP_le_length
  have e : off ps m (iter es s k) = 0 := by omega
  have f : ∀ p ∈ ps, (iter es s k).row p = m p := fun p hp => by
    have := List.countP_eq_zero.mp e p hp
    exact Classical.byContradiction fun h => this (decide_eq_true h)
  show (pushedS (iter es s k) es).last = none
  unfold pushedS
  rw [fold_still es { iter es s k with last := none } fun t ht => by
    show (iter es s k).row t.2.1 + t.2.2 ≤ (iter es s k).row t.1
    rw [f _ (hp t ht).1, f _ (hp t ht).2]
    exact hm.2.2 t ht]
/-- when nothing is pushed any more, the row is the least amounts -/
theorem least {ps : List Int} {es : List Tie} {s : S} (hp : ∀ t ∈ es, t.1 ∈ ps ∧ t.2.1 ∈ ps) (h0 : ∀ p, s.row p = 0) (hz : -1 ∈ ps) {k : Nat} (hl : (iter es s (k + 1)).last = none) (hb : ∀ p ∈ ps, p ≠ -1 → (p, -1, 0) ∈ es) :
    Sol ps es (fun p => (iter es s (k + 1)).row p - (iter es s (k + 1)).row (-1)) ∧ (∀ x, Sol ps es x → ∀ p ∈ ps, (iter es s (k + 1)).row p ≤ x p) ∧ (iter es s (k + 1)).row (-1) = 0 := by
  obtain ⟨_, e, mt⟩ := fold_none es { iter es s k with last := none } hl
  have e : iter es s (k + 1) = { iter es s k with last := none } := e
  have rw0 : (iter es s (k + 1)).row = (iter es s k).row := by rw [e]
  have mt : ∀ t ∈ es, Met (iter es s (k + 1)).row t := fun t ht => by rw [rw0]; exact mt t ht
  have lo : ∀ j, ∀ p, 0 ≤ (iter es s j).row p := by
    intro j
    induction j with
    | zero => intro p; show 0 ≤ s.row p; rw [h0]; exact Int.le_refl _
    | succ j ih => exact fun p => Int.le_trans (ih p) (fold_mono p es { iter es s j with last := none })
  have up : ∀ x, Sol ps es x → ∀ j, ∀ p ∈ ps, (iter es s j).row p ≤ x p := by
    intro x hx j
    induction j with
    | zero => intro p hp; show s.row p ≤ x p; rw [h0]; exact hx.1 p hp
    | succ j ih => exact fold_least (fun p => p ∈ ps) x es { iter es s j with last := none } (fun t ht => ⟨(hp t ht).1, (hp t ht).2, hx.2.2 t ht⟩) ih
  have hs : Sol ps es (fun p => (iter es s (k + 1)).row p - (iter es s (k + 1)).row (-1)) := by
    refine ⟨fun p hp => ?_, ?_, fun t ht => ?_⟩
    · show 0 ≤ (iter es s (k + 1)).row p - (iter es s (k + 1)).row (-1)
      by_cases c : p = -1
      · rw [c]; omega
      · have := mt _ (hb p hp c)
        have : (iter es s (k + 1)).row (-1) + 0 ≤ (iter es s (k + 1)).row p := this
        omega
    · show (iter es s (k + 1)).row (-1) - (iter es s (k + 1)).row (-1) = 0
      omega
    · show (iter es s (k + 1)).row t.2.1 - (iter es s (k + 1)).row (-1) + t.2.2 ≤ (iter es s (k + 1)).row t.1 - (iter es s (k + 1)).row (-1)
      have : (iter es s (k + 1)).row t.2.1 + t.2.2 ≤ (iter es s (k + 1)).row t.1 := mt t ht
      omega
  refine ⟨hs, fun x hx => up x hx (k + 1), ?_⟩
  have a := up _ hs (k + 1) (-1) hz
  have b := lo (k + 1) (-1)
  have a : (iter es s (k + 1)).row (-1) ≤ (iter es s (k + 1)).row (-1) - (iter es s (k + 1)).row (-1) := a
  omega
end Lm
-- own part: lm2
namespace Lm
/-! ### the ring -/
theorem pigeon : ∀ (m : Nat) (f : Nat → Int) (a : Int), (∀ i, i ≤ m → a ≤ f i ∧ f i < a + m) → ∃ i j, i < j ∧ j ≤ m ∧ f i = f j
  | 0, f, a, h => by
    have := h 0 (Nat.le_refl _)
    omega
  | m + 1, f, a, h => by
    by_cases c : ∃ i, i ≤ m ∧ f i = f (m + 1)
    · obtain ⟨i, hi, e⟩ := c
      exact ⟨i, m + 1, by omega, Nat.le_refl _, e⟩
    · have c : ∀ i, i ≤ m → f i ≠ f (m + 1) := fun i hi e => c ⟨i, hi, e⟩
      have hl := h (m + 1) (Nat.le_refl _)
      obtain ⟨i, j, h1, h2, e⟩ := pigeon m (fun i => if f i = a + m then f (m + 1) else f i) a (fun i hi => by
        have := h i (by omega)
        have := c i hi
        show a ≤ (if f i = a + m then f (m + 1) else f i) ∧ (if f i = a + m then f (m + 1) else f i) < a + m
        by_cases d : f i = a + m
        · rw [if_pos d]; omega
        · rw [if_neg d]; omega)
      have e : (if f i = a + m then f (m + 1) else f i) = (if f j = a + m then f (m + 1) else f j) := e
      refine ⟨i, j, h1, by omega, ?_⟩
      have c1 := c i (by omega)
      have c2 := c j h2
      by_cases d1 : f i = a + m
      · by_cases d2 : f j = a + m
        · rw [d1, d2]
        · rw [if_pos d1, if_neg d2] at e
          exact (c2 e.symm).elim
      · by_cases d2 : f j = a + m
        · rw [if_neg d1, if_pos d2] at e
          exact (c1 e).elim
        · rw [if_neg d1, if_neg d2] at e
          exact e
/-- the tie that pushed a place, when there is one -/
def wy (w : Int → Option Tie) (v : Int) : Tie := (w v).getD (0, 0, 0)
def nx (w : Int → Option Tie) (v : Int) : Int := (wy w v).2.1
def go (w : Int → Option Tie) : Nat → Int → Int
  | 0, v => v
  | k + 1, v => nx w (go w k v)
theorem go_add (w : Int → Option Tie) (a v) : ∀ b, go w (a + b) v = go w b (go w a v)
  | 0 => rfl
  | b + 1 => by
    show nx w (go w (a + b) v) = nx w (go w b (go w a v))
    rw [go_add w a v b]
/-- what holds of a row and the ties that pushed it -/
def InvT (es : List Tie) (s : S) (T : Int → Nat) (c : Nat) : Prop :=
  (∀ p, T p ≤ c) ∧ ∀ v t, s.way v = some t → t.1 = v ∧ t ∈ es ∧ s.row v ≤ s.row t.2.1 + t.2.2 ∧ (T v ≤ T t.2.1 → s.row v < s.row t.2.1 + t.2.2)
theorem invT_push {es : List Tie} {s : S} {T : Int → Nat} {c : Nat} {t : Tie} (h : InvT es s T c) (ht : t ∈ es) (hn : t.1 ≠ t.2.1) : ∃ T' c', InvT es (push1 s t) T' c' := by
  by_cases q : s.row t.1 < s.row t.2.1 + t.2.2
  · rw [push1_pos q]
    refine ⟨fun p => if p = t.1 then c + 1 else T p, c + 1, fun p => ?_, fun v u hv => ?_⟩
    · show (if p = t.1 then c + 1 else T p) ≤ c + 1
      have := h.1 p
      by_cases e : p = t.1
      · rw [if_pos e]; omega
      · rw [if_neg e]; omega
    · have hv : (if v = t.1 then some t else s.way v) = some u := hv
      show u.1 = v ∧ u ∈ es ∧ (if v = t.1 then s.row t.2.1 + t.2.2 else s.row v) ≤ (if u.2.1 = t.1 then s.row t.2.1 + t.2.2 else s.row u.2.1) + u.2.2 ∧
        ((if v = t.1 then c + 1 else T v) ≤ (if u.2.1 = t.1 then c + 1 else T u.2.1) → (if v = t.1 then s.row t.2.1 + t.2.2 else s.row v) < (if u.2.1 = t.1 then s.row t.2.1 + t.2.2 else s.row u.2.1) + u.2.2)
      by_cases e : v = t.1
      · rw [if_pos e] at hv
        cases hv
        rw [if_pos e, if_neg hn.symm, if_pos e, if_neg hn.symm]
        refine ⟨e.symm, ht, by omega, fun z => ?_⟩
        have := h.1 t.2.1
        omega
      · rw [if_neg e] at hv
        obtain ⟨a, b, d, f⟩ := h.2 v u hv
        rw [if_neg e, if_neg e]
        by_cases g : u.2.1 = t.1
        · rw [if_pos g, if_pos g]
          rw [g] at d
          exact ⟨a, b, by omega, fun _ => by omega⟩
        · rw [if_neg g, if_neg g]
          exact ⟨a, b, d, f⟩
  · rw [push1_neg q]
    exact ⟨T, c, h⟩
theorem invT_fold {es : List Tie} : ∀ (ts : List Tie) (s : S), (∀ t ∈ ts, t ∈ es ∧ t.1 ≠ t.2.1) → (∃ T c, InvT es s T c) → ∃ T c, InvT es (ts.foldl push1 s) T c
  | [], _, _, h => h
  | t :: ts, s, ht, ⟨T, c, h⟩ => invT_fold ts (push1 s t) (fun u hu => ht u (List.mem_cons_of_mem _ hu)) (invT_push h (ht t List.mem_cons_self).1 (ht t List.mem_cons_self).2)
theorem invT_iter {es : List Tie} {s : S} (hn : ∀ t ∈ es, t.1 ≠ t.2.1) (h0 : ∀ p, s.way p = none) : ∀ k, ∃ T c, InvT es (iter es s k) T c
  | 0 => ⟨fun _ => 0, 0, fun _ => Nat.le_refl _, fun v t h => by
    have h : s.way v = some t := h
    rw [h0] at h; cases h⟩
  | k + 1 => by
    obtain ⟨T, c, h⟩ := invT_iter hn h0 k
    exact invT_fold es { iter es s k with last := none } (fun t ht => ⟨ht, hn t ht⟩) ⟨T, c, h⟩
/-- the rounds in which places were pushed last -/
structure InvR (r : Nat) (pre suf : List Tie) (s : S) (R : Int → Nat) : Prop where
  way : ∀ v t, s.way v = some t → R v ≤ R t.2.1 + 1
  has : ∀ v, s.way v = none → R v = 0
  top : ∀ v, R v ≤ r
  pre : ∀ t ∈ pre, Met s.row t ∨ r ≤ R t.2.1
  suf : ∀ t ∈ suf, Met s.row t ∨ r ≤ R t.2.1 + 1
  last : ∀ v, s.last = some v → R v = r
theorem met_push {s : S} {t u : Tie} (h : Met s.row u) (n : u.2.1 ≠ t.1) : Met (push1 s t).row u := by
  have a := push1_mono s t u.1
  have h : s.row u.2.1 + u.2.2 ≤ s.row u.1 := h
  show (push1 s t).row u.2.1 + u.2.2 ≤ (push1 s t).row u.1
  have b : (push1 s t).row u.2.1 = s.row u.2.1 := by
    by_cases q : s.row t.1 < s.row t.2.1 + t.2.2
    · rw [push1_pos q]
      exact if_neg n
    · rw [push1_neg q]
  omega
theorem met_self {s : S} {t : Tie} (n : t.1 ≠ t.2.1) : Met (push1 s t).row t := by
  by_cases q : s.row t.1 < s.row t.2.1 + t.2.2
  · rw [push1_pos q]
    show (if t.2.1 = t.1 then s.row t.2.1 + t.2.2 else s.row t.2.1) + t.2.2 ≤ (if t.1 = t.1 then s.row t.2.1 + t.2.2 else s.row t.1)
    rw [if_neg n.symm, if_pos rfl]
    exact Int.le_refl _
  · rw [push1_neg q]
    show s.row t.2.1 + t.2.2 ≤ s.row t.1
    omega
theorem invR_push {r : Nat} {pre suf : List Tie} {s : S} {R : Int → Nat} {t : Tie} (h : InvR r pre (t :: suf) s R) (hn : t.1 ≠ t.2.1) : ∃ R', InvR r (pre ++ [t]) suf (push1 s t) R' := by
  by_cases q : s.row t.1 < s.row t.2.1 + t.2.2
  · have ht : r ≤ R t.2.1 + 1 := by
      rcases h.suf t List.mem_cons_self with a | a
      · have a : s.row t.2.1 + t.2.2 ≤ s.row t.1 := a
        omega
      · exact a
    have up : ∀ p, R p ≤ (if p = t.1 then r else R p) := fun p => by
      by_cases e : p = t.1
      · rw [if_pos e]; exact h.top p
      · rw [if_neg e]; exact Nat.le_refl _
    refine ⟨fun p => if p = t.1 then r else R p, ⟨fun v u hv => ?_, fun v hv => ?_, fun v => ?_, fun u hu => ?_, fun u hu => ?_, fun v hv => ?_⟩⟩
    · rw [push1_pos q] at hv
      have hv : (if v = t.1 then some t else s.way v) = some u := hv
      show (if v = t.1 then r else R v) ≤ (if u.2.1 = t.1 then r else R u.2.1) + 1
      have := up u.2.1
      by_cases e : v = t.1
      · rw [if_pos e] at hv
        cases hv
        rw [if_pos e]
        omega
      · rw [if_neg e] at hv
        have := h.way v u hv
        rw [if_neg e]
        omega
    · rw [push1_pos q] at hv
      have hv : (if v = t.1 then some t else s.way v) = none := hv
      show (if v = t.1 then r else R v) = 0
      by_cases e : v = t.1
      · rw [if_pos e] at hv
        cases hv
      · rw [if_neg e] at hv
        rw [if_neg e]
        exact h.has v hv
    · show (if v = t.1 then r else R v) ≤ r
      have := h.top v
      by_cases e : v = t.1
      · rw [if_pos e]; omega
      · rw [if_neg e]; omega
    · show Met _ u ∨ r ≤ (if u.2.1 = t.1 then r else R u.2.1)
      by_cases e : u.2.1 = t.1
      · right; rw [if_pos e]; exact Nat.le_refl _
      · rw [if_neg e]
        rcases List.mem_append.mp hu with hu | hu
        · rcases h.pre u hu with a | a
          · exact .inl (met_push a e)
          · exact .inr a
        · rw [List.mem_singleton] at hu
          subst hu
          exact .inl (met_self hn)
    · show Met _ u ∨ r ≤ (if u.2.1 = t.1 then r else R u.2.1) + 1
      by_cases e : u.2.1 = t.1
      · right; rw [if_pos e]; omega
      · rw [if_neg e]
        rcases h.suf u (List.mem_cons_of_mem _ hu) with a | a
        · exact .inl (met_push a e)
        · exact .inr a
    · rw [push1_pos q] at hv
      have hv : some t.1 = some v := hv
      cases hv
      show (if t.1 = t.1 then r else R t.1) = r
      rw [if_pos rfl]
  · have hm : Met (push1 s t).row t := met_self hn
    rw [push1_neg q] at hm ⊢
    exact ⟨R, ⟨h.way, h.has, h.top, fun u hu => by
      rcases List.mem_append.mp hu with hu | hu
      · exact h.pre u hu
      · rw [List.mem_singleton] at hu
        subst hu
        exact .inl hm, fun u hu => h.suf u (List.mem_cons_of_mem _ hu), h.last⟩⟩
theorem invR_fold {r : Nat} : ∀ (suf pre : List Tie) (s : S), (∀ t ∈ suf, t.1 ≠ t.2.1) → (∃ R, InvR r pre suf s R) → ∃ R, InvR r (pre ++ suf) [] (suf.foldl push1 s) R
  | [], pre, s, _, h => by rw [List.append_nil]; exact h
  | t :: suf, pre, s, hn, ⟨R, h⟩ => by
    have := invR_fold suf (pre ++ [t]) (push1 s t) (fun u hu => hn u (List.mem_cons_of_mem _ hu)) (invR_push h (hn t List.mem_cons_self))
    rw [List.append_assoc] at this
    exact this
theorem invR_iter {es : List Tie} {s : S} (hn : ∀ t ∈ es, t.1 ≠ t.2.1) (h0 : ∀ p, s.way p = none) : ∀ k, ∃ R, InvR (k + 1) es [] (iter es s (k + 1)) R
  | 0 => by
    have := invR_fold (r := 1) es [] { s with last := none } hn ⟨fun _ => 0, fun v t h => by show 0 ≤ _; omega, fun _ _ => rfl, fun _ => by show 0 ≤ 1; decide, fun u hu => (by cases hu), fun u _ => .inr (by show 1 ≤ 0 + 1; decide), fun v h => by cases h⟩
    rw [List.nil_append] at this
    exact this
  | k + 1 => by
    obtain ⟨R, h⟩ := invR_iter hn h0 k
    have := invR_fold (r := k + 2) es [] { iter es s (k + 1) with last := none } hn ⟨R, fun v t hv => h.way v t hv, fun v hv => h.has v hv, fun v => Nat.le_succ_of_le (h.top v), fun u hu => (by cases hu), fun u hu => by
      rcases h.pre u hu with a | a
      · exact .inl a
      · exact .inr (by omega), fun v h => by cases h⟩
    rw [List.nil_append] at this
    exact this
/-- ties in a ring that come to more than nothing -/
structure Ring (es : List Tie) (rs : List Tie) : Prop where
  ne : rs ≠ []
  mem : ∀ r ∈ rs, r ∈ es
  link : ∀ (i : Nat) (t u : Tie), rs[i]? = some t → rs[i + 1]? = some u → t.2.1 = u.1
  clos : ∀ (t u : Tie), rs[0]? = some t → rs[rs.length - 1]? = some u → u.2.1 = t.1
  nodup : ∀ (i j : Nat) (t u : Tie), rs[i]? = some t → rs[j]? = some u → t.1 = u.1 → i = j
  sum : 0 < (rs.map (·.2.2)).sum
/-- what the ways show when pushing has not ended -/
structure Runs (es : List Tie) (w : Int → Option Tie) (n : Nat) (v b : Int) (q : Nat) : Prop where
  steps : ∀ k, k < n → ∃ t, w (go w k v) = some t ∧ t.2.1 = go w (k + 1) v
  begin : b = go w n v
  pos : 1 ≤ q
  le : q < n
  back : go w q b = b
  first : ∀ k, 0 < k → k < q → go w k b ≠ b
  all : ∀ k, ∃ t, w (go w k b) = some t ∧ t.1 = go w k b ∧ t.2.1 = go w (k + 1) b
  ring : Ring es ((List.range q).map fun k => wy w (go w k b))
theorem sum_range (f : Nat → Int) (n : Nat) : ((List.range (n + 1)).map f).sum = ((List.range n).map f).sum + f n := by
  rw [List.range_succ, List.map_append, List.sum_append]
  simp
theorem runs {lanes : Nat} {es : List Tie} {s : S} (hn : ∀ t ∈ es, t.1 ≠ t.2.1) (hp : ∀ t ∈ es, (-1 ≤ t.1 ∧ t.1 < lanes) ∧ -1 ≤ t.2.1 ∧ t.2.1 < lanes) (h0 : ∀ p, s.way p = none) {v : Int} (hl : (iter es s (lanes + 2)).last = some v) :
    ∃ q, Runs es (iter es s (lanes + 2)).way (lanes + 2) v (go (iter es s (lanes + 2)).way (lanes + 2) v) q := by
  obtain ⟨R, hR⟩ := invR_iter hn h0 (lanes + 1)
  obtain ⟨T, c, hT⟩ := invT_iter hn h0 (lanes + 2)
  generalize hs : iter es s (lanes + 2) = f at hl hT ⊢
  have hR : InvR (lanes + 2) es [] f R := by rw [← hs]; exact hR
  have wyS : ∀ u t, f.way u = some t → wy f.way u = t ∧ nx f.way u = t.2.1 := fun u t h => by
    have : wy f.way u = t := by unfold wy; rw [h]; rfl
    exact ⟨this, by unfold nx; rw [this]⟩
  have rnd : ∀ k, k ≤ lanes + 2 → lanes + 2 - k ≤ R (go f.way k v) := by
    intro k
    induction k with
    | zero => intro _; show _ ≤ R v; rw [hR.last v hl]; exact Nat.sub_le _ _
    | succ k ih =>
      intro hk
      have a := ih (by omega)
      cases hw : f.way (go f.way k v) with
      | none =>
        have := hR.has _ hw
        omega
      | some t =>
        have b := hR.way _ _ hw
        have e : go f.way (k + 1) v = t.2.1 := (wyS _ _ hw).2
        rw [e]
        omega
  have some1 : ∀ k, k < lanes + 2 → ∃ t, f.way (go f.way k v) = some t ∧ t.1 = go f.way k v ∧ t.2.1 = go f.way (k + 1) v := fun k hk => by
    cases hw : f.way (go f.way k v) with
    | none =>
      have := hR.has _ hw
      have := rnd k (by omega)
      omega
    | some t => exact ⟨t, rfl, (hT.2 _ _ hw).1, ((wyS _ _ hw).2).symm⟩
  obtain ⟨i, j, hij, hj, e⟩ := pigeon (lanes + 1) (fun k => go f.way k v) (-1) (fun k hk => by
    obtain ⟨t, h1, h2, _⟩ := some1 k (by omega)
    have a := hp t (hT.2 _ _ h1).2.1
    rw [h2] at a
    show -1 ≤ go f.way k v ∧ go f.way k v < -1 + ((lanes + 1 : Nat) : Int)
    omega)
  have e : go f.way i v = go f.way j v := e
  -- from i on, the way turns with period j - i
  have per : ∀ k, go f.way (i + k + (j - i)) v = go f.way (i + k) v := fun k => by
    have : i + k + (j - i) = j + k := by omega
    rw [this, go_add, go_add, e]
  have all1 : ∀ k, ∃ t, f.way (go f.way (i + k) v) = some t ∧ t.1 = go f.way (i + k) v ∧ t.2.1 = go f.way (i + k + 1) v := by
    intro k
    induction k using Nat.strongRecOn with
    | _ k ih =>
      by_cases hk : i + k < lanes + 2
      · exact some1 _ hk
      · have := ih (k - (j - i)) (by omega)
        have e1 : go f.way (i + k) v = go f.way (i + (k - (j - i))) v := by
          have := per (k - (j - i))
          have e2 : i + (k - (j - i)) + (j - i) = i + k := by omega
          rw [e2] at this
          exact this
        have e3 : go f.way (i + k + 1) v = go f.way (i + (k - (j - i)) + 1) v := congrArg (nx f.way) e1
        rw [e1, e3]
        exact this
  generalize hb : go f.way (lanes + 2) v = b
  have gb : ∀ k, go f.way k b = go f.way (i + (lanes + 2 - i + k)) v := fun k => by
    have : i + (lanes + 2 - i + k) = lanes + 2 + k := by omega
    rw [this, go_add, hb]
  have all : ∀ k, ∃ t, f.way (go f.way k b) = some t ∧ t.1 = go f.way k b ∧ t.2.1 = go f.way (k + 1) b := fun k => by
    have := all1 (lanes + 2 - i + k)
    rw [gb k, gb (k + 1)]
    exact this
  have hper : go f.way (j - i) b = b := by
    rw [gb]
    have := per (lanes + 2 - i)
    have e1 : i + (lanes + 2 - i) + (j - i) = i + (lanes + 2 - i + (j - i)) := by omega
    rw [e1] at this
    rw [this]
    have e2 : i + (lanes + 2 - i) = lanes + 2 := by omega
    rw [e2, hb]
  -- the first return
  have least : ∀ n, 1 ≤ n → go f.way n b = b → ∃ q, 1 ≤ q ∧ q ≤ n ∧ go f.way q b = b ∧ ∀ k, 0 < k → k < q → go f.way k b ≠ b := by
    intro n
    induction n using Nat.strongRecOn with
    | _ n ih =>
      intro h1 h2
      by_cases d : ∃ k, 0 < k ∧ k < n ∧ go f.way k b = b
      · obtain ⟨k, a, b', c'⟩ := d
        obtain ⟨q, q1, q2, q3⟩ := ih k b' a c'
        exact ⟨q, q1, by omega, q3⟩
      · exact ⟨n, h1, Nat.le_refl _, h2, fun k a b' c' => d ⟨k, a, b', c'⟩⟩
  obtain ⟨q, q1, q2, q3, q4⟩ := least (j - i) (by omega) hper
  have edge : ∀ k, wy f.way (go f.way k b) ∈ es ∧ (wy f.way (go f.way k b)).1 = go f.way k b ∧ (wy f.way (go f.way k b)).2.1 = go f.way (k + 1) b ∧ f.row (go f.way k b) ≤ f.row (go f.way (k + 1) b) + (wy f.way (go f.way k b)).2.2 ∧
      (T (go f.way k b) ≤ T (go f.way (k + 1) b) → f.row (go f.way k b) < f.row (go f.way (k + 1) b) + (wy f.way (go f.way k b)).2.2) := fun k => by
    obtain ⟨t, h1, h2, h3⟩ := all k
    obtain ⟨a, b', c', d⟩ := hT.2 _ _ h1
    rw [(wyS _ _ h1).1]
    rw [h3] at c' d
    exact ⟨b', h2, h3, c', d⟩
  have tele : ∀ n, f.row b ≤ f.row (go f.way n b) + ((List.range n).map fun k => (wy f.way (go f.way k b)).2.2).sum ∧
      (T (go f.way n b) + n ≤ T b ∨ f.row b < f.row (go f.way n b) + ((List.range n).map fun k => (wy f.way (go f.way k b)).2.2).sum) := by
    intro n
    induction n with
    | zero => exact ⟨by show f.row b ≤ f.row b + 0; omega, .inl (Nat.le_refl _)⟩
    | succ n ih =>
      obtain ⟨a, b'⟩ := ih
      obtain ⟨_, _, _, c', d⟩ := edge n
      rw [sum_range]
      refine ⟨by omega, ?_⟩
      by_cases z : T (go f.way n b) ≤ T (go f.way (n + 1) b)
      · have := d z
        right
        omega
      · rcases b' with b' | b'
        · left; omega
        · right; omega
  have inj : ∀ x y, x < y → y < q → go f.way x b ≠ go f.way y b := fun x y hx hy e => by
    have e1 : go f.way (x + (q - y)) b = go f.way (y + (q - y)) b := by rw [go_add, go_add, e]
    rw [show y + (q - y) = q by omega, q3] at e1
    exact q4 _ (by omega) (by omega) e1
  have get : ∀ x t, ((List.range q).map fun k => wy f.way (go f.way k b))[x]? = some t → x < q ∧ t = wy f.way (go f.way x b) := fun x t h => by
    rw [List.getElem?_map] at h
    obtain ⟨z, hz, rfl⟩ := Option.map_eq_some_iff.mp h
    obtain ⟨hz1, hz2⟩ := List.getElem?_eq_some_iff.mp hz
    rw [List.length_range] at hz1
    rw [List.getElem_range] at hz2
    subst hz2
    exact ⟨hz1, rfl⟩
  refine ⟨q, ⟨fun k hk => ?_, hb.symm ▸ rfl, q1, by omega, q3, q4, all, ⟨?_, ?_, ?_, ?_, ?_, ?_⟩⟩⟩
  · obtain ⟨t, h1, _, h3⟩ := some1 k hk
    exact ⟨t, h1, h3⟩
  · intro h
    have := congrArg List.length h
    rw [List.length_map, List.length_range] at this
    have : q = 0 := this
    omega
  · intro r hr
    obtain ⟨k, _, rfl⟩ := List.mem_map.mp hr
    exact (edge k).1
  · intro x t u h1 h2
    obtain ⟨a, rfl⟩ := get _ _ h1
    obtain ⟨b', rfl⟩ := get _ _ h2
    rw [(edge x).2.2.1, (edge (x + 1)).2.1]
  · intro t u h1 h2
    rw [List.length_map, List.length_range] at h2
    obtain ⟨a, rfl⟩ := get _ _ h1
    obtain ⟨b', rfl⟩ := get _ _ h2
    rw [(edge (q - 1)).2.2.1, (edge 0).2.1, show q - 1 + 1 = q by omega, q3]
    rfl
  · intro x y t u h1 h2 e
    obtain ⟨a, rfl⟩ := get _ _ h1
    obtain ⟨b', rfl⟩ := get _ _ h2
    rw [(edge x).2.1, (edge y).2.1] at e
    rcases Nat.lt_trichotomy x y with h | h | h
    · exact (inj x y h b' e).elim
    · exact h
    · exact (inj y x h a e.symm).elim
  · rw [List.map_map]
    have := (tele q).2
    rw [q3] at this
    have e1 : ((List.range q).map ((fun (x : Tie) => x.2.2) ∘ fun k => wy f.way (go f.way k b))).sum = ((List.range q).map fun k => (wy f.way (go f.way k b)).2.2).sum := rfl
    rw [e1]
    rcases this with h | h
    · omega
    · omega
/-- no amounts meet the ties of a ring -/
theorem Ring.bars {es rs : List Tie} (h : Ring es rs) (x : Int → Int) (hx : ∀ r ∈ rs, Met x r) : False := by
  have key : ∀ (n : Nat) (t u : Tie), n < rs.length → rs[0]? = some t → rs[n]? = some u → x u.2.1 + ((rs.take (n + 1)).map (·.2.2)).sum ≤ x t.1 := by
    intro n
    induction n with
    | zero =>
      intro t u _ h1 h2
      rw [h1] at h2
      cases h2
      have := hx t (List.mem_of_getElem? h1)
      have : x t.2.1 + t.2.2 ≤ x t.1 := this
      rw [List.take_add_one, h1]
      simp
      exact this
    | succ n ih =>
      intro t u hl h1 h2
      have hn : rs[n]? = some rs[n] := List.getElem?_eq_getElem (by omega)
      have a := ih t rs[n] (by omega) h1 hn
      have b := h.link n _ _ hn h2
      have c := hx u (List.mem_of_getElem? h2)
      have c : x u.2.1 + u.2.2 ≤ x u.1 := c
      rw [b] at a
      rw [List.take_add_one, h2, List.map_append, List.sum_append]
      have e1 : ((some u).toList.map fun (z : Tie) => z.2.2).sum = u.2.2 := by simp
      rw [e1]
      omega
  have hl : 0 < rs.length := List.length_pos_iff.mpr h.ne
  have a := key (rs.length - 1) rs[0] rs[rs.length - 1] (by omega) (List.getElem?_eq_getElem hl) (List.getElem?_eq_getElem (by omega))
  have b := h.clos _ _ (List.getElem?_eq_getElem hl) (List.getElem?_eq_getElem (by omega))
  rw [List.take_of_length_le (by omega)] at a
  have c := h.sum
  rw [b] at a
  omega
end Lm
-- own part: lw6
namespace Ls
open PySem PySem.Spec PyProof.Rows L2
/-! ### ties -/
abbrev Tie := Lm.Tie
def tieD (t : Tie) : PyData := .tuple [.int t.1, .int t.2.1, .int t.2.2]
def GoodT (lanes wide : Int) (t : Tie) : Prop := 0 ≤ t.1 ∧ t.1 < lanes ∧ 0 ≤ t.2.1 ∧ t.2.1 < lanes ∧ t.1 ≠ t.2.1 ∧ -wide ≤ t.2.2 ∧ t.2.2 ≤ wide
/-- a list of ties -/
def TieL (K : PySem.W.Frag) (H : Hp) (vs : List V) (ts : List Tie) : Prop := ImAll K H vs (ts.map tieD)
theorem TieL.mono {K : PySem.W.Frag} {H H' : Hp} {vs : List V} {ts : List Tie} (t : Tp K H H') (h : TieL K H vs ts) : TieL K H' vs ts := ImAll.mono t h
theorem TieL.len {K : PySem.W.Frag} {H : Hp} {vs : List V} {ts : List Tie} (h : TieL K H vs ts) : vs.length = ts.length := by
  have := ImAll.length h
  rwa [List.length_map] at this
theorem TieL.snoc {K : PySem.W.Frag} {H : Hp} {vs : List V} {ts : List Tie} {p : Addr} {a b c : Int} (h : TieL K H vs ts) (hp : SqT K H p [.int a, .int b, .int c]) : TieL K H (vs ++ [.ref p]) (ts ++ [(a, b, c)]) := by
  unfold TieL
  rw [List.map_append]
  exact ImAll.snoc h (.tup hp (.cons (.int a) (.cons (.int b) (.cons (.int c) .nil))))
theorem TieL.app {K : PySem.W.Frag} {H : Hp} {vs us : List V} {ts ss : List Tie} (h : TieL K H vs ts) (h2 : TieL K H us ss) : TieL K H (vs ++ us) (ts ++ ss) := by
  unfold TieL
  rw [List.map_append]
  exact ImAll.app h h2
theorem tie_of {K : PySem.W.Frag} {H : Hp} {v : V} {t : Tie} (h : Im K H v (tieD t)) : ∃ a, v = .ref a ∧ SqT K H a [.int t.1, .int t.2.1, .int t.2.2] := by
  obtain ⟨a, xs, rfl, h1, h2⟩ := im_tup h
  refine ⟨a, rfl, ?_⟩
  cases h2 with
  | cons a1 r1 =>
    cases r1 with
    | cons a2 r2 =>
      cases r2 with
      | cons a3 r3 =>
        cases r3
        cases im_int a1
        cases im_int a2
        cases im_int a3
        exact h1
theorem TieL.get {K : PySem.W.Frag} {H : Hp} {vs : List V} {ts : List Tie} {i : Nat} {v : V} (h : TieL K H vs ts) (e : vs[i]? = some v) : ∃ t a, ts[i]? = some t ∧ v = .ref a ∧ SqT K H a [.int t.1, .int t.2.1, .int t.2.2] := by
  obtain ⟨d, h1, h2⟩ := ImAll.get h e
  rw [List.getElem?_map] at h1
  obtain ⟨t, ht, rfl⟩ := Option.map_eq_some_iff.mp h1
  obtain ⟨a, rfl, h3⟩ := tie_of h2
  exact ⟨t, a, ht, rfl, h3⟩
theorem TieL.take {K : PySem.W.Frag} {H : Hp} {vs : List V} {ts : List Tie} (n : Nat) (h : TieL K H vs ts) : TieL K H (vs.take n) (ts.take n) := by
  unfold TieL
  rw [List.map_take]
  exact ImAll.take n h
theorem TieL.drop {K : PySem.W.Frag} {H : Hp} {vs : List V} {ts : List Tie} (n : Nat) (h : TieL K H vs ts) : TieL K H (vs.drop n) (ts.drop n) := by
  unfold TieL
  rw [List.map_drop]
  exact ImAll.drop n h
def spTies (K : PySem.W.Frag) : Sp := fun vs H Q _ => ∃ (d c : Addr) (lanes wide : Int), vs = [.ref d, .int lanes, .int wide] ∧ Draw K H d c ∧ 1 ≤ lanes ∧ lanes < 1000 ∧ 0 ≤ wide ∧ wide < 10000000 ∧
  ∀ p us ts H', H p = none → Keep d H H' → Draw K H' d c → H' p = some (.lst us) → TieL K H' us ts → ts.length ≤ 15 → (∀ t ∈ ts, GoodT lanes wide t) → Q (.ref p) H'
theorem use_ties {K : PySem.W.Frag} {d c : Addr} {lanes wide : Int} {H : Hp} {Q : VK} {E : XK} (hD : Draw K H d c) (h1 : 1 ≤ lanes) (h2 : lanes < 1000) (h3 : 0 ≤ wide) (h4 : wide < 10000000)
    (q : ∀ p us ts H', H p = none → Keep d H H' → Draw K H' d c → H' p = some (.lst us) → TieL K H' us ts → ts.length ≤ 15 → (∀ t ∈ ts, GoodT lanes wide t) → Q (.ref p) H') : spTies K ([.ref d, .int lanes, .int wide] ++ []) H Q E := ⟨d, c, lanes, wide, rfl, hD, h1, h2, h3, h4, q⟩
def moveT (lanes by' : Int) (t : Tie) : Tie := ((t.1 + by') % lanes, (t.2.1 + by') % lanes, t.2.2)
def spMoved (K : PySem.W.Frag) : Sp := fun vs H Q _ => ∃ (a : Addr) (lanes b : Int) (us : List V) (ts : List Tie), vs = [.ref a, .int lanes, .int b] ∧ SqL K H a us ∧ TieL K H us ts ∧ ts.length ≤ 1000 ∧ 0 < lanes ∧
  ∀ p us' H', H p = none → Same H H' → H' p = some (.lst us') → TieL K H' us' (ts.map (moveT lanes b)) → Q (.ref p) H'
theorem use_moved {K : PySem.W.Frag} {a : Addr} {lanes b : Int} {us : List V} {ts : List Tie} {H : Hp} {Q : VK} {E : XK} (h : SqL K H a us) (h1 : TieL K H us ts) (h2 : ts.length ≤ 1000) (h3 : 0 < lanes)
    (q : ∀ p us' H', H p = none → Same H H' → H' p = some (.lst us') → TieL K H' us' (ts.map (moveT lanes b)) → Q (.ref p) H') : spMoved K ([.ref a, .int lanes, .int b] ++ []) H Q E := ⟨a, lanes, b, us, ts, rfl, h, h1, h2, h3, q⟩
end Ls
-- own part: lw9
namespace Ls
open PySem PySem.Spec PyProof.Rows L2
/-! ### the program's own: clocks -/
/-- all but the objects at d and e stays -/
def Keep2 (d e : Addr) (H H' : Hp) : Prop := ∀ b o, b ≠ d → b ≠ e → H b = some o → H' b = some o
theorem Keep2.refl {d e : Addr} {H : Hp} : Keep2 d e H H := fun _ _ _ _ h => h
theorem Keep2.trans {d e : Addr} {H H1 H2 : Hp} (a : Keep2 d e H H1) (b : Keep2 d e H1 H2) : Keep2 d e H H2 := fun c o n m h => b c o n m (a c o n m h)
theorem Keep2.same {d e : Addr} {H H' : Hp} (k : Same H H') : Keep2 d e H H' := fun b o _ _ h => k b o h
theorem Keep2.put1 {d e : Addr} {H H' : Hp} {o : HO} (k : Keep2 d e H H') : Keep2 d e H (upd H' d o) := fun b u n m h => by
  rw [upd_ne n]
  exact k b u n m h
theorem Keep2.put2 {d e : Addr} {H H' : Hp} {o : HO} (k : Keep2 d e H H') : Keep2 d e H (upd H' e o) := fun b u n m h => by
  rw [upd_ne m]
  exact k b u n m h
theorem Keep2.tp {K : PySem.W.Frag} {d e : Addr} {H H' : Hp} {o u : HO} (k : Keep2 d e H H') (h1 : H d = some o) (n1 : NoT o = true) (h2 : H e = some u) (n2 : NoT u = true) : Tp K H H' := fun a xs q => by
  have ne : ∀ z, NoT z = false → H a = some z → a ≠ d := fun z hz e y => by
    rw [y, h1] at e
    cases e
    rw [n1] at hz
    cases hz
  have ne2 : ∀ z, NoT z = false → H a = some z → a ≠ e := fun z hz f y => by
    rw [y, h2] at f
    cases f
    rw [n2] at hz
    cases hz
  rcases q with (q | ⟨z, q⟩) | q
  · exact .inl (.inl (k _ _ (ne _ rfl q) (ne2 _ rfl q) q))
  · exact .inl (.inr ⟨z, k _ _ (ne _ rfl q) (ne2 _ rfl q) q⟩)
  · exact .inr q
theorem sql_keep2 {K : PySem.W.Frag} {d e : Addr} {H H' : Hp} {a : Addr} {xs : List V} {kvs kus : List (Key × V)} (k : Keep2 d e H H') (hd : H d = some (.dK kvs)) (he : H e = some (.dK kus)) (h : SqL K H a xs) : SqL K H' a xs := by
  have ne : ∀ (f : Addr) (kvs : List (Key × V)) u, H f = some (.dK kvs) → (∀ ks, u ≠ .dK ks) → H a = some u → a ≠ f := fun f kvs u hf hu e z => by
    rw [z, hf] at e
    exact hu _ (Option.some.inj e).symm
  rcases h with (q | ⟨u, q⟩) | q
  · exact .inl (.inl (k _ _ (ne _ _ _ hd (fun _ z => by cases z) q) (ne _ _ _ he (fun _ z => by cases z) q) q))
  · exact .inl (.inr ⟨u, k _ _ (ne _ _ _ hd (fun _ z => by cases z) q) (ne _ _ _ he (fun _ z => by cases z) q) q⟩)
  · exact .inr q
theorem Keep2.free {d e p : Addr} {H H' : Hp} {o u : HO} (k : Keep2 d e H H') (hd : H' d = some o) (he : H' e = some u) (h : H' p = none) : H p = none := by
  cases q : H p with
  | none => rfl
  | some z =>
    by_cases a : p = d
    · rw [a, hd] at h; cases h
    · by_cases b : p = e
      · rw [b, he] at h; cases h
      · rw [k p z a b q] at h; cases h
theorem k_dc {wi : TI} {g : TG} {tt : TT} {tk tv : TE} {vs : List Nat} {σ : L2.St} {H : Hp} {Q : VK} (h : wi σ H fun J H1 => ∀ D, H1 D = none → ∃ W : Nat → Nat → Hp → Prop, (∃ m, W 0 m (upd H1 D (.dK []))) ∧ ∀ i m H, W i m H →
  (J.stop i H ∧ Q (.ref D) H) ∨ (J.go i H ∧ ∃ Nx : Hp → Prop, (∀ H', Nx H' → ∃ m', m' < m ∧ W (i + 1) m' H') ∧ ∀ x H', J.yld i H x H' → g x (wipe σ vs) H' fun σ2 H2 => wipe σ2 vs = wipe σ vs ∧ tt σ2 H2 fun b H3 =>
    if b = true then tk σ2 H3 fun y H4 => tv σ2 H4 fun z H5 => ∃ kvs k, y = kV k ∧ H5 D = some (.dK kvs) ∧ kvs.length < sizeLine ∧ Nx (upd H5 D (.dK (putK kvs k z))) else Nx H3)) : tDc wi g tt tk tv vs σ H Q := h
theorem it_range {lo : Int} {n : Nat} {H0 : Hp} {Qd : Hp → Prop} {B : (Hp → Prop) → V → Hp → Prop} (Pv : Nat → Hp → Prop) (h0 : Pv 0 H0) (hs : ∀ i H, i < n → Pv i H → B (Pv (i + 1)) (.int (lo + i)) H) (hd : ∀ H, Pv n H → Qd H) :
    ∃ W : Nat → Nat → Hp → Prop, (∃ m, W 0 m H0) ∧ ∀ i m H, W i m H → ((Itr lo n).stop i H ∧ Qd H) ∨ ((Itr lo n).go i H ∧ ∃ Nx : Hp → Prop, (∀ H', Nx H' → ∃ m', m' < m ∧ W (i + 1) m' H') ∧ ∀ x H', (Itr lo n).yld i H x H' → B Nx x H') := by
  refine ⟨fun i m H => m = n - i ∧ i ≤ n ∧ Pv i H, ⟨n, (Nat.sub_zero n).symm, Nat.zero_le _, h0⟩, ?_⟩
  rintro i m H ⟨rfl, hi, p⟩
  by_cases hlt : i < n
  · exact .inr ⟨hlt, Pv (i + 1), fun H' p' => ⟨n - (i + 1), by omega, rfl, hlt, p'⟩, fun x H' ⟨e1, e2⟩ => by subst e1 e2; exact hs i _ hlt p⟩
  · have e : i = n := by omega
    subst e
    exact .inl ⟨Nat.le_refl _, hd H p⟩
theorem Keep2.over {d e : Addr} {H H1 H2 : Hp} (k : Keep2 d e H1 H2) (s : Same H H1) (hd : H d = none) (he : H e = none) : Same H H2 := fun b o h => k b o (ne_of_none h hd) (ne_of_none h he) (s b o h)
/-- amounts by places, in a dict -/
def RowK (n : Int) (kvs : List (Key × V)) (r : Int → Int) : Prop := (∀ p, -1 ≤ p → p < n → valV kvs (.inl p) = some (.int (r p))) ∧ kvs.length ≤ 1000
theorem RowK.put {n : Int} {kvs : List (Key × V)} {r : Int → Int} {p x : Int} (h : RowK n kvs r) (h1 : -1 ≤ p) (h2 : p < n) : RowK n (putK kvs (.inl p) (.int x)) (fun q => if q = p then x else r q) := by
  refine ⟨fun q q1 q2 => ?_, ?_⟩
  · rw [valV_put, h.1 q q1 q2]
    show _ = some (V.int (if q = p then x else r q))
    by_cases e : q = p
    · rw [if_pos (by rw [e]), if_pos e]
    · rw [if_neg (fun z => e (Sum.inl.inj z)), if_neg e]
  · rw [put_of (h.1 p h1 h2), List.length_map]
    exact h.2
/-- the ties that pushed places, in a dict -/
def WayK (K : PySem.W.Frag) (H : Hp) (kvs : List (Key × V)) (w : Int → Option Tie) : Prop := ∀ p, (w p = none → valV kvs (.inl p) = none) ∧ ∀ t, w p = some t → ∃ a, valV kvs (.inl p) = some (.ref a) ∧ SqT K H a [.int t.1, .int t.2.1, .int t.2.2]
theorem WayK.mono {K : PySem.W.Frag} {H H' : Hp} {kvs : List (Key × V)} {w : Int → Option Tie} (h : WayK K H kvs w) (t : Tp K H H') : WayK K H' kvs w := fun p => ⟨(h p).1, fun u hu => by
  obtain ⟨a, h1, h2⟩ := (h p).2 u hu
  exact ⟨a, h1, t _ _ h2⟩⟩
theorem WayK.put {K : PySem.W.Frag} {H : Hp} {kvs : List (Key × V)} {w : Int → Option Tie} {p : Int} {t : Tie} {a : Addr} (h : WayK K H kvs w) (ht : SqT K H a [.int t.1, .int t.2.1, .int t.2.2]) : WayK K H (putK kvs (.inl p) (.ref a)) (fun q => if q = p then some t else w q) := fun q => by
  rw [valV_put]
  show ((if q = p then some t else w q) = none → _) ∧ ∀ u, (if q = p then some t else w q) = some u → _
  by_cases e : q = p
  · rw [if_pos e, if_pos (by rw [e])]
    refine ⟨fun z => by (cases z), fun u hu => ?_⟩
    cases hu
    exact ⟨a, rfl, ht⟩
  · rw [if_neg e, if_neg (fun z => e (Sum.inl.inj z))]
    exact h q
def bnd (n : Nat) (most : Int) : List Tie := ((List.range n).map fun (i : Nat) => ((i : Int), (-1 : Int), (0 : Int))) ++ (List.range n).map fun (i : Nat) => ((-1 : Int), (i : Int), -most)
def lastV : Option Int → V
  | none => .non
  | some p => .int p
def spLook (K : PySem.W.Frag) : Sp := fun vs H Q _ => ∃ (lanes most : Int) (a : Addr) (us : List V) (ts : List Tie), vs = [.int lanes, .ref a, .int most] ∧ 1 ≤ lanes ∧ lanes ≤ 6 ∧ 0 ≤ most ∧ most ≤ 1000000000000 ∧ SqL K H a us ∧ TieL K H us ts ∧ (∀ t ∈ ts, GoodT lanes 999999 t) ∧ Q .non H
def spBounds (K : PySem.W.Frag) : Sp := fun vs H Q _ => ∃ (n : Nat) (most : Int), vs = [.int n, .int most] ∧ n ≤ 6 ∧ ∀ p us H', H p = none → Same H H' → H' p = some (.lst us) → TieL K H' us (bnd n most) → Q (.ref p) H'
def spPushed (K : PySem.W.Frag) : Sp := fun vs H Q _ => ∃ (n : Int) (rw' l wa : Addr) (kr kw : List (Key × V)) (us : List V) (ts : List Tie) (s : Lm.S), vs = [.ref rw', .ref l, .ref wa] ∧ rw' ≠ wa ∧ H rw' = some (.dK kr) ∧ RowK n kr s.row ∧ H wa = some (.dK kw) ∧ WayK K H kw s.way ∧
  SqL K H l us ∧ TieL K H us ts ∧ (∀ t ∈ ts, (-1 ≤ t.1 ∧ t.1 < n) ∧ -1 ≤ t.2.1 ∧ t.2.1 < n) ∧ kw.length + ts.length ≤ 1000000 ∧
  ∀ H' kr' kw', Keep2 rw' wa H H' → H' rw' = some (.dK kr') → RowK n kr' (Lm.pushedS s ts).row → H' wa = some (.dK kw') → WayK K H' kw' (Lm.pushedS s ts).way → kw'.length ≤ kw.length + ts.length → Q (lastV (Lm.pushedS s ts).last) H'
/-- nothing pushed yet -/
def s0 : Lm.S := ⟨fun _ => 0, fun _ => none, none⟩
def spSettled (K : PySem.W.Frag) : Sp := fun vs H Q _ => ∃ (n : Nat) (most : Int) (l : Addr) (us : List V) (ts : List Tie), vs = [.int n, .ref l, .int most] ∧ 1 ≤ n ∧ n ≤ 6 ∧ H l = some (.lst us) ∧ TieL K H us ts ∧ (∀ t ∈ ts, GoodT n 999999 t) ∧ ts.length ≤ 1000 ∧
  ∀ t rw' wa kr kw k H', Same H H' → SqT K H' t [.ref rw', .ref wa, lastV (Lm.iter (bnd n most ++ ts) s0 k).last] → H' rw' = some (.dK kr) → RowK n kr (Lm.iter (bnd n most ++ ts) s0 k).row → H' wa = some (.dK kw) → WayK K H' kw (Lm.iter (bnd n most ++ ts) s0 k).way →
    k ≤ n + 2 → 0 < k → ((Lm.iter (bnd n most ++ ts) s0 k).last = none ∨ k = n + 2) → Q (.ref t) H'
theorem bnd_ok {n : Nat} {most : Int} : ∀ t ∈ bnd n most, (-1 ≤ t.1 ∧ t.1 < n) ∧ (-1 ≤ t.2.1 ∧ t.2.1 < n) ∧ t.1 ≠ t.2.1 := by
  intro t ht
  rcases List.mem_append.mp ht with ht | ht
  · obtain ⟨i, hi, rfl⟩ := List.mem_map.mp ht
    have := List.mem_range.mp hi
    exact ⟨⟨by show -1 ≤ (i : Int); omega, by show (i : Int) < n; omega⟩, ⟨by show (-1 : Int) ≤ -1; omega, by show (-1 : Int) < n; omega⟩, by show (i : Int) ≠ -1; omega⟩
  · obtain ⟨i, hi, rfl⟩ := List.mem_map.mp ht
    have := List.mem_range.mp hi
    exact ⟨⟨by show (-1 : Int) ≤ -1; omega, by show (-1 : Int) < n; omega⟩, ⟨by show -1 ≤ (i : Int); omega, by show (i : Int) < n; omega⟩, by show (-1 : Int) ≠ (i : Int); omega⟩
theorem all_ok {n : Nat} {most : Int} {ts : List Tie} (h : ∀ t ∈ ts, GoodT n 999999 t) : ∀ t ∈ bnd n most ++ ts, (-1 ≤ t.1 ∧ t.1 < n) ∧ (-1 ≤ t.2.1 ∧ t.2.1 < n) ∧ t.1 ≠ t.2.1 := by
  intro t ht
  rcases List.mem_append.mp ht with ht | ht
  · exact bnd_ok t ht
  · obtain ⟨a, b, c, d, e, _⟩ := h t ht
    exact ⟨⟨by omega, b⟩, ⟨by omega, d⟩, e⟩
theorem bnd_len {n : Nat} {most : Int} : (bnd n most).length = 2 * n := by
  unfold bnd
  rw [List.length_append, List.length_map, List.length_map, List.length_range]
  omega
end Ls
-- own part: lw13
namespace Ls
open PySem PySem.Spec PyProof.Rows L2
/-! ### what amounts and ring answer -/
/-- amounts that lie within their bounds and meet the ties -/
def FeasT (n : Nat) (most : Int) (ts : List Tie) (x : Int → Int) : Prop := (∀ p : Int, 0 ≤ p → p < n → 0 ≤ x p ∧ x p ≤ most) ∧ ∀ t ∈ ts, Lm.Met x t
def LeastT (n : Nat) (most : Int) (ts : List Tie) (x : Int → Int) : Prop := FeasT n most ts x ∧ ∀ y, FeasT n most ts y → ∀ p : Int, 0 ≤ p → p < n → x p ≤ y p
def places (n : Nat) : List Int := (List.range (n + 1)).map fun (i : Nat) => (i : Int) - 1
theorem mem_places {n : Nat} {p : Int} : p ∈ places n ↔ -1 ≤ p ∧ p < n := by
  constructor
  · intro h
    obtain ⟨i, hi, rfl⟩ := List.mem_map.mp h
    have := List.mem_range.mp hi
    omega
  · intro h
    exact List.mem_map.mpr ⟨(p + 1).toNat, List.mem_range.mpr (by omega), by omega⟩
theorem sol_of {n : Nat} {most : Int} {ts : List Tie} {x : Int → Int} (h0 : ∀ t ∈ ts, GoodT n 999999 t) (h : FeasT n most ts x) : Lm.Sol (places n) (bnd n most ++ ts) (fun p => if 0 ≤ p ∧ p < n then x p else 0) := by
  refine ⟨fun p hp => ?_, ?_, fun t ht => ?_⟩
  · show 0 ≤ if 0 ≤ p ∧ p < n then x p else 0
    by_cases c : 0 ≤ p ∧ p < n
    · rw [if_pos c]; exact (h.1 p c.1 c.2).1
    · rw [if_neg c]; exact Int.le_refl _
  · show (if 0 ≤ (-1 : Int) ∧ (-1 : Int) < n then x (-1) else 0) = 0
    rw [if_neg (by omega)]
  · show (if 0 ≤ t.2.1 ∧ t.2.1 < n then x t.2.1 else 0) + t.2.2 ≤ (if 0 ≤ t.1 ∧ t.1 < n then x t.1 else 0)
    rcases List.mem_append.mp ht with ht | ht
    · rcases List.mem_append.mp ht with ht | ht
      · obtain ⟨i, hi, rfl⟩ := List.mem_map.mp ht
        have hi := List.mem_range.mp hi
        have := h.1 (i : Int) (by omega) (by omega)
        show (if 0 ≤ (-1 : Int) ∧ (-1 : Int) < n then x (-1) else 0) + 0 ≤ (if 0 ≤ (i : Int) ∧ (i : Int) < n then x i else 0)
        rw [if_neg (by omega), if_pos (by omega)]
        omega
      · obtain ⟨i, hi, rfl⟩ := List.mem_map.mp ht
        have hi := List.mem_range.mp hi
        have := h.1 (i : Int) (by omega) (by omega)
        show (if 0 ≤ (i : Int) ∧ (i : Int) < n then x i else 0) + -most ≤ (if 0 ≤ (-1 : Int) ∧ (-1 : Int) < n then x (-1) else 0)
        rw [if_pos (by omega), if_neg (by omega)]
        omega
    · obtain ⟨a, b, c, d, _⟩ := h0 t ht
      rw [if_pos ⟨c, d⟩, if_pos ⟨a, b⟩]
      exact h.2 t ht
theorem feas_of {n : Nat} {most : Int} {ts : List Tie} {y : Int → Int} (h : Lm.Sol (places n) (bnd n most ++ ts) y) : FeasT n most ts y := by
  refine ⟨fun p p0 p1 => ⟨h.1 p (mem_places.mpr ⟨by omega, p1⟩), ?_⟩, fun t ht => h.2.2 t (List.mem_append_right _ ht)⟩
  have a := h.2.2 (-1, p, -most) (List.mem_append_left _ (List.mem_append_right _ (List.mem_map.mpr ⟨p.toNat, List.mem_range.mpr (by omega), by rw [Int.toNat_of_nonneg p0]⟩)))
  have a : y p + -most ≤ y (-1) := a
  have b := h.2.1
  omega
theorem iter_some {n : Nat} {most : Int} {ts : List Tie} (h0 : ∀ t ∈ ts, GoodT n 999999 t) {v : Int} (hl : (Lm.iter (bnd n most ++ ts) s0 (n + 2)).last = some v) (x : Int → Int) : ¬ FeasT n most ts x := fun h => by
  have := Lm.ends (s := s0) (sol_of h0 h) (fun t ht => ⟨mem_places.mpr (all_ok h0 t ht).1, mem_places.mpr (all_ok h0 t ht).2.1⟩) (fun _ => rfl) (mem_places.mpr ⟨by omega, by omega⟩) (k := n + 1) (by unfold places; rw [List.length_map, List.length_range]; omega)
  rw [show n + 1 + 1 = n + 2 from rfl] at this
  rw [hl] at this
  cases this
theorem iter_none {n : Nat} {most : Int} {ts : List Tie} (h0 : ∀ t ∈ ts, GoodT n 999999 t) {k : Nat} (hk : 0 < k) (hl : (Lm.iter (bnd n most ++ ts) s0 k).last = none) : LeastT n most ts (Lm.iter (bnd n most ++ ts) s0 k).row := by
  obtain ⟨j, rfl⟩ : ∃ j, k = j + 1 := ⟨k - 1, by omega⟩
  obtain ⟨a, b, c⟩ := Lm.least (s := s0) (ps := places n) (fun t ht => ⟨mem_places.mpr (all_ok h0 t ht).1, mem_places.mpr (all_ok h0 t ht).2.1⟩) (fun _ => rfl) (mem_places.mpr ⟨by omega, by omega⟩) hl (fun p hp hn => by
    have := mem_places.mp hp
    exact List.mem_append_left _ (List.mem_append_left _ (List.mem_map.mpr ⟨p.toNat, List.mem_range.mpr (by omega), by rw [Int.toNat_of_nonneg (by omega)]⟩)))
  rw [c] at a
  have e : (fun p => (Lm.iter (bnd n most ++ ts) s0 (j + 1)).row p - 0) = (Lm.iter (bnd n most ++ ts) s0 (j + 1)).row := by
    funext p
    omega
  rw [e] at a
  refine ⟨feas_of a, fun y hy p p0 p1 => ?_⟩
  have := b _ (sol_of h0 hy) p (mem_places.mpr ⟨by omega, p1⟩)
  have : (Lm.iter (bnd n most ++ ts) s0 (j + 1)).row p ≤ if 0 ≤ p ∧ p < n then y p else 0 := this
  rw [if_pos ⟨p0, p1⟩] at this
  exact this
theorem iter_runs {n : Nat} {most : Int} {ts : List Tie} (h0 : ∀ t ∈ ts, GoodT n 999999 t) {v : Int} (hl : (Lm.iter (bnd n most ++ ts) s0 (n + 2)).last = some v) :
    ∃ q, Lm.Runs (bnd n most ++ ts) (Lm.iter (bnd n most ++ ts) s0 (n + 2)).way (n + 2) v (Lm.go (Lm.iter (bnd n most ++ ts) s0 (n + 2)).way (n + 2) v) q :=
  Lm.runs (fun t ht => (all_ok h0 t ht).2.2) (fun t ht => ⟨(all_ok h0 t ht).1, (all_ok h0 t ht).2.1⟩) (fun _ => rfl) hl
theorem at_end {xs : List V} {v : V} {j : Nat} (hl : xs.length = j + 1) (h : xs[j]? = some v) : atI xs (-1) = some v := by
  rcases List.eq_nil_or_concat xs with rfl | ⟨ys, y, rfl⟩
  · cases hl
  · rw [List.concat_eq_append] at hl h ⊢
    rw [List.length_append, List.length_singleton] at hl
    rw [List.getElem?_append_right (by omega), show j - ys.length = 0 by omega] at h
    cases h
    exact atI_last ys _
theorem k_while {c : TT} {tb : TS} {D : Ends} {σ : L2.St} {H : Hp} (h : ∃ W : Nat → L2.St → Hp → Prop, (∃ m, W m σ H) ∧ ∀ m σ H, W m σ H → c σ H fun b H1 => if b = true then ∃ N : L2.St → Hp → Prop, (∀ σ' H', N σ' H' → ∃ m', m' < m ∧ W m' σ' H') ∧ tb { D with nx := N, ct := N, bk := D.nx } σ H1 else D.nx σ H1) : tWhile c tb D σ H := h
/-- the list of amounts -/
def rowV (n : Nat) (x : Int → Int) : List V := (List.range n).map fun (i : Nat) => V.int (x i)
def spAmounts (K : PySem.W.Frag) : Sp := fun vs H Q _ => ∃ (n : Nat) (most : Int) (l : Addr) (us : List V) (ts : List Tie), vs = [.int n, .ref l, .int most] ∧ 1 ≤ n ∧ n ≤ 6 ∧ 0 ≤ most ∧ most ≤ 1000000000000 ∧ H l = some (.lst us) ∧ TieL K H us ts ∧ (∀ t ∈ ts, GoodT n 999999 t) ∧ ts.length ≤ 1000 ∧
  (∀ p x H', H p = none → Same H H' → H' p = some (.lst (rowV n x)) → LeastT n most ts x → Q (.ref p) H') ∧ ∀ H', Same H H' → (∀ x, ¬ FeasT n most ts x) → Q .non H'
def spRing (K : PySem.W.Frag) : Sp := fun vs H Q _ => ∃ (n : Nat) (most : Int) (l : Addr) (us : List V) (ts : List Tie), vs = [.int n, .ref l, .int most] ∧ 1 ≤ n ∧ n ≤ 6 ∧ 0 ≤ most ∧ most ≤ 1000000000000 ∧ H l = some (.lst us) ∧ TieL K H us ts ∧ (∀ t ∈ ts, GoodT n 999999 t) ∧ ts.length ≤ 1000 ∧
  (∀ p us rs H', H p = none → Same H H' → H' p = some (.lst us) → TieL K H' us rs → rs.length ≤ n + 1 → Lm.Ring (bnd n most ++ ts) rs → (∀ x, ¬ FeasT n most ts x) → Q (.ref p) H') ∧ ∀ H' x, Same H H' → FeasT n most ts x → Q .non H'
end Ls
-- own part: S1
namespace Ls
open PySem PySem.Spec PyProof.Rows L2
/-! ### what stands apart: assertions over the heap, each over addresses of its own -/
/-- an object that is no tuple -/
def Nt : HO → Bool
  | .tup _ => false
  | .frz _ _ => false
  | .ext _ => false
  | _ => true
/-- .. nor a table: what may be frozen -/
def Fr : HO → Bool
  | .tbl _ => false
  | o => Nt o
theorem fr_nt {o : HO} (h : Fr o = true) : Nt o = true := by
  cases o <;> first | exact h | rfl
/-- tuples stay, and what is told of from outside -/
def Tq (K : PySem.W.Frag) (H H' : Hp) : Prop := Tp K H H' ∧ ∀ a f, H a = some (.ext f) → H' a = some (.ext f)
theorem Tq.refl {K : PySem.W.Frag} {H : Hp} : Tq K H H := ⟨Tp.refl, fun _ _ h => h⟩
theorem Tq.same {K : PySem.W.Frag} {H H' : Hp} (e : Same H H') : Tq K H H' := ⟨Tp.same e, fun _ _ h => e _ _ h⟩
theorem Tq.new {K : PySem.W.Frag} {H : Hp} {p : Addr} {o : HO} (h : H p = none) : Tq K H (upd H p o) := Tq.same (same_new h)
theorem nt_tp {K : PySem.W.Frag} {H H' : Hp} (h : ∀ a o, H a = some o → Nt o = false → H' a = some o) : Tq K H H' := ⟨fun a xs q => by
  rcases q with (q | ⟨u, q⟩) | q
  · exact .inl (.inl (h _ _ q rfl))
  · exact .inl (.inr ⟨u, h _ _ q rfl⟩)
  · exact .inr q, fun a f e => h a _ e rfl⟩
theorem tp_upd {K : PySem.W.Frag} {H : Hp} {a : Addr} {o u : HO} (h : H a = some o) (n : Nt o = true) : Tq K H (upd H a u) := nt_tp fun b x e nb => by
  have : b ≠ a := fun z => by
    rw [z, h] at e
    cases e
    rw [n] at nb
    cases nb
  rw [upd_ne this]
  exact e
/-- what is frozen: it stands, and never changes -/
abbrev Fz := Addr → HO → Prop
structure As (K : PySem.W.Frag) where
  ok : Fz → (Addr → Prop) → Hp → Prop
  st : ∀ {W : Fz} {s : Addr → Prop} {H H' : Hp}, ok W s H → (∀ a, s a → H' a = H a) → Tq K H H' → ok W s H'
  al : ∀ {W : Fz} {s : Addr → Prop} {H : Hp}, ok W s H → ∀ a, s a → ∃ o, H a = some o ∧ Nt o = true
  mo : ∀ {W W' : Fz} {s : Addr → Prop} {H : Hp}, ok W s H → (∀ a o, W a o → W' a o) → ok W' s H
section
variable {K : PySem.W.Frag} {A B C : As K} {L L' M : List (As K)} {s t r : Addr → Prop} {H H' : Hp} {W W' : Fz}
def Hld (W : Fz) : List (As K) → (Addr → Prop) → Hp → Prop
  | [], s, _ => ∀ a, ¬ s a
  | A :: L, s, H => ∃ s1 s2, (∀ a, s1 a → s2 a → False) ∧ (∀ a, s a ↔ s1 a ∨ s2 a) ∧ A.ok W s1 H ∧ Hld W L s2 H
theorem Hld.st : ∀ {L : List (As K)} {s : Addr → Prop}, Hld W L s H → (∀ a, s a → H' a = H a) → Tq K H H' → Hld W L s H'
  | [], _, h, _, _ => h
  | _ :: _, _, ⟨s1, s2, d, u, h1, h2⟩, e, t => ⟨s1, s2, d, u, As.st _ h1 (fun a z => e a ((u a).mpr (.inl z))) t, Hld.st h2 (fun a z => e a ((u a).mpr (.inr z))) t⟩
theorem Hld.al : ∀ {L : List (As K)} {s : Addr → Prop}, Hld W L s H → ∀ a, s a → ∃ o, H a = some o ∧ Nt o = true
  | [], _, h, a, z => (h a z).elim
  | _ :: _, _, ⟨s1, s2, d, u, h1, h2⟩, a, z => ((u a).mp z).elim (As.al _ h1 a) (Hld.al h2 a)
theorem Hld.mo (k : ∀ a o, W a o → W' a o) : ∀ {L : List (As K)} {s : Addr → Prop}, Hld W L s H → Hld W' L s H
  | [], _, h => h
  | _ :: _, _, ⟨s1, s2, d, u, h1, h2⟩ => ⟨s1, s2, d, u, As.mo _ h1 k, Hld.mo k h2⟩
theorem Hld.cg (h : Hld W L s H) (e : ∀ a, s a ↔ t a) : Hld W L t H := by
  have : s = t := funext fun a => propext (e a)
  exact this ▸ h
theorem Hld.swap (h : Hld W (A :: B :: L) s H) : Hld W (B :: A :: L) s H := by
  obtain ⟨s1, s2, d, u, h1, t1, t2, d2, u2, h2, h3⟩ := h
  refine ⟨t1, fun a => s1 a ∨ t2 a, fun a x y => ?_, fun a => ?_, h2, s1, t2, fun a x y => d a x ((u2 a).mpr (.inr y)), fun a => Iff.rfl, h1, h3⟩
  · rcases y with y | y
    · exact d a y ((u2 a).mpr (.inl x))
    · exact d2 a x y
  · rw [u a, u2 a]
    constructor
    · rintro (x | x | x)
      · exact .inr (.inl x)
      · exact .inl x
      · exact .inr (.inr x)
    · rintro (x | x | x)
      · exact .inr (.inl x)
      · exact .inl x
      · exact .inr (.inr x)
/-- the frozen ones stand apart from what is owned -/
def FzOk (W : Fz) (s : Addr → Prop) (H : Hp) : Prop := ∀ a o, W a o → H a = some o ∧ Fr o = true ∧ ¬ s a
/-- the assertions of a list hold, each of addresses of its own -/
def Sep (L : List (As K)) (H : Hp) : Prop := ∃ W s, FzOk W s H ∧ Hld W L s H
theorem Hld.perm (p : L.Perm L') : ∀ {s : Addr → Prop}, Hld W L s H → Hld W L' s H := by
  induction p with
  | nil => exact id
  | cons x _ ih =>
    rintro s ⟨s1, s2, d, u, h1, h2⟩
    exact ⟨s1, s2, d, u, h1, ih h2⟩
  | swap x y l => exact fun h => h.swap
  | trans _ _ a b => exact fun h => b (a h)
theorem Sep.perm (h : Sep L H) (p : L.Perm L') : Sep L' H := by
  obtain ⟨W, s, f, h⟩ := h
  exact ⟨W, s, f, h.perm p⟩
theorem FzOk.less (f : FzOk W s H) (k : ∀ a, t a → s a) : FzOk W t H := fun a o h => ⟨(f a o h).1, (f a o h).2.1, fun z => (f a o h).2.2 (k a z)⟩
theorem Sep.tail (h : Sep (A :: L) H) : Sep L H := by
  obtain ⟨W, s, f, s1, s2, d, u, h1, h2⟩ := h
  exact ⟨W, s2, f.less fun a z => (u a).mpr (.inr z), h2⟩
theorem Sep.nil : Sep ([] : List (As K)) H := ⟨fun _ _ => False, fun _ => False, fun _ _ z => z.elim, fun _ z => z⟩
theorem Sep.same (h : Sep L H) (e : Same H H') : Sep L H' := by
  obtain ⟨W, s, f, h⟩ := h
  refine ⟨W, s, fun a o z => ⟨e _ _ (f a o z).1, (f a o z).2⟩, h.st (fun a z => ?_) (Tq.same e)⟩
  obtain ⟨o, ho, _⟩ := h.al a z
  rw [e _ _ ho, ho]
/-- the first one, and what it takes to put another in its place -/
theorem Sep.hd (h : Sep (A :: L) H) : ∃ (W : Fz) (s r : Addr → Prop), A.ok W s H ∧ (∀ a, s a → r a → False) ∧ (∀ a, r a → ∃ o, H a = some o ∧ Nt o = true) ∧
    ∀ {B : As K} {s' : Addr → Prop} {H' : Hp}, B.ok W s' H' → (∀ a, s' a → r a → False) → (∀ a, r a → H' a = H a) → Tq K H H' → Sep (B :: L) H' := by
  obtain ⟨W, s, f, s1, s2, d, u, h1, h2⟩ := h
  refine ⟨W, s1, fun a => s2 a ∨ ∃ o, W a o, h1, fun a x y => ?_, fun a y => ?_, fun {B s' H'} hB dj e t => ⟨W, fun a => s' a ∨ s2 a, fun a o z => ⟨?_, (f a o z).2.1, fun y => ?_⟩, s', s2, fun a x y => dj a x (.inl y), fun a => Iff.rfl, hB, h2.st (fun a z => e a (.inl z)) t⟩⟩
  · rcases y with y | ⟨o, y⟩
    · exact d a x y
    · exact (f a o y).2.2 ((u a).mpr (.inl x))
  · rcases y with y | ⟨o, y⟩
    · exact h2.al a y
    · exact ⟨o, (f a o y).1, fr_nt (f a o y).2.1⟩
  · rw [e a (.inr ⟨o, z⟩)]
    exact (f a o z).1
  · rcases y with y | y
    · exact dj a y (.inr ⟨o, z⟩)
    · exact (f a o z).2.2 ((u a).mpr (.inr y))
/-! A in a list, and another in its place -/
inductive Rep : List (As K) → As K → As K → List (As K) → Prop
  | here {A B : As K} {L} : Rep (A :: L) A B (B :: L)
  | there {A B C : As K} {L M} : Rep L A B M → Rep (C :: L) A B (C :: M)
inductive Rem : List (As K) → As K → List (As K) → Prop
  | here {A : As K} {L} : Rem (A :: L) A L
  | there {A C : As K} {L M} : Rem L A M → Rem (C :: L) A (C :: M)
theorem Rem.perm (r : Rem L A M) : L.Perm (A :: M) := by
  induction r with
  | here => exact .refl _
  | there _ ih => exact (List.Perm.cons _ ih).trans (.swap _ _ _)
theorem Rep.rem (r : Rep L A B M) : ∃ N, L.Perm (A :: N) ∧ M.Perm (B :: N) := by
  induction r with
  | here => exact ⟨_, .refl _, .refl _⟩
  | there _ ih =>
    obtain ⟨N, h1, h2⟩ := ih
    exact ⟨_, (List.Perm.cons _ h1).trans (.swap _ _ _), (List.Perm.cons _ h2).trans (.swap _ _ _)⟩
theorem Rem.of_mem : A ∈ L → ∃ M, Rem L A M := by
  intro h
  induction L with
  | nil => cases h
  | cons C L ih =>
    by_cases e : A = C
    · subst e
      exact ⟨_, .here⟩
    · obtain ⟨M, hM⟩ := ih (by
        rcases List.mem_cons.mp h with z | z
        · exact (e z).elim
        · exact z)
      exact ⟨_, .there hM⟩
theorem Sep.rem (h : Sep L H) (r : Rem L A M) : Sep (A :: M) H := h.perm r.perm
/-- a call that changes the first one and lets the rest stand -/
theorem Sep.rep (r : Rep L A B M) : ∃ N, (∀ H, Sep L H → Sep (A :: N) H) ∧ (∀ H, Sep (B :: N) H → Sep M H) := by
  obtain ⟨N, h1, h2⟩ := r.rem
  exact ⟨N, fun H h => h.perm h1, fun H h => h.perm h2.symm⟩
/-- one of them, and how all stand again behind a change of it -/
theorem Sep.at (h : Sep L H) (m : A ∈ L) : ∃ (W : Fz) (s r : Addr → Prop), A.ok W s H ∧ (∀ a, s a → r a → False) ∧ (∀ a, r a → ∃ o, H a = some o ∧ Nt o = true) ∧
    ∀ {s' : Addr → Prop} {H' : Hp}, A.ok W s' H' → (∀ a, s' a → r a → False) → (∀ a, r a → H' a = H a) → Tq K H H' → Sep L H' := by
  obtain ⟨M, hM⟩ := Rem.of_mem m
  obtain ⟨W, s, r, h1, h2, h3, h4⟩ := (h.rem hM).hd
  exact ⟨W, s, r, h1, h2, h3, fun a b c d => (h4 a b c d).perm hM.perm.symm⟩
theorem Sep.the (h : Sep L H) (m : A ∈ L) : ∃ W s, A.ok W s H ∧ FzOk W (fun _ => False) H := by
  obtain ⟨M, hM⟩ := Rem.of_mem m
  obtain ⟨W, s, f, s1, s2, d, u, h1, h2⟩ := h.rem hM
  exact ⟨W, s1, h1, f.less fun _ z => z.elim⟩
end
/-! ### the assertions -/
section
variable {K : PySem.W.Frag}
/-- a fact that stays, of the frozen ones and the heap -/
def persW (P : Fz → Hp → Prop) (h : ∀ W H H', Tq K H H' → P W H → P W H') (k : ∀ (W W' : Fz) H, (∀ a o, W a o → W' a o) → P W H → P W' H) : As K := ⟨fun W s H => (∀ a, ¬ s a) ∧ P W H, fun ⟨a, b⟩ _ t => ⟨a, h _ _ _ t b⟩, fun ⟨a, _⟩ b z => (a b z).elim, fun ⟨a, b⟩ e => ⟨a, k _ _ _ e b⟩⟩
/-- a fact that stays -/
def pers (P : Hp → Prop) (h : ∀ H H', Tq K H H' → P H → P H') : As K := persW (fun _ => P) (fun _ => h) fun _ _ _ _ b => b
def im (v : V) (d : PyData) : As K := pers (fun H => Im K H v d) fun _ _ t h => h.mono t.1
def ims (vs : List V) (ds : List PyData) : As K := pers (fun H => ImAll K H vs ds) fun _ _ t h => h.mono t.1
def tu (a : Addr) (xs : List V) : As K := pers (fun H => SqT K H a xs) fun _ _ t h => t.1 _ _ h
def pr (P : Prop) : As K := pers (fun _ => P) fun _ _ _ h => h
/-- an object that never changes any more -/
def fzn (a : Addr) (o : HO) : As K := persW (fun W _ => W a o) (fun _ _ _ _ h => h) fun _ _ _ e h => e _ _ h
/-- an object of one's own -/
def ob (a : Addr) (o : HO) : As K := ⟨fun _ s H => (∀ b, s b ↔ b = a) ∧ H a = some o ∧ Nt o = true, fun ⟨e, h, n⟩ k _ => ⟨e, (k a ((e a).mpr rfl)).trans h, n⟩, fun ⟨e, h, n⟩ b z => by
  obtain rfl := (e b).mp z
  exact ⟨o, h, n⟩, fun h _ => h⟩
/-- there is an x .. -/
def ex {α : Type} (f : α → As K) : As K := ⟨fun W s H => ∃ x, (f x).ok W s H, fun ⟨x, h⟩ e t => ⟨x, (f x).st h e t⟩, fun ⟨x, h⟩ => (f x).al h, fun ⟨x, h⟩ e => ⟨x, (f x).mo h e⟩⟩
/-- all of a list as one -/
def all (L : List (As K)) : As K := ⟨fun W => Hld W L, fun h e t => Hld.st h e t, fun h => Hld.al h, fun h e => Hld.mo e h⟩
variable {A B : As K} {L L' M : List (As K)} {H H' : Hp} {a p : Addr} {o u : HO} {v : V} {d : PyData} {vs xs : List V} {ds : List PyData} {W : Fz}
theorem Sep.pers_iff {P : Hp → Prop} {h : ∀ H H', Tq K H H' → P H → P H'} : Sep (pers P h :: L) H ↔ P H ∧ Sep L H := by
  constructor
  · intro z
    refine ⟨?_, z.tail⟩
    obtain ⟨W, s, ⟨_, h1⟩, _⟩ := z.the List.mem_cons_self
    exact h1
  · rintro ⟨p, W, s, f, q⟩
    exact ⟨W, s, f, fun _ => False, s, fun _ z => z.elim, fun a => ⟨.inr, fun z => z.elim False.elim id⟩, ⟨fun _ z => z, p⟩, q⟩
theorem Sep.im_iff : Sep (im v d :: L) H ↔ Im K H v d ∧ Sep L H := Sep.pers_iff
theorem Sep.ims_iff : Sep (ims vs ds :: L) H ↔ ImAll K H vs ds ∧ Sep L H := Sep.pers_iff
theorem Sep.tu_iff : Sep (tu a xs :: L) H ↔ SqT K H a xs ∧ Sep L H := Sep.pers_iff
theorem Sep.pr_iff {P : Prop} : Sep (pr P :: L) H ↔ P ∧ Sep L H := Sep.pers_iff
theorem Sep.ex_iff {α : Type} {f : α → As K} : Sep (ex f :: L) H ↔ ∃ x, Sep (f x :: L) H := by
  constructor
  · rintro ⟨W, s, f, s1, s2, d, u, ⟨x, h1⟩, h2⟩
    exact ⟨x, W, s, f, s1, s2, d, u, h1, h2⟩
  · rintro ⟨x, W, s, f, s1, s2, d, u, h1, h2⟩
    exact ⟨W, s, f, s1, s2, d, u, ⟨x, h1⟩, h2⟩
theorem Hld.app : ∀ {L L' : List (As K)} {s : Addr → Prop}, Hld W (L ++ L') s H ↔ ∃ s1 s2, (∀ a, s1 a → s2 a → False) ∧ (∀ a, s a ↔ s1 a ∨ s2 a) ∧ Hld W L s1 H ∧ Hld W L' s2 H
  | [], L', s => by
    constructor
    · intro h
      exact ⟨fun _ => False, s, fun _ z => z.elim, fun a => ⟨.inr, fun z => z.elim False.elim id⟩, fun _ z => z, h⟩
    · rintro ⟨s1, s2, d, u, h1, h2⟩
      exact h2.cg fun a => ⟨fun z => (u a).mpr (.inr z), fun z => ((u a).mp z).elim (fun y => (h1 a y).elim) id⟩
  | A :: L, L', s => by
    constructor
    · rintro ⟨s1, s2, d, u, h1, h2⟩
      obtain ⟨t1, t2, d', u', h3, h4⟩ := Hld.app.mp h2
      refine ⟨fun a => s1 a ∨ t1 a, t2, fun a x y => ?_, fun a => ?_, ⟨s1, t1, fun a x y => d a x ((u' a).mpr (.inl y)), fun a => Iff.rfl, h1, h3⟩, h4⟩
      · rcases x with x | x
        · exact d a x ((u' a).mpr (.inr y))
        · exact d' a x y
      · rw [u a, u' a, or_assoc]
    · rintro ⟨s1, s2, d, u, ⟨t1, t2, d', u', h1, h3⟩, h2⟩
      refine ⟨t1, fun a => t2 a ∨ s2 a, fun a x y => ?_, fun a => ?_, h1, Hld.app.mpr ⟨t2, s2, fun a x y => d a ((u' a).mpr (.inr x)) y, fun a => Iff.rfl, h3, h2⟩⟩
      · rcases y with y | y
        · exact d' a x y
        · exact d a ((u' a).mpr (.inl x)) y
      · rw [u a, u' a, or_assoc]
theorem Sep.all_iff : Sep (all L :: L') H ↔ Sep (L ++ L') H := by
  constructor
  · rintro ⟨W, s, f, s1, s2, d, u, h1, h2⟩
    exact ⟨W, s, f, Hld.app.mpr ⟨s1, s2, d, u, h1, h2⟩⟩
  · rintro ⟨W, s, f, h⟩
    obtain ⟨s1, s2, d, u, h1, h2⟩ := Hld.app.mp h
    exact ⟨W, s, f, s1, s2, d, u, h1, h2⟩
theorem Sep.obm (h : Sep L H) (m : ob a o ∈ L) : H a = some o := by
  obtain ⟨W, s, ⟨_, h1, _⟩, _⟩ := h.the m
  exact h1
theorem Sep.ob_get (h : Sep (ob a o :: L) H) : H a = some o := h.obm List.mem_cons_self
theorem Sep.fzm (h : Sep L H) (m : fzn a o ∈ L) : H a = some o := by
  obtain ⟨W, s, ⟨_, h1⟩, f⟩ := h.the m
  exact (f a o h1).1
theorem Sep.imm (h : Sep L H) (m : im v d ∈ L) : Im K H v d := by
  obtain ⟨W, s, ⟨_, h1⟩, _⟩ := h.the m
  exact h1
theorem Sep.imsm (h : Sep L H) (m : ims vs ds ∈ L) : ImAll K H vs ds := by
  obtain ⟨W, s, ⟨_, h1⟩, _⟩ := h.the m
  exact h1
theorem Sep.tum (h : Sep L H) (m : tu a xs ∈ L) : SqT K H a xs := by
  obtain ⟨W, s, ⟨_, h1⟩, _⟩ := h.the m
  exact h1
theorem Sep.set (h : Sep (ob a o :: L) H) (n : Nt u = true) : Sep (ob a u :: L) (upd H a u) := by
  obtain ⟨W, s, r, ⟨e, h1, n1⟩, d, _, k⟩ := h.hd
  refine k (s' := s) ⟨e, upd_same, n⟩ d (fun b z => upd_ne fun y => d b ((e b).mpr y) z) (tp_upd h1 n1)
theorem Sep.setR (h : Sep L H) (r : Rep L (ob a o) (ob a u) M) (n : Nt u = true) : Sep M (upd H a u) := by
  obtain ⟨N, h1, h2⟩ := Sep.rep r
  exact h2 _ ((h1 _ h).set n)
theorem Sep.new (h : Sep L H) (hp : H p = none) (n : Nt o = true) : Sep (ob p o :: L) (upd H p o) := by
  obtain ⟨W, s, f, h⟩ := h
  have ne : ∀ b, s b → b ≠ p := fun b z y => by
    obtain ⟨x, hx, _⟩ := h.al b z
    rw [y, hp] at hx
    cases hx
  have nw : ∀ b x, W b x → b ≠ p := fun b x z y => by
    have := (f b x z).1
    rw [y, hp] at this
    cases this
  exact ⟨W, fun b => b = p ∨ s b, fun b x z => ⟨by rw [upd_ne (nw b x z)]; exact (f b x z).1, (f b x z).2.1, fun y => y.elim (nw b x z) (f b x z).2.2⟩, fun b => b = p, s, fun b x y => ne b y x, fun b => Iff.rfl, ⟨fun b => Iff.rfl, upd_same, n⟩, h.st (fun b z => upd_ne (ne b z)) (Tq.new hp)⟩
theorem Sep.newT (h : Sep L H) (hp : H p = none) : Sep (tu p xs :: L) (upd H p (.tup xs)) := Sep.tu_iff.mpr ⟨sqt_of upd_same, h.same (same_new hp)⟩
/-- an object of one's own is frozen for good -/
theorem Sep.freeze (h : Sep (ob a o :: L) H) (hf : Fr o = true) : Sep (fzn a o :: L) H := by
  obtain ⟨W, s, f, s1, s2, d, u, ⟨e, h1, n⟩, h2⟩ := h
  refine ⟨fun b x => W b x ∨ (b = a ∧ x = o), s2, fun b x z => ?_, fun _ => False, s2, fun _ z => z.elim, fun b => ⟨.inr, fun z => z.elim False.elim id⟩, ⟨fun _ z => z, .inr ⟨rfl, rfl⟩⟩, h2.mo fun b x z => .inl z⟩
  rcases z with z | ⟨rfl, rfl⟩
  · exact ⟨(f b x z).1, (f b x z).2.1, fun y => (f b x z).2.2 ((u b).mpr (.inr y))⟩
  · exact ⟨h1, hf, fun y => d b ((e b).mpr rfl) y⟩
end
/-- what may be told as often as one likes -/
class Dup {K : PySem.W.Frag} (A : As K) : Prop where
  no : ∀ {W : Fz} {s : Addr → Prop} {H : Hp}, A.ok W s H → ∀ a, ¬ s a
instance {K : PySem.W.Frag} {P : Fz → Hp → Prop} {h k} : Dup (persW (K := K) P h k) := ⟨fun z => z.1⟩
instance {K : PySem.W.Frag} {v d} : Dup (im (K := K) v d) := ⟨fun z => z.1⟩
instance {K : PySem.W.Frag} {v d} : Dup (ims (K := K) v d) := ⟨fun z => z.1⟩
instance {K : PySem.W.Frag} {v d} : Dup (tu (K := K) v d) := ⟨fun z => z.1⟩
instance {K : PySem.W.Frag} {P} : Dup (pr (K := K) P) := ⟨fun z => z.1⟩
instance {K : PySem.W.Frag} {a o} : Dup (fzn (K := K) a o) := ⟨fun z => z.1⟩
instance {K : PySem.W.Frag} {α : Type} {f : α → As K} [h : ∀ x, Dup (f x)] : Dup (ex f) := ⟨fun ⟨x, z⟩ => (h x).no z⟩
end Ls
-- own part: U5
open PySem PySem.Spec PyProof.Rows L2
namespace Ls
end Ls
open Ls
namespace Ls
open PySem PySem.Spec PyProof.Rows L2
/-! ### xs[::k] -/
theorem vals_at {xs : List V} {us : List Value} (r : Vals xs us) : ∀ i : Nat, (xs[i]? = none ∧ us[i]? = none) ∨ ∃ x u, xs[i]? = some x ∧ us[i]? = some u ∧ RelV x u := by
  unfold Vals at r
  induction r with
  | nil => intro i; exact .inl ⟨rfl, rfl⟩
  | cons h _ ih =>
    intro i
    cases i with
    | zero => exact .inr ⟨_, _, rfl, rfl, h⟩
    | succ i => exact ih i
theorem vals_pick {xs : List V} {us : List Value} (r : Vals xs us) : ∀ idx : List Nat, Vals (idx.filterMap (xs[·]?)) (idx.filterMap (us[·]?))
  | [] => .nil
  | i :: idx => by
    rcases vals_at r i with ⟨h1, h2⟩ | ⟨x, u, h1, h2, h3⟩
    · rw [List.filterMap_cons_none h1, List.filterMap_cons_none h2]
      exact vals_pick r idx
    · rw [List.filterMap_cons_some h1, List.filterMap_cons_some h2]
      exact .cons h3 (vals_pick r idx)
def stepV (xs : List V) (k : Int) : List V := (sliceRange 0 (xs.length : Int) k).filterMap (xs[·]?)
theorem stepV_mem {xs : List V} {k : Int} {v : V} (h : v ∈ stepV xs k) : v ∈ xs := by
  obtain ⟨i, _, e⟩ := List.mem_filterMap.mp h
  exact List.mem_of_getElem? e
theorem stepV_len {xs : List V} {k : Int} (hk : 0 < k) : (stepV xs k).length ≤ xs.length :=
  Nat.le_trans (List.length_filterMap_le ..) (sliceRange_length_le _ _ _ _ (fun _ => ⟨Int.le_refl _, Int.le_refl _⟩) fun h => absurd hk h)
def tStepL (K : PySem.W.Frag) (te : TE) (k : Int) : TE := fun σ H Q => te σ H fun x H1 => ∃ a xs, x = .ref a ∧ SqL K H1 a xs ∧ ∀ p, H1 p = none → Q (.ref p) (upd H1 p (.lst (stepV xs k)))
theorem step_bounds (k : Int) (hk : 0 < k) (n : Nat) : sliceBounds none none (some k) n = (0, (n : Int), k) := by
  unfold sliceBounds
  have h : ¬ k < 0 := by omega
  simp [h]
  exact ⟨fun z => by omega, hk⟩
theorem pe_stepL {X : Cx} {e : Expr} {te : TE} {k : Int} {j : Nat} {p1 p3 pos : Pos} (K : PySem.W.Frag) (hK : X.K = K) (hk : 0 < k) (he : PE X e te) : PE X (.Subscript e (.Slice none none (some (.Constant (.int k) j p1)) p3) pos) (tStepL K te k) := by
  subst hK
  refine ⟨fun pins s σ H Q I h => ?_⟩
  refine Subscript_ (thn (he.run pins s σ H _ I h) fun v s1 ⟨x, H1, I1, r1, q1⟩ => ?_)
  obtain ⟨a, xs, ex, hx, q⟩ := q1
  subst ex
  cases r1
  have hst : PO X (some (.Constant (.int k) j p1)) (tPart (tC (.int k))) := po_some pe_int
  refine wpAny_Slice (thn (po_none.run pins s1 σ H1 (fun o H2 => o = none ∧ H2 = H1) I1 ⟨rfl, rfl⟩) fun vl s2 ⟨l, H2, I2, pl, el, e2⟩ => ?_)
  subst el e2
  refine thn (po_none.run pins s2 σ H2 (fun o H3 => o = none ∧ H3 = H2) I2 ⟨rfl, rfl⟩) fun vu s3 ⟨u, H3, I3, pu, eu, e3⟩ => ?_
  subst eu e3
  refine thn (hst.run pins s3 σ H3 (fun o H4 => o = some k ∧ H4 = H3) I3 ⟨k, rfl, rfl, rfl⟩) fun vs s4 ⟨o, H4, I4, ps, eo, e4⟩ => ?_
  subst eo e4
  have I5 : Inv X pins σ H4 { s4 with heap := s4.heap.push { cls := .type "slice", data := .fields #[vl, vu, vs] } } := I4.kept (t' := s4.toks) fun b ob q => Heap.get?_push_of_some _ q
  obtain ⟨its, r, ht, hz⟩ := I5.list hx
  have hlen := r.length
  refine tail_any (ops := [.ref a, .ref s4.heap.objs.size]) ht.isList.typeIs (PySem.slot_list_getitem.lookup) ?_ (by with_unfolding_all rfl)
  refine wpAny_getItem_list_slice ht.isList (Heap.IsSliceOf.new _ vl vu vs) pl pu ps (by intro z; cases z; omega) ?_ (by rw [List.size_toArray]; omega)
  have ep : slicePick its.toArray none none (some k) = ((sliceRange 0 (xs.length : Int) k).filterMap (its[·]?)).toArray := by
    unfold slicePick
    rw [step_bounds k hk, List.size_toArray, ← hlen]
    simp
  rw [ep]
  refine ⟨.ref _, _, I5.laid (t' := s4.toks) (o := .lst (stepV xs k)) (fun b ob q => Heap.get?_push_of_some _ q) (Nat.le_refl _) ?_, rfl, q _ (I5.hok.fresh (Nat.le_refl _))⟩
  exact ⟨Nat.le_trans (stepV_len hk) hz, _, 0, vals_pick r _, Heap.get?_push_size _ rfl⟩
theorem kLS {X : Cx} {e : Expr} {ta : TE} (K : PySem.W.Frag) (hK : X.K = K) (h : PE X e (RZ.tLenSetI X.K ta)) : PE X e (RZ.tLenSetI K ta) := hK ▸ h
section
variable {K : PySem.W.Frag} {σ : L2.St} {H : Hp} {Q : VK} {te : TE} {k : Int}
theorem k_step (h : te σ H fun x H1 => ∃ a xs, x = .ref a ∧ SqL K H1 a xs ∧ ∀ p, H1 p = none → Q (.ref p) (upd H1 p (.lst (stepV xs k)))) : tStepL K te k σ H Q := h
theorem k_lenset (h : te σ H fun x H1 => ∃ (l : Addr) (ns : List Int), x = V.ref l ∧ SqL K H1 l (ns.map V.int) ∧ ns.Nodup ∧ ns.length ≤ 4000 ∧ Q (.int ns.length) H1) : RZ.tLenSetI K te σ H Q := h
end
/-! ### the ways of an expression joined -/
def tJ (te : TE) : TE := fun σ H Q => ∃ M : VK, te σ H M ∧ ∀ v H', M v H' → Q v H'
theorem pe_join {X : Cx} {e : Expr} {te : TE} (h : PE X e te) : PE X e (tJ te) := by
  refine ⟨fun pins s σ H Q I ⟨M, hm, k⟩ => ?_⟩
  exact thn (h.run pins s σ H M I hm) fun v s1 ⟨x, H1, I1, r1, q1⟩ => ⟨x, H1, I1, r1, k _ _ q1⟩
theorem k_join {te : TE} {σ : L2.St} {H : Hp} {Q : VK} (M : VK) (h : te σ H M) (k : ∀ v H', M v H' → Q v H') : tJ te σ H Q := ⟨M, h, k⟩
theorem k_nojoin {te : TE} {σ : L2.St} {H : Hp} {Q : VK} (h : te σ H Q) : tJ te σ H Q := ⟨Q, h, fun _ _ h => h⟩
/-! ### comprehensions that just make a value of each item -/
theorem lc_mapL {K : PySem.W.Frag} {a : Addr} {xs : List V} {g : TG} {te : TE} {vs : List Nat} {σ : L2.St} {H : Hp} {D : Addr} {Qd : Hp → Prop} (vf : Nat → V) (hx : SqL K H a xs) (hl : xs.length ≤ 1000000) (hD : H D = none)
    (hs : ∀ i x H' (N : VK), xs[i]? = some x → Same H H' → (∀ H'', Same H' H'' → N (vf i) H'') → g x (wipe σ vs) H' fun σ2 H2 => wipe σ2 vs = wipe σ vs ∧ te σ2 H2 N) (hd : ∀ H', Same H H' → H' D = some (.lst ((List.range xs.length).map vf)) → Qd H') :
    ∃ W : Nat → Nat → Hp → Prop, (∃ m, W 0 m (upd H D (.lst []))) ∧ ∀ i m H, W i m H →
      ((Itl K a).stop i H ∧ Qd H) ∨ ((Itl K a).go i H ∧ ∃ Nx : Hp → Prop, (∀ H', Nx H' → ∃ m', m' < m ∧ W (i + 1) m' H') ∧ ∀ x H', (Itl K a).yld i H x H' → g x (wipe σ vs) H' fun σ2 H2 => wipe σ2 vs = wipe σ vs ∧ tYes σ2 H2 fun b H3 =>
        if b = true then te σ2 H3 fun y H4 => ∃ acc, H4 D = some (.lst acc) ∧ acc.length < sizeLine ∧ Nx (upd H4 D (.lst (acc ++ [y]))) else Nx H3) := by
  refine lc_list (xs := xs) (fun i H' => Same H H' ∧ H' D = some (.lst ((List.range i).map vf))) ⟨same_new hD, upd_same⟩ (fun i H' _ hP => hP.1.seq hx) (fun i x H' hi hP => ?_) (fun H' hP => hd H' hP.1 hP.2)
  have hlt : i < xs.length := (List.getElem?_eq_some_iff.mp hi).1
  refine hs i x H' _ hi hP.1 fun H'' s => ?_
  refine ⟨_, s _ _ hP.2, ?_, Same.wr (hP.1.trans s) hD, ?_⟩
  · rw [List.length_map, List.length_range, sizeLine_eq]
    omega
  · rw [upd_same, List.range_succ, List.map_append]
    rfl
theorem lc_mapR {lo : Int} {n : Nat} {g : TG} {te : TE} {vs : List Nat} {σ : L2.St} {H : Hp} {D : Addr} {Qd : Hp → Prop} (vf : Nat → V) (hl : n ≤ 1000000) (hD : H D = none)
    (hs : ∀ i H' (N : VK), i < n → Same H H' → (∀ H'', Same H' H'' → N (vf i) H'') → g (.int (lo + i)) (wipe σ vs) H' fun σ2 H2 => wipe σ2 vs = wipe σ vs ∧ te σ2 H2 N) (hd : ∀ H', Same H H' → H' D = some (.lst ((List.range n).map vf)) → Qd H') :
    ∃ W : Nat → Nat → Hp → Prop, (∃ m, W 0 m (upd H D (.lst []))) ∧ ∀ i m H, W i m H →
      ((Itr lo n).stop i H ∧ Qd H) ∨ ((Itr lo n).go i H ∧ ∃ Nx : Hp → Prop, (∀ H', Nx H' → ∃ m', m' < m ∧ W (i + 1) m' H') ∧ ∀ x H', (Itr lo n).yld i H x H' → g x (wipe σ vs) H' fun σ2 H2 => wipe σ2 vs = wipe σ vs ∧ tYes σ2 H2 fun b H3 =>
        if b = true then te σ2 H3 fun y H4 => ∃ acc, H4 D = some (.lst acc) ∧ acc.length < sizeLine ∧ Nx (upd H4 D (.lst (acc ++ [y]))) else Nx H3) := by
  refine lc_range (fun i H' => Same H H' ∧ H' D = some (.lst ((List.range i).map vf))) ⟨same_new hD, upd_same⟩ (fun i H' hi hP => ?_) (fun H' hP => hd H' hP.1 hP.2)
  refine hs i H' _ hi hP.1 fun H'' s => ?_
  refine ⟨_, s _ _ hP.2, ?_, Same.wr (hP.1.trans s) hD, ?_⟩
  · rw [List.length_map, List.length_range, sizeLine_eq]
    omega
  · rw [upd_same, List.range_succ, List.map_append]
    rfl
theorem range_map_get {α β : Type} (xs : List α) (f : α → β) (d : β) : (List.range xs.length).map (fun i => (xs[i]?.map f).getD d) = xs.map f := by
  apply List.ext_getElem
  · rw [List.length_map, List.length_range, List.length_map]
  · intro i h1 h2
    rw [List.length_map] at h2
    rw [List.getElem_map, List.getElem_range, List.getElem_map, List.getElem?_eq_getElem h2]
    rfl
end Ls
-- own part: S2
namespace Ls
open PySem PySem.Spec PyProof.Rows L2
/-! ### data that stands -/
section
variable {K : PySem.W.Frag}
/-- a list of data that never change, one's own -/
def ld (a : Addr) (ds : List PyData) : As K := ⟨fun _ s H => (∀ b, s b ↔ b = a) ∧ ∃ xs, H a = some (.lst xs) ∧ ImAll K H xs ds, fun ⟨e, xs, h, g⟩ k t => ⟨e, xs, (k a ((e a).mpr rfl)).trans h, g.mono t.1⟩, fun ⟨e, xs, h, _⟩ b z => by
  obtain rfl := (e b).mp z
  exact ⟨_, h, rfl⟩, fun h _ => h⟩
/-- a value's data, by what stands -/
inductive Dat (L : List (As K)) : V → PyData → Prop
  | non : Dat L .non .none
  | bl (b : Bool) : Dat L (.bl b) (.bool b)
  | int (i : Int) : Dat L (.int i) (.int i)
  | str (x : Str) : Dat L (.str x) (.str x)
  | im {v : V} {d : PyData} : im v d ∈ L → Dat L v d
inductive DatAll (L : List (As K)) : List V → List PyData → Prop
  | nil : DatAll L [] []
  | cons {v : V} {d : PyData} {vs : List V} {ds : List PyData} : Dat L v d → DatAll L vs ds → DatAll L (v :: vs) (d :: ds)
  | ims {vs : List V} {ds : List PyData} : Ls.ims vs ds ∈ L → DatAll L vs ds
/-- .. lists too -/
inductive Dl (L : List (As K)) : V → PyData → Prop
  | dat {v : V} {d : PyData} : Dat L v d → Dl L v d
  | ld {a : Addr} {ds : List PyData} : ld a ds ∈ L → Dl L (.ref a) (.list ds)
variable {A B : As K} {L L' M N : List (As K)} {H H' : Hp} {a p l : Addr} {o u : HO} {v x y : V} {d e : PyData} {vs xs ys : List V} {ds es : List PyData} {Q : VK} {σ : L2.St} {i j : Int}
theorem Dat.is (h : Sep L H) (t : Dat L v d) : Im K H v d := by
  cases t with
  | non => exact .non
  | bl b => exact .bl b
  | int i => exact .int i
  | str x => exact .str x
  | im m => exact h.imm m
theorem DatAll.is (h : Sep L H) : ∀ {vs : List V} {ds : List PyData}, DatAll L vs ds → ImAll K H vs ds
  | _, _, .nil => .nil
  | _, _, .cons a b => .cons (a.is h) (b.is h)
  | _, _, .ims m => h.imsm m
theorem Sep.ldm (h : Sep L H) (m : ld a ds ∈ L) : ∃ xs, H a = some (.lst xs) ∧ ImAll K H xs ds := by
  obtain ⟨W, s, ⟨_, h1⟩, _⟩ := h.the m
  exact h1
theorem Dl.is (h : Sep L H) (t : Dl L v d) : Dp K H v d := by
  cases t with
  | dat t => exact (t.is h).dp
  | ld m =>
    obtain ⟨xs, h1, h2⟩ := h.ldm m
    exact .lst (sql_of h1) h2.dp
theorem Sep.newD (h : Sep L H) (hp : H p = none) (t : DatAll L xs ds) : Sep (ld p ds :: L) (upd H p (.lst xs)) := by
  obtain ⟨W, s, f, s1, s2, d, u, ⟨e1, e2, _⟩, h2⟩ := h.new (o := .lst xs) hp rfl
  exact ⟨W, s, f, s1, s2, d, u, ⟨e1, xs, e2, (t.is h).mono (Tp.new hp)⟩, h2⟩
theorem Sep.newI (h : Sep L H) (hp : H p = none) (t : DatAll L xs ds) : Sep (im (.ref p) (.tuple ds) :: L) (upd H p (.tup xs)) :=
  Sep.im_iff.mpr ⟨.tup (sqt_of upd_same) ((t.is h).mono (Tp.new hp)), h.same (same_new hp)⟩
theorem Sep.ld_iff : Sep (ld a ds :: L) H ↔ ∃ xs, Sep (ob a (.lst xs) :: ims xs ds :: L) H := by
  constructor
  · intro h
    obtain ⟨W, s, r, ⟨e, xs, h1, h2⟩, d, al, k⟩ := h.hd
    refine ⟨xs, ?_⟩
    have z := k (B := ob a (.lst xs)) (s' := s) (H' := H) ⟨e, h1, rfl⟩ d (fun _ _ => rfl) Tq.refl
    exact (Sep.ims_iff.mpr ⟨h2, z⟩).perm (.swap _ _ _)
  · rintro ⟨xs, h⟩
    obtain ⟨h2, h⟩ := Sep.ims_iff.mp (h.perm (.swap _ _ _))
    obtain ⟨W, s, r, ⟨e, h1, _⟩, d, al, k⟩ := h.hd
    exact k (s' := s) ⟨e, xs, h1, h2⟩ d (fun _ _ => rfl) Tq.refl
theorem Sep.setD (h : Sep (ld a ds :: L) H) (t : ImAll K H xs es) : Sep (ld a es :: L) (upd H a (.lst xs)) := by
  obtain ⟨W, s, r, ⟨e, ys, h1, h2⟩, d, _, k⟩ := h.hd
  have tp : Tq K H (upd H a (.lst xs)) := tp_upd h1 rfl
  exact k (s' := s) ⟨e, xs, upd_same, t.mono tp.1⟩ d (fun b z => upd_ne fun y => d b ((e b).mpr y) z) tp
theorem Sep.setDR (h : Sep L H) (r : Rep L (ld a ds) (ld a es) M) (t : ImAll K H xs es) : Sep M (upd H a (.lst xs)) := by
  obtain ⟨N, h1, h2⟩ := Sep.rep r
  exact h2 _ ((h1 _ h).setD t)
theorem Rep.mem (r : Rep L A B M) : A ∈ L := by
  induction r with
  | here => exact List.mem_cons_self
  | there _ ih => exact List.mem_cons_of_mem _ ih
/-! what stands, weaker -/
def Sub (N L : List (As K)) : Prop := ∀ (W : Fz) (s : Addr → Prop) (H : Hp), FzOk W s H → Hld W N s H → ∃ s' : Addr → Prop, (∀ a, s' a → s a) ∧ Hld W L s' H
theorem Sub.ok (s : Sub N L) (h : Sep N H) : Sep L H := by
  obtain ⟨W, q, f, h⟩ := h
  obtain ⟨q', e, z⟩ := s W q H f h
  exact ⟨W, q', f.less e, z⟩
theorem Sub.refl : Sub L L := fun W s _ _ h => ⟨s, fun _ z => z, h⟩
theorem Sub.drop (z : Sub N L) : Sub (A :: N) L := fun W s H f ⟨s1, s2, d, u, _, h⟩ => by
  obtain ⟨q, e, k⟩ := z W s2 H (f.less fun a y => (u a).mpr (.inr y)) h
  exact ⟨q, fun a y => (u a).mpr (.inr (e a y)), k⟩
theorem Sub.nil : Sub N ([] : List (As K)) := fun _ _ _ _ _ => ⟨fun _ => False, fun _ z => z.elim, fun _ z => z⟩
theorem Sub.cons (z : Sub N L) : Sub (A :: N) (A :: L) := fun W s H f ⟨s1, s2, d, u, h1, h⟩ => by
  obtain ⟨q, e, k⟩ := z W s2 H (f.less fun a y => (u a).mpr (.inr y)) h
  exact ⟨fun a => s1 a ∨ q a, fun a y => (u a).mpr (y.imp id (e a)), s1, q, fun a x y => d a x (e a y), fun a => Iff.rfl, h1, k⟩
theorem Sub.trans (z : Sub N M) (y : Sub M L) : Sub N L := fun W s H f h => by
  obtain ⟨q, e, k⟩ := z W s H f h
  obtain ⟨q2, e2, k2⟩ := y W q H (f.less e) k
  exact ⟨q2, fun a w => e a (e2 a w), k2⟩
theorem Sub.perm (p : N.Perm M) : Sub N M := fun W s H _ h => ⟨s, fun _ z => z, h.perm p⟩
theorem Sub.rem (r : Rem N A M) (z : Sub M L) : Sub N (A :: L) := (Sub.perm r.perm).trans z.cons
/-- told once more -/
theorem Sub.dup [i : Dup A] (m : A ∈ N) (z : Sub N L) : Sub N (A :: L) := fun W s H f h => by
  obtain ⟨M, hM⟩ := Rem.of_mem m
  obtain ⟨s1, s2, d, u, h1, h2⟩ := h.perm hM.perm
  obtain ⟨q, e, k⟩ := z W s H f h
  exact ⟨q, e, s1, q, fun a x _ => (i.no h1 a x).elim, fun a => ⟨.inr, fun y => y.elim (fun x => (i.no h1 a x).elim) id⟩, h1, k⟩
/-- one of them as something weaker -/
theorem Sub.weak {A B : As K} (w : ∀ (W : Fz) (s : Addr → Prop) (H : Hp), FzOk W s H → A.ok W s H → B.ok W s H) (z : Sub N L) : Sub (A :: N) (B :: L) := fun W s H f ⟨s1, s2, d, u, h1, h⟩ => by
  obtain ⟨q, e, k⟩ := z W s2 H (f.less fun a y => (u a).mpr (.inr y)) h
  exact ⟨fun a => s1 a ∨ q a, fun a y => (u a).mpr (y.imp id (e a)), s1, q, fun a x y => d a x (e a y), fun a => Iff.rfl, w _ _ _ (f.less fun a y => (u a).mpr (.inl y)) h1, k⟩
theorem Sub.all : Sub (Ls.all L :: M) N ↔ Sub (L ++ M) N := by
  constructor
  · intro z W s H f h
    obtain ⟨s1, s2, d, u, h1, h2⟩ := Hld.app.mp h
    exact z W s H f ⟨s1, s2, d, u, h1, h2⟩
  · intro z W s H f h
    obtain ⟨s1, s2, d, u, h1, h2⟩ := h
    exact z W s H f (Hld.app.mpr ⟨s1, s2, d, u, h1, h2⟩)
theorem Sub.toAll (z : Sub N (L ++ M)) : Sub N (Ls.all L :: M) := fun W s H f h => by
  obtain ⟨q, e, k⟩ := z W s H f h
  obtain ⟨s1, s2, d, u, h1, h2⟩ := Hld.app.mp k
  exact ⟨q, e, s1, s2, d, u, h1, h2⟩
theorem Sub.toEx {α : Type} {f : α → As K} (x : α) (z : Sub N (f x :: L)) : Sub N (Ls.ex f :: L) := fun W s H g h => by
  obtain ⟨q, e, s1, s2, d, u, h1, h2⟩ := z W s H g h
  exact ⟨q, e, s1, s2, d, u, ⟨x, h1⟩, h2⟩
/-! ### displays -/
theorem k_tupS (h : Sep L H) (t : DatAll L xs ds) (q : ∀ p H', Sep (im (.ref p) (.tuple ds) :: L) H' → Q (.ref p) H') : ∀ p, H p = none → Q (.ref p) (upd H p (.tup xs)) := fun p hp => q p _ (h.newI hp t)
theorem k_tupV (h : Sep L H) (q : ∀ p H', Sep (tu p xs :: L) H' → Q (.ref p) H') : ∀ p, H p = none → Q (.ref p) (upd H p (.tup xs)) := fun p hp => q p _ (h.newT hp)
theorem k_lstS (h : Sep L H) (t : DatAll L xs ds) (q : ∀ p H', Sep (ld p ds :: L) H' → Q (.ref p) H') : ∀ p, H p = none → Q (.ref p) (upd H p (.lst xs)) := fun p hp => q p _ (h.newD hp t)
theorem k_lstV (h : Sep L H) (q : ∀ p H', Sep (ob p (.lst xs) :: L) H' → Q (.ref p) H') : ∀ p, H p = none → Q (.ref p) (upd H p (.lst xs)) := fun p hp => q p _ (h.new hp rfl)
/-! ### parts of data -/
def Gv : PyData → (V → List (As K) → Prop) → Prop
  | .none, q => q .non []
  | .bool b, q => q (.bl b) []
  | .int i, q => q (.int i) []
  | .str x, q => q (.str x) []
  | .tuple ds, q => ∀ a, q (.ref a) [im (.ref a) (.tuple ds)]
  | d, q => ∀ v, q v [im v d]
def GvAll : List PyData → (List V → List (As K) → Prop) → Prop
  | [], q => q [] []
  | d :: ds, q => Gv d fun v M => GvAll ds fun vs N => q (v :: vs) (M ++ N)
theorem Gv.go {R : V → Prop} (m : Im K H v d) (h : Sep L H) (g : Gv (K := K) d fun v M => Sep (M ++ L) H → R v) : R v := by
  cases m with
  | non => exact g h
  | bl b => exact g h
  | int i => exact g h
  | str x => exact g h
  | tup h1 h2 => exact g _ (Sep.im_iff.mpr ⟨.tup h1 h2, h⟩)
theorem Gv.mono {q q' : V → List (As K) → Prop} (g : Gv d q) (k : ∀ v M, q v M → q' v M) : Gv d q' := by
  cases d <;> first | exact k _ _ g | exact fun v => k _ _ (g v)
theorem GvAll.go : ∀ {L : List (As K)} {ds : List PyData} {vs : List V} {q : List V → List (As K) → Prop}, ImAll K H vs ds → Sep L H → GvAll ds q → ∃ M, q vs M ∧ Sep (M ++ L) H
  | L, [], _, q, .nil, h, g => ⟨[], g, h⟩
  | L, d :: ds, _, q, .cons (v := v) a b, h, g => by
    have g' : Gv (K := K) d fun v M => GvAll ds fun vs N => q (v :: vs) (M ++ N) := g
    refine Gv.go (R := fun v => ∃ M, q (v :: _) M ∧ Sep (M ++ L) H) a h (g'.mono fun v M g2 hM => ?_)
    obtain ⟨N, h3, h4⟩ := GvAll.go (L := M ++ L) b hM g2
    refine ⟨M ++ N, h3, h4.perm ?_⟩
    rw [← List.append_assoc]
    exact List.perm_append_comm.append_right L
theorem im_ref (m : Im K H (.ref a) d) : ∃ ds xs, d = .tuple ds ∧ SqT K H a xs ∧ ImAll K H xs ds := by
  cases m with
  | tup h1 h2 => exact ⟨_, _, rfl, h1, h2⟩
theorem k_gtupS {n : Nat} {tg : TGs} {R : L2.St → Hp → Prop} (h : Sep L H) (m : im (.ref a) (.tuple ds) ∈ L) (hn : ds.length = n) (q : GvAll (K := K) ds fun vs M => Sep (M ++ L) H → tg vs σ H R) : gTup K n tg (.ref a) σ H R := by
  obtain ⟨a', xs, e, h1, h2⟩ := im_tup (h.imm m)
  cases e
  obtain ⟨M, h3, h4⟩ := q.go h2 h
  exact k_gtup h1 (h2.length.trans hn) (h3 h4)
theorem k_gtupO {n : Nat} {tg : TGs} {R : L2.St → Hp → Prop} (h : Sep L H) (m : tu a xs ∈ L) (hn : xs.length = n) (q : tg xs σ H R) : gTup K n tg (.ref a) σ H R := k_gtup (h.tum m) hn q
theorem atI_all : ∀ {vs : List V} {ds : List PyData} {i : Int}, ImAll K H vs ds → atI ds i = some d → ∃ v, atI vs i = some v ∧ Im K H v d := fun {vs ds i} h e => by
  unfold atI at e ⊢
  rw [h.length]
  cases q : ixN ds.length i with
  | none =>
    rw [q] at e
    cases e
  | some j =>
    rw [q] at e
    exact h.getD e
theorem k_ixS' (h : Sep L H) (m : im (.ref a) (.tuple ds) ∈ L) (e : atI ds i = some d) (q : Gv (K := K) d fun v M => Sep (M ++ L) H → Q v H) : rIx K (.ref a) (.int i) H Q := by
  obtain ⟨a', xs, e', h1, h2⟩ := im_tup (h.imm m)
  cases e'
  obtain ⟨v, hv, hd⟩ := atI_all h2 e
  exact k_ixT h1 hv (Gv.go hd h q)
end
end Ls
-- own part: S3
namespace Ls
open PySem PySem.Spec PyProof.Rows L2
section
variable {K : PySem.W.Frag} {A B : As K} {L L' M N : List (As K)} {H H' : Hp} {a p l : Addr} {o u : HO} {v x y : V} {d e : PyData} {vs xs ys : List V} {ds es : List PyData} {Q : VK} {σ : L2.St} {i j : Int} {n : Nat} {b : Bool}
/-! ### readings by what stands -/
theorem k_lenD (h : Sep L H) (m : ld a ds ∈ L) (q : Q (.int ds.length) H) : rLenU K [.ref a] H Q := by
  obtain ⟨xs, h1, h2⟩ := h.ldm m
  exact k_lenL (sql_of h1) (by rw [h2.length]; exact q)
theorem k_lenO (h : Sep L H) (m : ob a (.lst xs) ∈ L) (q : Q (.int xs.length) H) : rLenU K [.ref a] H Q := k_lenL (sql_of (h.obm m)) q
theorem k_lenI (h : Sep L H) (m : im (.ref a) (.tuple ds) ∈ L) (q : Q (.int ds.length) H) : rLenU K [.ref a] H Q := by
  obtain ⟨a', xs, e, h1, h2⟩ := im_tup (h.imm m)
  cases e
  exact k_lenT h1 (by rw [h2.length]; exact q)
theorem k_lenK (h : Sep L H) {kvs : List (Key × V)} (m : ob a (.dK kvs) ∈ L) (q : Q (.int kvs.length) H) : rLenU K [.ref a] H Q := .inr (.inr ⟨a, kvs, rfl, h.obm m, q⟩)
theorem k_ixD (h : Sep L H) (m : ld a ds ∈ L) (e : atI ds i = some d) (q : Gv (K := K) d fun v M => Sep (M ++ L) H → Q v H) : rIx K (.ref a) (.int i) H Q := by
  obtain ⟨xs, h1, h2⟩ := h.ldm m
  obtain ⟨v, hv, hd⟩ := atI_all h2 e
  exact k_ixL (sql_of h1) hv (Gv.go hd h q)
theorem k_ixO (h : Sep L H) (m : ob a (.lst xs) ∈ L) (e : atI xs i = some v) (q : Q v H) : rIx K (.ref a) (.int i) H Q := k_ixL (sql_of (h.obm m)) e q
theorem k_ixTu (h : Sep L H) (m : tu a xs ∈ L) (e : atI xs i = some v) (q : Q v H) : rIx K (.ref a) (.int i) H Q := k_ixT (h.tum m) e q
theorem k_tyD {P : Prop} (h : Sep L H) (m : ld a ds ∈ L) (q : P) : tyV K "list" (.ref a) H ∧ P := by
  obtain ⟨xs, h1, h2⟩ := h.ldm m
  exact k_tyL (sql_of h1) q
theorem k_tyO {P : Prop} (h : Sep L H) (m : ob a (.lst xs) ∈ L) (q : P) : tyV K "list" (.ref a) H ∧ P := k_tyL (sql_of (h.obm m)) q
theorem k_appD (h : Sep L H) (r : Rep L (ld a ds) (ld a (ds ++ [d])) M) (t : Dat L x d) (hl : ds.length < sizeLine) (q : ∀ H', Sep M H' → Q .non H') : rAppend (.ref a) [x] H Q := by
  obtain ⟨xs, h1, h2⟩ := h.ldm r.mem
  exact k_app h1 (by rw [h2.length]; exact hl) (q _ (h.setDR r (h2.snoc (t.is h))))
theorem k_appO (h : Sep L H) (r : Rep L (ob a (.lst xs)) (ob a (.lst (xs ++ [x]))) M) (hl : xs.length < sizeLine) (q : ∀ H', Sep M H' → Q .non H') : rAppend (.ref a) [x] H Q :=
  k_app (h.obm r.mem) hl (q _ (h.setR r rfl))
theorem k_eqT {n m : Nat} (h : Sep L H) (t : Dl L x d) (t2 : Dl L y e) (o1 : OkD n d) (o2 : OkD m e) (hn : n ≤ 64) (hm : m ≤ 64) (q : Q (.bl (PyData.eqv d e)) H) : rEqU K x y H Q := k_eqD (t.is h) (t2.is h) (o1.shaped hn) (o2.shaped hm) q
theorem k_neT {n m : Nat} (h : Sep L H) (t : Dl L x d) (t2 : Dl L y e) (o1 : OkD n d) (o2 : OkD m e) (hn : n ≤ 64) (hm : m ≤ 64) (q : Q (.bl (!PyData.eqv d e)) H) : rNeU K x y H Q := k_neD (t.is h) (t2.is h) (o1.shaped hn) (o2.shaped hm) q
theorem eqv_self {n : Nat} (o : OkD n d) : PyData.eqv d d = true := SeqAt.eqv_refl _ o.lay.1
/-! ### loops and comprehensions by what stands -/
structure Wk (J : It) (L : List (As K)) (n : Nat) (Y : Nat → (V → List (As K) → Prop) → Prop) : Prop where
  go : ∀ i H, i < n → Sep L H → J.go i H
  yl : ∀ i H x H' (R : V → Hp → Prop), i < n → Sep L H → J.yld i H x H' → Y i (fun v M => ∀ H2, Sep (M ++ L) H2 → R v H2) → R x H'
  st : ∀ H, Sep L H → J.stop n H
theorem wk_ld (m : ld a ds ∈ L) : Wk (Itl K a) L ds.length fun i q => ∀ d, ds[i]? = some d → Gv d q where
  go := fun i H hi h => by
    obtain ⟨xs, h1, h2⟩ := h.ldm m
    have hx : i < xs.length := by rw [h2.length]; exact hi
    exact ⟨xs, xs[i], sql_of h1, List.getElem?_eq_getElem hx⟩
  yl := fun i H x H' R hi h ⟨e, y⟩ q => by
    subst e
    obtain ⟨xs, h1, h2⟩ := h.ldm m
    obtain ⟨d, hd, hm⟩ := h2.get (y xs (sql_of h1))
    exact Gv.go hm h ((q d hd).mono fun v M g hM => g _ hM)
  st := fun H h => by
    obtain ⟨xs, h1, h2⟩ := h.ldm m
    exact ⟨xs, sql_of h1, by rw [h2.length]; exact Nat.le_refl _⟩
theorem Wk.mono {J : It} {Y Y' : Nat → (V → List (As K) → Prop) → Prop} (w : Wk J L n Y) (k : ∀ i q, i < n → Y' i q → Y i q) : Wk J L n Y' := ⟨w.go, fun i H x H' R hi h y q => w.yl i H x H' R hi h y (k i _ hi q), w.st⟩
theorem wk_ldm {α : Type} {zs : List α} {f : α → PyData} (m : ld a (zs.map f) ∈ L) : Wk (Itl K a) L zs.length fun i q => ∀ z, zs[i]? = some z → Gv (f z) q := by
  have w := wk_ld m
  rw [List.length_map] at w
  refine w.mono fun i q hi k d hd => ?_
  rw [List.getElem?_map] at hd
  obtain ⟨z, hz, rfl⟩ := Option.map_eq_some_iff.mp hd
  exact k z hz
theorem wk_ob (m : ob a (.lst xs) ∈ L) : Wk (Itl K a) L xs.length fun i q => ∀ v, xs[i]? = some v → q v [] where
  go := fun i H hi h => ⟨xs, xs[i], sql_of (h.obm m), List.getElem?_eq_getElem hi⟩
  yl := fun i H x H' R hi h ⟨e, y⟩ q => by
    subst e
    exact q x (y xs (sql_of (h.obm m))) _ h
  st := fun H h => ⟨xs, sql_of (h.obm m), Nat.le_refl _⟩
theorem wk_sql (m : ∀ H, Sep L H → SqL K H a xs) : Wk (Itl K a) L xs.length fun i q => ∀ v, xs[i]? = some v → q v [] where
  go := fun i H hi h => ⟨xs, xs[i], m _ h, List.getElem?_eq_getElem hi⟩
  yl := fun i H x H' R hi h ⟨e, y⟩ q => by
    subst e
    exact q x (y xs (m _ h)) _ h
  st := fun H h => ⟨xs, m _ h, Nat.le_refl _⟩
theorem wk_tu (m : tu a xs ∈ L) : Wk (Itt K a) L xs.length fun i q => ∀ v, xs[i]? = some v → q v [] where
  go := fun i H hi h => ⟨xs, xs[i], h.tum m, List.getElem?_eq_getElem hi⟩
  yl := fun i H x H' R hi h ⟨e, y⟩ q => by
    subst e
    exact q x (y xs (h.tum m)) _ h
  st := fun H h => ⟨xs, h.tum m, Nat.le_refl _⟩
theorem wk_im (m : im (.ref a) (.tuple ds) ∈ L) : Wk (Itt K a) L ds.length fun i q => ∀ d, ds[i]? = some d → Gv d q where
  go := fun i H hi h => by
    obtain ⟨a', xs, e, h1, h2⟩ := im_tup (h.imm m)
    cases e
    have hx : i < xs.length := by rw [h2.length]; exact hi
    exact ⟨xs, xs[i], h1, List.getElem?_eq_getElem hx⟩
  yl := fun i H x H' R hi h ⟨e, y⟩ q => by
    subst e
    obtain ⟨a', xs, e, h1, h2⟩ := im_tup (h.imm m)
    cases e
    obtain ⟨d, hd, hm⟩ := h2.get (y xs h1)
    exact Gv.go hm h ((q d hd).mono fun v M g hM => g _ hM)
  st := fun H h => by
    obtain ⟨a', xs, e, h1, h2⟩ := im_tup (h.imm m)
    cases e
    exact ⟨xs, h1, by rw [h2.length]; exact Nat.le_refl _⟩
theorem wk_imm {α : Type} {zs : List α} {f : α → PyData} (m : im (.ref a) (.tuple (zs.map f)) ∈ L) : Wk (Itt K a) L zs.length fun i q => ∀ z, zs[i]? = some z → Gv (f z) q := by
  have w := wk_im m
  rw [List.length_map] at w
  refine w.mono fun i q hi k d hd => ?_
  rw [List.getElem?_map] at hd
  obtain ⟨z, hz, rfl⟩ := Option.map_eq_some_iff.mp hd
  exact k z hz
theorem wk_rng {lo : Int} : Wk (Itr lo n) L n fun i q => q (.int (lo + i)) [] where
  go := fun i H hi h => hi
  yl := fun i H x H' R hi h ⟨e, y⟩ q => by
    subst e y
    exact q _ h
  st := fun H h => Nat.le_refl _
def Nx (Iv : Nat → L2.St → List (As K) → Prop) (i : Nat) : L2.St → Hp → Prop := fun σ H => ∃ L, Iv i σ L ∧ Sep L H
theorem for_wk {J : It} {Y : Nat → (V → List (As K) → Prop) → Prop} {g : TG} {tb : TS} {D : Ends} (Iv : Nat → L2.St → List (As K) → Prop) (hw : ∀ i σ L, Iv i σ L → Wk J L n Y) (h : Sep L H) (h0 : Iv 0 σ L)
    (hs : ∀ i σ L, i < n → Iv i σ L → Y i fun v M => ∀ H, Sep (M ++ L) H → g v σ H fun σ2 H2 => tb { D with nx := Nx Iv (i + 1), ct := Nx Iv (i + 1), bk := D.nx } σ2 H2) (hd : ∀ σ L H, Iv n σ L → Sep L H → D.nx σ H) :
    ∃ W : Nat → Nat → L2.St → Hp → Prop, (∃ m, W 0 m σ H) ∧ ∀ i m σ H, W i m σ H →
      (J.stop i H ∧ D.nx σ H) ∨ (J.go i H ∧ ∃ N : L2.St → Hp → Prop, (∀ σ' H', N σ' H' → ∃ m', m' < m ∧ W (i + 1) m' σ' H') ∧ ∀ x H', J.yld i H x H' → g x σ H' fun σ2 H2 => tb { D with nx := N, ct := N, bk := D.nx } σ2 H2) := by
  refine ⟨fun i m σ H => m = n - i ∧ i ≤ n ∧ Nx Iv i σ H, ⟨n, by simp, Nat.zero_le _, L, h0, h⟩, ?_⟩
  rintro i m σ H ⟨rfl, hi, L, iv, h⟩
  by_cases hlt : i < n
  · refine .inr ⟨(hw i σ L iv).go i H hlt h, Nx Iv (i + 1), fun σ' H' p => ⟨n - (i + 1), by omega, rfl, hlt, p⟩, fun x H' y => ?_⟩
    exact (hw i σ L iv).yl i H x H' (fun v H2 => g v σ H2 fun σ2 H2 => tb { D with nx := Nx Iv (i + 1), ct := Nx Iv (i + 1), bk := D.nx } σ2 H2) hlt h y (hs i σ L hlt iv)
  · have e : i = n := by omega
    subst e
    exact .inl ⟨(hw i σ L iv).st H h, hd σ L H iv h⟩
def Lx (D : Addr) (Iv : Nat → List PyData → List (As K) → Prop) (i : Nat) : Hp → Prop := fun H => ∃ acc L, Iv i acc L ∧ Sep (ld D acc :: L) H
theorem lc_wk {J : It} {Y : Nat → (V → List (As K) → Prop) → Prop} {g : TG} {tt : TT} {te : TE} {ws : List Nat} {D : Addr} {Qd : Hp → Prop} (Iv : Nat → List PyData → List (As K) → Prop) (hw : ∀ i acc L, Iv i acc L → Wk J (ld D acc :: L) n Y) (h : Sep (ld D [] :: L) H) (h0 : Iv 0 [] L)
    (hs : ∀ i acc L, i < n → Iv i acc L → Y i fun v M => ∀ H, Sep (M ++ ld D acc :: L) H → g v (wipe σ ws) H fun σ2 H2 => wipe σ2 ws = wipe σ ws ∧ tt σ2 H2 fun b H3 =>
      if b = true then te σ2 H3 fun y H4 => ∃ zs, H4 D = some (.lst zs) ∧ zs.length < sizeLine ∧ Lx D Iv (i + 1) (upd H4 D (.lst (zs ++ [y]))) else Lx D Iv (i + 1) H3)
    (hd : ∀ acc L H, Iv n acc L → Sep (ld D acc :: L) H → Qd H) :
    ∃ W : Nat → Nat → Hp → Prop, (∃ m, W 0 m H) ∧ ∀ i m H, W i m H →
      (J.stop i H ∧ Qd H) ∨ (J.go i H ∧ ∃ Nx : Hp → Prop, (∀ H', Nx H' → ∃ m', m' < m ∧ W (i + 1) m' H') ∧ ∀ x H', J.yld i H x H' → g x (wipe σ ws) H' fun σ2 H2 => wipe σ2 ws = wipe σ ws ∧ tt σ2 H2 fun b H3 =>
        if b = true then te σ2 H3 fun y H4 => ∃ acc, H4 D = some (.lst acc) ∧ acc.length < sizeLine ∧ Nx (upd H4 D (.lst (acc ++ [y]))) else Nx H3) := by
  refine ⟨fun i m H => m = n - i ∧ i ≤ n ∧ Lx D Iv i H, ⟨n, by simp, Nat.zero_le _, [], L, h0, h⟩, ?_⟩
  rintro i m H ⟨rfl, hi, acc, L, iv, h⟩
  by_cases hlt : i < n
  · refine .inr ⟨(hw i acc L iv).go i H hlt h, Lx D Iv (i + 1), fun H' p => ⟨n - (i + 1), by omega, rfl, hlt, p⟩, fun x H' y => ?_⟩
    exact (hw i acc L iv).yl i H x H' (fun v H2 => g v (wipe σ ws) H2 fun σ2 H2 => wipe σ2 ws = wipe σ ws ∧ tt σ2 H2 fun b H3 =>
        if b = true then te σ2 H3 fun y H4 => ∃ zs, H4 D = some (.lst zs) ∧ zs.length < sizeLine ∧ Lx D Iv (i + 1) (upd H4 D (.lst (zs ++ [y]))) else Lx D Iv (i + 1) H3) hlt h y (hs i acc L hlt iv)
  · have e : i = n := by omega
    subst e
    exact .inl ⟨(hw i acc L iv).st H h, hd acc L H iv h⟩
/-- a turn's end: the element is kept -/
theorem lc_keep {D : Addr} {Iv : Nat → List PyData → List (As K) → Prop} {i : Nat} {acc : List PyData} (h : Sep N H) (t : Dat N y d) (s : Sub N (ld D acc :: L)) (hl : acc.length < sizeLine) (iv : Iv i (acc ++ [d]) L) : ∃ zs, H D = some (.lst zs) ∧ zs.length < sizeLine ∧ Lx D Iv i (upd H D (.lst (zs ++ [y]))) := by
  have g := s.ok h
  obtain ⟨zs, h1, h2⟩ := g.ldm List.mem_cons_self
  exact ⟨zs, h1, by rw [h2.length]; exact hl, _, _, iv, g.setD (h2.snoc (t.is h))⟩
theorem lc_skip {D : Addr} {Iv : Nat → List PyData → List (As K) → Prop} {i : Nat} {acc : List PyData} (h : Sep N H) (s : Sub N (ld D acc :: L)) (iv : Iv i acc L) : Lx D Iv i H := ⟨_, _, iv, s.ok h⟩
/-- [r z for z in ..], what stands beside unchanged -/
def Fl {α : Type} (zs : List α) (r : α → List PyData) (L : List (As K)) : Nat → List PyData → List (As K) → Prop := fun i acc L' => L' = L ∧ acc = (zs.take i).flatMap r
theorem flat_len {α : Type} (r : α → List PyData) (hr : ∀ z, (r z).length ≤ 1) : ∀ zs : List α, (zs.flatMap r).length ≤ zs.length
  | [] => Nat.le_refl _
  | z :: zs => by
    have := flat_len r hr zs
    have := hr z
    rw [List.flatMap_cons, List.length_append, List.length_cons]
    omega
theorem lc_flat {α : Type} {J : It} {zs : List α} {Z : α → (V → List (As K) → Prop) → Prop} {g : TG} {tt : TT} {te : TE} {ws : List Nat} {D : Addr} {Qd : Hp → Prop} (r : α → List PyData)
    (h : Sep (ld D [] :: L) H) (hw : ∀ acc, Wk J (ld D acc :: L) zs.length fun i q => ∀ z, zs[i]? = some z → Z z q)
    (hs : ∀ i z acc, zs[i]? = some z → (∀ d, r z = [d] → Fl zs r L (i + 1) (acc ++ [d]) L) → (r z = [] → Fl zs r L (i + 1) acc L) → acc.length ≤ i → Z z fun v M => ∀ H, Sep (M ++ ld D acc :: L) H → g v (wipe σ ws) H fun σ2 H2 => wipe σ2 ws = wipe σ ws ∧ tt σ2 H2 fun b H3 =>
      if b = true then te σ2 H3 fun y H4 => ∃ xs, H4 D = some (.lst xs) ∧ xs.length < sizeLine ∧ Lx D (Fl zs r L) (i + 1) (upd H4 D (.lst (xs ++ [y]))) else Lx D (Fl zs r L) (i + 1) H3)
    (hd : ∀ H, Sep (ld D (zs.flatMap r) :: L) H → Qd H) (hr : ∀ z, (r z).length ≤ 1 := by intro _; first | exact Nat.le_refl _ | (split <;> decide)) :
    ∃ W : Nat → Nat → Hp → Prop, (∃ m, W 0 m H) ∧ ∀ i m H, W i m H →
      (J.stop i H ∧ Qd H) ∨ (J.go i H ∧ ∃ Nx : Hp → Prop, (∀ H', Nx H' → ∃ m', m' < m ∧ W (i + 1) m' H') ∧ ∀ x H', J.yld i H x H' → g x (wipe σ ws) H' fun σ2 H2 => wipe σ2 ws = wipe σ ws ∧ tt σ2 H2 fun b H3 =>
        if b = true then te σ2 H3 fun y H4 => ∃ acc, H4 D = some (.lst acc) ∧ acc.length < sizeLine ∧ Nx (upd H4 D (.lst (acc ++ [y]))) else Nx H3) := by
  refine lc_wk (n := zs.length) (Y := fun i q => ∀ z, zs[i]? = some z → Z z q) (Fl zs r L) (fun i acc L' e => e.1 ▸ hw acc) h ⟨rfl, rfl⟩ (fun i acc L' hi e z hz => ?_) (fun acc L' H e h => ?_)
  · obtain ⟨rfl, rfl⟩ := e
    have e1 : zs.take (i + 1) = zs.take i ++ [z] := by rw [List.take_add_one, hz]; rfl
    refine hs i z _ hz (fun d hd => ⟨rfl, ?_⟩) (fun hd => ⟨rfl, ?_⟩) ?_
    · rw [e1, List.flatMap_append, List.flatMap_cons, hd]; rfl
    · rw [e1, List.flatMap_append, List.flatMap_cons, hd, List.flatMap_nil, List.append_nil, List.append_nil]
    · have := flat_len r hr (zs.take i)
      rw [List.length_take] at this
      omega
  · obtain ⟨rfl, rfl⟩ := e
    rw [List.take_length] at h
    exact hd H h
theorem flat_map {α : Type} (f : α → PyData) : ∀ zs : List α, zs.flatMap (fun z => [f z]) = zs.map f
  | [] => rfl
  | z :: zs => by rw [List.flatMap_cons, List.map_cons, flat_map f zs]; rfl
theorem flat_filter {α : Type} (p : α → Bool) (f : α → PyData) : ∀ zs : List α, zs.flatMap (fun z => if p z = true then [f z] else []) = (zs.filter p).map f
  | [] => rfl
  | z :: zs => by
    rw [List.flatMap_cons, flat_filter p f zs]
    cases e : p z with
    | true => rw [if_pos rfl, List.filter_cons_of_pos e, List.map_cons]; rfl
    | false => rw [if_neg Bool.false_ne_true, List.filter_cons_of_neg (by rw [e]; exact Bool.false_ne_true)]; rfl
theorem wk_range {lo : Int} : Wk (Itr lo n) L (List.range n).length fun i q => ∀ z, (List.range n)[i]? = some z → (fun z q => q (V.int (lo + (z : Nat))) ([] : List (As K))) z q := by
  have w := wk_rng (K := K) (L := L) (n := n) (lo := lo)
  rw [List.length_range]
  refine w.mono fun i q hi k => k i ?_
  rw [List.getElem?_range hi]
/-! lists of bools, ints -/
theorem ims_bl {bs : List Bool} (h : ImAll K H xs (bs.map PyData.bool)) : xs = bs.map V.bl := by
  induction bs generalizing xs with
  | nil => cases h; rfl
  | cons b bs ih =>
    cases h with
    | cons a r => cases im_bl a; rw [ih r]; rfl
theorem ims_int {ns : List Int} (h : ImAll K H xs (ns.map PyData.int)) : xs = ns.map V.int := by
  induction ns generalizing xs with
  | nil => cases h; rfl
  | cons b bs ih =>
    cases h with
    | cons a r => cases im_int a; rw [ih r]; rfl
theorem ims_str {ns : List Str} (h : ImAll K H xs (ns.map PyData.str)) : xs = ns.map V.str := by
  induction ns generalizing xs with
  | nil => cases h; rfl
  | cons b bs ih =>
    cases h with
    | cons a r => cases im_str a; rw [ih r]; rfl
theorem Sep.sqi {ns : List Int} (h : Sep L H) (m : ld a (ns.map PyData.int) ∈ L) : SqL K H a (ns.map V.int) := by
  obtain ⟨xs, h1, h2⟩ := h.ldm m
  cases ims_int h2
  exact sql_of h1
theorem k_allS {α : Type} {zs : List α} {f : α → Bool} (h : Sep L H) (m : ld a (zs.map fun z => PyData.bool (f z)) ∈ L) (q : Q (.bl (zs.all f)) H) : rAll K [.ref a] H Q := by
  obtain ⟨xs, h1, h2⟩ := h.ldm m
  have e : (zs.map fun z => PyData.bool (f z)) = (zs.map f).map PyData.bool := by rw [List.map_map]; rfl
  rw [e] at h2
  cases ims_bl h2
  refine k_all (sql_of h1) ?_
  have e2 : ((zs.map f).all id) = zs.all f := by rw [List.all_map]; rfl
  rw [e2]
  exact q
theorem k_anyS {α : Type} {zs : List α} {f : α → Bool} (h : Sep L H) (m : ld a (zs.map fun z => PyData.bool (f z)) ∈ L) (q : Q (.bl (zs.any f)) H) : rAny K [.ref a] H Q := by
  obtain ⟨xs, h1, h2⟩ := h.ldm m
  have e : (zs.map fun z => PyData.bool (f z)) = (zs.map f).map PyData.bool := by rw [List.map_map]; rfl
  rw [e] at h2
  cases ims_bl h2
  refine k_any (sql_of h1) ?_
  have e2 : ((zs.map f).any id) = zs.any f := by rw [List.any_map]; rfl
  rw [e2]
  exact q
end
end Ls
-- own part: S4
namespace Ls
open PySem PySem.Spec PyProof.Rows L2
section
variable {K : PySem.W.Frag} {A B : As K} {L L' M N : List (As K)} {H H' : Hp} {a p l d c : Addr} {o u : HO} {v x y : V} {e : PyData} {vs xs ys : List V} {ds es : List PyData} {Q : VK} {E : XK} {σ : L2.St} {i j : Int} {n : Nat} {b : Bool}
/-- the draws' dict, whatever its state -/
def dr (d : Addr) : As K := ⟨fun _ s H => ∃ c, (∀ b, s b ↔ b = d ∨ b = c) ∧ Draw K H d c, fun ⟨c, e, n, r, s, ns, h1, h2, h3⟩ k _ => ⟨c, e, n, r, s, ns, (k d ((e d).mpr (.inl rfl))).trans h1, (k c ((e c).mpr (.inr rfl))).trans h2, h3⟩, fun ⟨c, e, n, r, s, ns, h1, h2, h3⟩ b z => by
  rcases (e b).mp z with rfl | rfl
  · exact ⟨_, h1, rfl⟩
  · exact ⟨_, h2, rfl⟩, fun h _ => h⟩
theorem Sep.draw (h : Sep L H) (m : dr d ∈ L) : ∃ c, Draw K H d c ∧ ∀ H', Keep d H H' → Draw K H' d c → Sep L H' := by
  obtain ⟨W, s, r, ⟨c, e, D⟩, dj, al, k⟩ := h.at m
  refine ⟨c, D, fun H' kp D' => k ⟨c, e, D'⟩ dj (fun a z => ?_) ⟨D.tp kp, fun a f e2 => kp a _ (D.ne e2 (by intro kvs z; cases z)) e2⟩⟩
  obtain ⟨o, ho, _⟩ := al a z
  rw [ho]
  exact kp a o (fun y => dj a ((e a).mpr (.inl y)) z) ho
theorem Sep.drawNew (h : Sep L H) (hd : H d = none) (hc : H c = none) (s : Same H H') (D : Draw K H' d c) : Sep (dr d :: L) H' := by
  obtain ⟨W, q0, f, z0⟩ := h
  have free : ∀ b, H b = none → ¬ q0 b := fun b hb y => by
    obtain ⟨o, ho, _⟩ := z0.al b y
    rw [hb] at ho
    cases ho
  have fw : ∀ b o, W b o → H b ≠ none := fun b o y e => by
    rw [(f b o y).1] at e
    cases e
  refine ⟨W, fun b => (b = d ∨ b = c) ∨ q0 b, fun b o y => ⟨s _ _ (f b o y).1, (f b o y).2.1, fun z => ?_⟩, fun b => b = d ∨ b = c, q0, fun b x y => ?_, fun b => Iff.rfl, ⟨c, fun b => Iff.rfl, D⟩, z0.st (fun a y => ?_) (Tq.same s)⟩
  · rcases z with (rfl | rfl) | z
    · exact fw _ _ y hd
    · exact fw _ _ y hc
    · exact (f b o y).2.2 z
  · rcases x with rfl | rfl
    · exact free _ hd y
    · exact free _ hc y
  · obtain ⟨o, ho, _⟩ := z0.al a y
    rw [s _ _ ho, ho]
theorem use_pickS {many : Int} (h : Sep L H) (m : dr d ∈ L) (h1 : 0 < many) (h2 : many < 2 ^ 200) (q : ∀ r H', Sep L H' → 0 ≤ r → r < many → Q (.int r) H') : spPick K ([.ref d, .int many] ++ []) H Q E := by
  obtain ⟨c, D, k⟩ := h.draw m
  exact use_pick D h1 h2 fun r H' k1 D1 r0 r1 => q r H' (k H' k1 D1) r0 r1
theorem use_beginS {ns : List Int} (h : Sep L H) (hs : SqL K H a (ns.map V.int)) (hl : ns.length ≤ 63) (q : ∀ d H', Sep (dr d :: L) H' → Q (.ref d) H') : spBegin K ([.ref a] ++ []) H Q E :=
  ⟨a, ns, rfl, hs, hl, fun d c H' hd hc s D => q d H' (h.drawNew hd hc s D)⟩
theorem use_ofV (h : Sep L H) (m : dr d ∈ L) (hl : SqL K H l xs) (h1 : 0 < xs.length) (h2 : xs.length < 2 ^ 100) (q : ∀ x H', x ∈ xs → Sep L H' → Q x H') : spOf K ([.ref d, .ref l] ++ []) H Q E := by
  obtain ⟨c, D, k⟩ := h.draw m
  exact use_of D hl h1 h2 fun x H' k1 D1 hx => q x H' hx (k H' k1 D1)
theorem use_ofO (h : Sep L H) (m : dr d ∈ L) (m2 : ob l (.lst xs) ∈ L) (h1 : 0 < xs.length) (h2 : xs.length < 2 ^ 100) (q : ∀ x H', x ∈ xs → Sep L H' → Q x H') : spOf K ([.ref d, .ref l] ++ []) H Q E :=
  use_ofV h m (sql_of (h.obm m2)) h1 h2 q
theorem use_ofD (h : Sep L H) (m : dr d ∈ L) (m2 : ld l ds ∈ L) (h1 : 0 < ds.length) (h2 : ds.length < 2 ^ 100) (q : ∀ e x H', e ∈ ds → Sep (im x e :: L) H' → Q x H') : spOf K ([.ref d, .ref l] ++ []) H Q E := by
  obtain ⟨xs, g1, g2⟩ := h.ldm m2
  have hl := g2.length
  obtain ⟨c, D, k⟩ := h.draw m
  refine use_of D (sql_of g1) (by omega) (by omega) fun x H' k1 D1 hx => ?_
  obtain ⟨i, hi⟩ := List.getElem?_of_mem hx
  obtain ⟨e, he, hm⟩ := g2.get hi
  exact q e x H' (List.mem_of_getElem? he) (Sep.im_iff.mpr ⟨hm.mono (D.tp k1), k H' k1 D1⟩)
def isI : PyData → Bool
  | .int _ => true
  | _ => false
def isS : PyData → Bool
  | .str _ => true
  | _ => false
theorem use_ofI (h : Sep L H) (m : dr d ∈ L) (m2 : ld l ds ∈ L) (hi : ds.all isI = true) (h1 : 0 < ds.length) (h2 : ds.length < 2 ^ 100) (q : ∀ n H', PyData.int n ∈ ds → Sep L H' → Q (.int n) H') : spOf K ([.ref d, .ref l] ++ []) H Q E := by
  refine use_ofD h m m2 h1 h2 fun e x H' he h' => ?_
  obtain ⟨a, h'⟩ := Sep.im_iff.mp h'
  have z := List.all_eq_true.mp hi e he
  cases e with
  | int n => cases im_int a; exact q n H' he h'.tail
  | _ => cases z
theorem use_ofS (h : Sep L H) (m : dr d ∈ L) (m2 : ld l ds ∈ L) (hi : ds.all isS = true) (h1 : 0 < ds.length) (h2 : ds.length < 2 ^ 100) (q : ∀ n H', PyData.str n ∈ ds → Sep L H' → Q (.str n) H') : spOf K ([.ref d, .ref l] ++ []) H Q E := by
  refine use_ofD h m m2 h1 h2 fun e x H' he h' => ?_
  obtain ⟨a, h'⟩ := Sep.im_iff.mp h'
  have z := List.all_eq_true.mp hi e he
  cases e with
  | str n => cases im_str a; exact q n H' he h'.tail
  | _ => cases z
/-! steps told by what stands: new objects -/
theorem al_I (h : Sep L H) (hp : H p = none) (e : upd H p (.tup xs) = H') (t : DatAll L xs ds) : Sep (im (.ref p) (.tuple ds) :: L) H' := e ▸ h.newI hp t
theorem al_T (h : Sep L H) (hp : H p = none) (e : upd H p (.tup xs) = H') : Sep (tu p xs :: L) H' := e ▸ h.newT hp
theorem al_L (h : Sep L H) (hp : H p = none) (e : upd H p (.lst xs) = H') (t : DatAll L xs ds) : Sep (ld p ds :: L) H' := e ▸ h.newD hp t
theorem al_O (h : Sep L H) (hp : H p = none) (e : upd H p o = H') (n : Nt o = true) : Sep (ob p o :: L) H' := e ▸ h.new hp n
theorem k_cutS {t u : TS} {D : Ends} (Iv : L2.St → List (As K) → Prop) (h1 : t { D with nx := fun σ H => ∃ L, Iv σ L ∧ Sep L H } σ H) (h2 : ∀ σ' L H', Iv σ' L → Sep L H' → u D σ' H') : tCut t u D σ H :=
  k_cut (fun σ H => ∃ L, Iv σ L ∧ Sep L H) h1 fun σ' H' ⟨L, iv, h⟩ => h2 σ' L H' iv h
theorem k_joinS {te : TE} (Iv : V → List (As K) → Prop) (h : te σ H fun v H => ∃ L, Iv v L ∧ Sep L H) (k : ∀ v L H', Iv v L → Sep L H' → Q v H') : tJ te σ H Q :=
  k_join (fun v H => ∃ L, Iv v L ∧ Sep L H) h fun v H' ⟨L, iv, h⟩ => k v L H' iv h
/-! texts -/
theorem Sep.atom_int {n : Int} : Sep (im v (.int n) :: L) H ↔ v = .int n ∧ Sep L H := by
  rw [Sep.im_iff]
  exact ⟨fun ⟨a, b⟩ => ⟨im_int a, b⟩, fun ⟨a, b⟩ => ⟨a ▸ .int n, b⟩⟩
theorem Sep.atom_str {n : Str} : Sep (im v (.str n) :: L) H ↔ v = .str n ∧ Sep L H := by
  rw [Sep.im_iff]
  exact ⟨fun ⟨a, b⟩ => ⟨im_str a, b⟩, fun ⟨a, b⟩ => ⟨a ▸ .str n, b⟩⟩
end
end Ls
namespace Ls
open PySem PySem.Spec PyProof.Rows L2
section
variable {K : PySem.W.Frag} {L : List (As K)} {H : Hp} {a : Addr} {xs : List V} {ds : List PyData} {R : Addr → Prop}
theorem k_itlD (h : Sep L H) (m : ld a ds ∈ L) (q : R a) : ∃ b, V.ref a = .ref b ∧ (∃ xs, SqL K H b xs) ∧ R b := by
  obtain ⟨xs, h1, _⟩ := h.ldm m
  exact ⟨a, rfl, ⟨xs, sql_of h1⟩, q⟩
theorem k_itlO (h : Sep L H) (m : ob a (.lst xs) ∈ L) (q : R a) : ∃ b, V.ref a = .ref b ∧ (∃ xs, SqL K H b xs) ∧ R b := ⟨a, rfl, ⟨xs, sql_of (h.obm m)⟩, q⟩
theorem k_ittI (h : Sep L H) (m : im (.ref a) (.tuple ds) ∈ L) (q : R a) : ∃ b, V.ref a = .ref b ∧ (∃ xs, SqT K H b xs) ∧ R b := by
  obtain ⟨a', xs, e, h1, h2⟩ := im_tup (h.imm m)
  cases e
  exact ⟨a, rfl, ⟨xs, h1⟩, q⟩
end
end Ls
-- own part: U7
namespace Ls
open PySem PySem.Spec PyProof.Rows L2
/-! ### C.m(e, ..), m a def of the own class C, called by the class -/
def tCFn (C : Addr) (sp : Sp) (E : XK) (ta : TE) (t : TA) : TE := fun σ H Q => ta σ H fun x H1 => x = .ref C ∧ t σ H1 fun vs H2 => sp (vs ++ []) H2 Q E
theorem pe_cfn {X : Cx} {CX : CXT} {k : Nat} {C f : Addr} {mc : Value} {fd : FuncData} {ps : List Str} {sp : Sp} {E : XK} {o e : Expr} {es : List Expr} {m : Str} {pos apos : Pos} {ta : TE} {t : TA} {pl : Sem Bool}
    (he : PE X o ta) (r : ClX.CRead X.K C mc) (c : ClX.CVal X.K C mc m (.ref f) (.ref f)) (kp : PySem.W.keepIn X.K (.ref f) = true) (F : FnOk X.prog X.w X.K X.mg X.base CX k f fd ps sp) (hr : Room k X.A) (hb : Binds X.K fd ps []) (hx : Passes CX X E) (ha : PA X (e :: es) t)
    (hst : starEach (e :: es) X.env = (false, eval e X.env) :: starEach es X.env := by rfl) (hpl : (backTo pos (starEach es X.env)).any (·.1) = false := by rfl)
    (ht : eval (.Call (.Attribute o m apos) (e :: es) [] pos) X.env = (do
      let ov ← eval o X.env
      standAt apos.atName
      let (f, first) ← holding [ov] (getMethod ov m pl)
      callWith pos f first (backTo pos (starEach (e :: es) X.env)) (backToKw pos (keywordEach [] X.env))) := by rfl) :
    PE X (.Call (.Attribute o m apos) (e :: es) [] pos) (tCFn C sp E ta t) := by
  refine ⟨fun pins s σ H Q I h => PySem.W.methodCall_KW (pl := pl) (thn (he.run pins s σ H _ I h) fun u s1 ⟨x, H1, I1, rx, ex, q⟩ => ?_) ht⟩
  subst ex
  obtain rfl : u = Value.ref C := rx
  refine PySem.W.method_cls I1.kIn r.ga (ClX.getcval_ok I1 r c fun s2 I2 => ?_)
  exact PySem.W.callWith_K (h₀ := X.base) I2.ok.mod.kin kp (thn (ha.run pos pins s2 σ H1 _ I2 q) fun us s3 ⟨vs, H2, I3, rv, q2⟩ => ⟨I3.kIn, run_fn F hr hb .nil hx I3 rv q2⟩) hst hpl
/-! ### e.f of a caught exception, of whatever own class -/
def tXfA (K : PySem.W.Frag) (a : Addr) (cls : Value) (d : Option Addr) (f : Str) (te : TE) : TE := fun σ H Q => ∃ C : Addr, XfC K C ∧ PySem.W.findIn K (.ref C) f = some none ∧ tXf a cls d C f te σ H Q
theorem pe_xfA {X : Cx} {a : Addr} {oe : Obj} {cls : Value} {d : Option Addr} {pn : List (Addr × Obj)} {e : Expr} {te : TE} {pos : Pos} {n : Str} (K : PySem.W.Frag) (hK : X.K = K) (hz : Zc cls d oe) (hf : ∃ vs, oe.data = .fields vs) (he : PE (X.suite a ((a, oe) :: pn)) e te)
    (hb : attributeBase e n X.env (eval e X.env) = eval e X.env := by rfl) : PE (X.suite a ((a, oe) :: pn)) (.Attribute e n pos) (tXfA K a cls d n te) := by
  subst hK
  exact ⟨fun pins s σ H Q I ⟨C, T, no, h⟩ => (pe_xf (C := C) T no hz hf he hb).run pins s σ H Q I h⟩
/-! ### try: .. except A as n: .. except B as n: .. -/
def gone (D : Ends) (i : Nat) : Ends := { nx := fun σ' H' => D.nx (σ'.set i none) H', rt := D.rt, bk := fun σ' H' => D.bk (σ'.set i none) H', ct := fun σ' H' => D.ct (σ'.set i none) H' }
abbrev Cla := Value × Nat × (Addr → Value → Option Addr → TS)
/-- what the clauses wish of an exception of the body -/
def wCl (K : PySem.W.Frag) (Wout : WX) (D : Ends) : List Cla → WX
  | [] => Wout
  | k :: r => fun cls d σ H => ∃ b, PySem.W.exmOne K cls k.1 = some b ∧ (b = true → ∀ a, H a = none → k.2.2 a cls d (gone D k.2.1) (σ.set k.2.1 (some (.ref a))) H) ∧ (b = false → wCl K Wout D r cls d σ H)
inductive ClOk (X : Cx) : List ExceptHandler → List Cla → Prop
  | nil : ClOk X [] []
  | cons {x n : Str} {c : Value} {i : Nat} {ts : Addr → Value → Option Addr → TS} {b0 : Stmt} {su : List Stmt} {np po : Pos} {hds : List ExceptHandler} {l : List Cla} (hc : Names X x c) (hi : X.N[i]? = some n) (hln : X.env.kindOf n = some .local)
      (hsu : ∀ (a : Addr) (oe : Obj) (cls : Value) (d : Option Addr) (pn : List (Addr × Obj)), Zc cls d oe → (∃ vs, oe.data = .fields vs) → PSs (X.suite a ((a, oe) :: pn)) (b0 :: su) (ts a cls d)) (r : ClOk X hds l) :
      ClOk X (.ExceptHandler (some (.Name x np)) (some n) (b0 :: su) po :: hds) ((c, i, ts) :: l)
theorem ps_try_cl {X : Cx} {body : List Stmt} {h0 : ExceptHandler} {hds : List ExceptHandler} {l : List Cla} {pos : Pos} {tb : WX → TS} {Wout : WX} (hst : X.stack = X.env :: X.outer) (hfl : X.env.frame = some X.env.locals) (hN : X.N.Nodup) (tk : Takes X Wout)
    (hb : ∀ (W : WX) (pn : List (Addr × Obj)) (xe : Value → Shared → Prop), Takes (X.tr pn xe) W → PassesOwn (model X.prog X.w) X.A X.env xe → PSs (X.tr pn xe) body (tb W)) (hh : ClOk X (h0 :: hds) l) :
    PS X (.Try body (h0 :: hds) [] [] pos) (fun D σ H => tb (wCl X.K Wout D l) D σ H) := by
  refine ⟨fun pins s σ H D I h => ?_⟩
  have OK := I.ok
  have FR : X.A.frames = some (X.env :: X.outer) := OK.frames.trans (congrArg some hst)
  let caught : Value → Shared → Prop := fun e u => wpAny (model X.prog X.w) X.A (noteFrame e X.env) (fun _ u2 => wpAny (model X.prog X.w) X.A (setFlight e none) (fun _ u3 => wpAny (model X.prog X.w) X.A (handleBy e X.env (h0 :: hds)) (SP X pins D) X.xe u3) X.xe u2) X.xe u
  refine wpAny_Try_except (wpAny_mono ((hb (wCl X.K Wout D l) (X.pn ++ pins) caught (fun u t y => ?_) PassesOwn.looking).run [] s σ H D (I.toTry _) h) (fun fl t y => ?_) fun e t z => z)
  · obtain ⟨a, B, t0, pins2, σ2, H2, cls, d, rfl, J2, nb, up, sk, na, os, ag, wish⟩ := y
    have J : Inv X pins σ2 H2 t0 := J2.ofTry OK
    have SK : Sky B (X.env :: X.outer) a (Zc cls d) X.env.locals t.heap := hst ▸ sk
    show wpAny (model X.prog X.w) X.A (noteFrame (.ref a) X.env) _ _ _
    refine Sky.land Zc.steady FR hfl SK fun g la ug => ?_
    have Jg : Inv X pins σ2 H2 { t with heap := g } := J.landed nb la.1 (up.trans ug) os ag
    obtain ⟨og, vg, eg, zg, dg⟩ := la.there
    have out : a ∉ frs (X.env :: X.outer) := fun m => by
      obtain ⟨_, o2, e2, n2⟩ := la.2.2.1.mem m
      rw [eg] at e2
      cases e2
      exact n2 _ dg
    have nLoc : a ≠ X.env.locals := fun z => out (List.mem_filterMap.mpr ⟨X.env, List.mem_cons_self, by rw [hfl, z]⟩)
    have nFs : a ∉ X.fs := fun m => by
      obtain ⟨e2, m2, q2⟩ := List.mem_filterMap.mp m
      exact out (List.mem_filterMap.mpr ⟨e2, List.mem_cons_of_mem _ m2, q2⟩)
    have Sg := Jg.suite eg dg na nLoc nFs
    have all : ∀ {hs2 : List ExceptHandler} {l2 : List Cla}, ClOk X hs2 l2 → wCl X.K Wout D l2 cls d σ2 H2 → wpAny (model X.prog X.w) X.A (handleBy (.ref a) X.env hs2) (SP X pins D) X.xe { t with heap := g } := by
      intro hs2 l2 ok2
      induction ok2 with
      | nil =>
        intro wish2
        obtain ⟨k1, k2, k3, o3, v3, T, oT, t3, e3, z3, d3, i3, r3⟩ := id la
        refine wpAny_handleBy_nil ?_
        unfold PySem.passOn
        refine wpAny_bind (wpAny_field e3 d3 i3 ?_)
        rw [if_neg (by simp : ¬ ((Value.ref T == Value.none) = true))]
        have last : wpAny (model X.prog X.w) X.A (setFlight (.ref a) X.env.frame) (fun _ u => wpAny (model X.prog X.w) X.A (throw (.ref a) : Sem Flow) (SP X pins D) X.xe u) X.xe { t with heap := g } := by
          rw [hfl]
          exact HandSPX.setFlight_upZ la fun g2 hg2 ug2 => wpAny_throw (tk _ _ ⟨a, B, t0, pins, σ2, H2, cls, d, rfl, J, nb, (up.trans ug).trans ug2, .inr (.inr (by rw [hst]; exact hg2)), na, os, ag, wish2⟩)
        first | exact wpAny_bind (wpAny_pure (wpAny_bind last)) | exact wpAny_bind last
      | @cons x n c i ts b0 su np po hds2 l3 hc hi hln hsu r ih =>
        rintro ⟨b, eb, yes, no⟩
        have lt : PySem.W.Looks (model X.prog X.w) g (typeOf (.ref a)) cls := fun A Q E u k q => wpAny_typeOf_ref (k _ _ eg) (zg.1.symm ▸ q)
        have lm := PySem.W.exm_one (M := model X.prog X.w) Jg.kIn lt eb
        have named : ∀ {Q : Value → Shared → Prop} {E : Value → Shared → Prop}, Q c { t with heap := g } → wpAny (model X.prog X.w) (X.A.mark (some (.ref a))) (eval (.Name x np) X.env) Q E { t with heap := g } := by
          intro Q E q
          obtain ⟨hg, hd, hm | ⟨hm, hv, hnn⟩⟩ := hc
          · exact ld_glob (X := X.suite a ((a, og) :: (X.pn ++ pins))) Sg hg hm q hd
          · exact ld_blt (X := X.suite a ((a, og) :: (X.pn ++ pins))) Sg hg hm hv q hnn hd
        refine wpAny_handleBy_cons (codeAny_handlers_test (named (lm.here ?_))) (by intro q; cases q)
        cases b with
        | false => exact ih (no rfl)
        | true =>
          refine codeAny_handlers_suite_as (HandSPX.lands_againZ la fun g2 la2 ug2 => ?_)
          have Jh : Inv X pins σ2 H2 { t with heap := g2 } := J.landed nb la2.1 ((up.trans ug).trans ug2) os ag
          obtain ⟨o4, v4, e4, z4, d4⟩ := la2.there
          have Sh := Jh.suite e4 d4 na nLoc nFs
          refine store_ok (X := X.suite a ((a, o4) :: (X.pn ++ pins))) (v := .ref a) Sh hN hi (.inl hln) rfl (fun u5 S5 => ?_) (.inr hln)
          refine wpAny_mono ((hsu a o4 cls d (X.pn ++ pins) z4 ⟨_, d4⟩).run [] u5 _ H2 _ S5 (yes rfl a na)) (fun fl6 u6 y6 => ?_) fun _ _ z => False.elim z
          have off : ∀ {σ6 : L2.St} {H6 : Hp} {R : Shared → Prop}, Inv (X.suite a ((a, o4) :: (X.pn ++ pins))) [] σ6 H6 u6 → (∀ u7, Inv X pins (σ6.set i none) H6 u7 → R u7) → wpAny (model X.prog X.w) X.A (do bindName X.env n .none; unbindBehindTheSuite X.env n po) (fun _ u7 => R u7) X.xe u6 :=
            fun S6 hq => gone_ok (S6.unsuite OK) hN hi hln hq
          cases fl6 with
          | ret u8 =>
            obtain ⟨v8, σ8, H8, S8, r8, q8⟩ := y6
            exact off S8 fun u7 J7 => ⟨_, _, _, J7, r8, q8⟩
          | next =>
            obtain ⟨σ8, H8, S8, q8⟩ := y6
            exact off S8 fun u7 J7 => ⟨_, _, J7, q8⟩
          | brk =>
            obtain ⟨σ8, H8, S8, q8⟩ := y6
            exact off S8 fun u7 J7 => ⟨_, _, J7, q8⟩
          | cont =>
            obtain ⟨σ8, H8, S8, q8⟩ := y6
            exact off S8 fun u7 J7 => ⟨_, _, J7, q8⟩
    exact all hh wish
  · cases fl with
    | ret u8 =>
      obtain ⟨v8, σ8, H8, J8, r8, q8⟩ := y
      exact ⟨v8, σ8, H8, J8.ofTry OK, r8, q8⟩
    | next =>
      obtain ⟨σ8, H8, J8, q8⟩ := y
      exact wpAny_execs_nil ⟨σ8, H8, J8.ofTry OK, q8⟩
    | brk =>
      obtain ⟨σ8, H8, J8, q8⟩ := y
      exact ⟨σ8, H8, J8.ofTry OK, q8⟩
    | cont =>
      obtain ⟨σ8, H8, J8, q8⟩ := y
      exact ⟨σ8, H8, J8.ofTry OK, q8⟩
end Ls
-- own part: U8
namespace Ls
open PySem PySem.Spec PyProof.Rows L2
/-! ### C(), C an own exception class with its own __init__ -/
theorem pmk_oex0 {X : Cx} {CX : CXT} {x : Str} {C fI : Addr} {k : Nat} {fd : FuncData} {ps : List Str} {sp : Sp} {ds : List Value} {dvs : List V} {p pos : Pos} (T : OexC X.K C) (iC : PySem.W.findIn X.K (.ref C) "__init__" = some (some (.ref fI))) (tI : PySem.W.typeIn X.K (.ref fI) = some (.type "function"))
    (Fi : FnOk X.prog X.w X.K X.mg X.base CX k fI fd ps sp) (hr : Room (k + 1) X.A) (hb : Binds X.K fd ps ds) (hd : Vals dvs ds) (hx : Passes CX X (fun _ _ _ => False)) (hg : Gl X x) (hm : X.mg x = some (.ref C)) (hdb : (x == ("__debug__" : Str)) = false := by decide) :
    PMk X (.Call (.Name x p) [] [] pos) (tMkO C sp dvs tNil) := by
  intro pins s σ H Q I h
  obtain ⟨_, _, _, _, bm, _, _, _, _, _, _, _, _, _, _, cl, rb⟩ := T.cls
  refine wpAny_Call_Name_kw (ld_glob I hg hm (PySem.W.callWith_K0 I.kIn T.kC ?_) hdb)
  show wpAny _ _ (call (.ref C) []) _ _ _
  obtain ⟨h0, g0, d0, k0, o0⟩ := s
  obtain ⟨_, made⟩ := h
  have up : h0.objs.size ≤ h0.objs.size + 1 := Nat.le_succ _
  have free : H (h0.objs.size + 1) = none := I.hok.fresh up
  have it := made (h0.objs.size + 1) free
  have keep : ∀ b o, h0.get? b = some o → ((h0.push (PySem.W.kdv_tup [])).push (PySem.HandSPX.excO C h0.objs.size)).get? b = some o := fun b o e => Heap.get?_push_of_some _ (Heap.get?_push_of_some _ e)
  have at1 : ((h0.push (PySem.W.kdv_tup [])).push (PySem.HandSPX.excO C h0.objs.size)).get? (h0.objs.size + 1) = some (PySem.HandSPX.excO C h0.objs.size) := by heap_get
  have J : Inv X pins σ (upd H (h0.objs.size + 1) (exo (h0.objs.size + 1) C none)) ⟨((h0.push (PySem.W.kdv_tup [])).push (PySem.HandSPX.excO C h0.objs.size)), g0, d0, k0, o0⟩ :=
    I.laid (a := h0.objs.size + 1) (o := exo (h0.objs.size + 1) C none) (h' := ((h0.push (PySem.W.kdv_tup [])).push (PySem.HandSPX.excO C h0.objs.size))) (t' := k0) keep up (exo_ok at1)
  have vals : Vals (V.ref (h0.objs.size + 1) :: ([] ++ dvs)) (Value.ref (h0.objs.size + 1) :: ds) := .cons rfl hd
  have len : ([Value.ref (h0.objs.size + 1)] ++ ds).length = ps.length := vals.length.symm.trans (Fi.len _ _ _ _ it)
  refine wpAny_call (PySem.HandSPX.call_own F.excBase_ValueError (fun Y => PySem.HandSPX.refsVE_contains Y bm rb) (I.kIn _ _ cl) (PySem.W.looks_findIn I.kIn iC) (fun self => PySem.W.bind_fn I.kIn self tI) (Nat.zero_le _)
    (codeAny_mono (Fi.run _ X.stack _ _ ⟨[Value.ref (h0.objs.size + 1)], []⟩ (Value.ref (h0.objs.size + 1) :: ds) _ _ (fun _ _ _ => False) (hr.make C [] []) (J.env0.make C [] []) (hb _ [Value.ref (h0.objs.size + 1)] J.kIn len) vals it) fun r s' z => ?_))
  cases r with
  | error e => exact hx pins σ _ _ e s' J z
  | ok fl =>
    cases fl with
    | next => exact z.elim
    | brk => exact z.elim
    | cont => exact z.elim
    | ret u =>
      obtain ⟨v, H2, os2, bare2, un2, ok2, rv, ev, d, fs, ea, ed, fr, q⟩ := z
      subst ev
      obtain ⟨h2, g2, d2, k2, o2⟩ := s'
      exact ⟨rv, mk_end (raises_own T.exC T.tyC) I up keep un2 ok2 os2 bare2 ea ed fr q⟩
end Ls
-- own part: U9
namespace Ls
open PySem PySem.Spec PyProof.Rows L2
/-! ### what the written part says of exception classes, by looking -/
def eqO (a b : Option (Option Value)) : Bool := decide (a = b)
def oexC (K : PySem.W.Frag) (C : Addr) : Bool := match K.lookup C with
  | some ⟨.type "type", _, .cls cd, sl⟩ => (match cd.mro, sl.toList with
    | .ref D :: bm, [_, _, _, _, some (.builtin n), _] => decide (D = C) && (decide (n = "ValueError.__new__") && (cd.hasDict && (!cd.hasDel && PySem.HandSPX.refsVE bm)))
    | _, _ => false)
  | _ => false
def oexB (K : PySem.W.Frag) (C : Addr) : Bool := oexC K C && (eqO (PySem.W.findIn K (.ref C) "__setattr__") (some (some (.builtin "object.__setattr__"))) && (decide (PySem.W.subIn K (.ref C) (.type "BaseException") = some true) && (decide (PySem.W.typeIn K (.ref C) = some (.type "type")) && PySem.W.keepIn K (.ref C))))
theorem ba2 {a b : Bool} (h : (a && b) = true) : a = true ∧ b = true := Bool.and_eq_true_iff.mp h
theorem oexB_ok {K : PySem.W.Frag} {C : Addr} (h : oexB K C = true) : OexC K C := by
  obtain ⟨h1, h⟩ := ba2 h
  obtain ⟨h2, h⟩ := ba2 h
  obtain ⟨h3, h⟩ := ba2 h
  obtain ⟨h4, h5⟩ := ba2 h
  refine ⟨?_, of_decide_eq_true h2, of_decide_eq_true h3, of_decide_eq_true h4, h5⟩
  unfold oexC at h1
  split at h1
  · rename_i dd cd sl ho
    split at h1
    · rename_i D bm k0 k1 k2 k3 n k5 hm hs
      obtain ⟨a1, h1⟩ := ba2 h1
      obtain ⟨a2, h1⟩ := ba2 h1
      obtain ⟨a3, h1⟩ := ba2 h1
      obtain ⟨a4, a5⟩ := ba2 h1
      obtain rfl := of_decide_eq_true a1
      obtain rfl := of_decide_eq_true a2
      obtain ⟨nm, bs, mro, ns, qn, hd, sn, sub, ab, col, del⟩ := cd
      dsimp only at hm a3 a4
      subst hm a3
      have a4 : del = false := by simpa using a4
      subst a4
      obtain ⟨sl⟩ := sl
      dsimp only at hs
      subst hs
      exact ⟨nm, qn, ns, bs, bm, sn, sub, ab, col, dd, k0, k1, k2, k3, k5, ho, a5⟩
    · cases h1
  · cases h1
/-- C.__init__ is the def at ma K C "__init__" -/
def iniB (K : PySem.W.Frag) (C : Addr) : Bool := eqO (PySem.W.findIn K (.ref C) "__init__") (some (some (.ref (He.ma K C "__init__")))) && decide (PySem.W.typeIn K (.ref (He.ma K C "__init__")) = some (.type "function"))
theorem iniB_ok {K : PySem.W.Frag} {C : Addr} (h : iniB K C = true) : PySem.W.findIn K (.ref C) "__init__" = some (some (.ref (He.ma K C "__init__"))) ∧ PySem.W.typeIn K (.ref (He.ma K C "__init__")) = some (.type "function") := by
  obtain ⟨h1, h2⟩ := ba2 h
  exact ⟨of_decide_eq_true h1, of_decide_eq_true h2⟩
/-- C.__init__ read by the class -/
def crdB (K : PySem.W.Frag) (C : Addr) : Bool := PySem.W.readsIn K C (.type "type") && eqO (PySem.W.specialIn K (.ref C) "__getattribute__") (some (some (.builtin "type.__getattribute__")))
theorem crdB_ok {K : PySem.W.Frag} {C : Addr} (h : crdB K C = true) : ClX.CRead K C (.type "type") := by
  obtain ⟨h1, h2⟩ := ba2 h
  exact ⟨h1, of_decide_eq_true h2⟩
def cviB (K : PySem.W.Frag) (C : Addr) : Bool := (match PySem.W.findCls K (.ref C) (.type "type") "__init__" with
  | some (.val (.ref f)) => decide (f = He.ma K C "__init__")
  | _ => false)
theorem cviB_ok {K : PySem.W.Frag} {C : Addr} (h : cviB K C = true) : ClX.CVal K C (.type "type") "__init__" (.ref (He.ma K C "__init__")) (.ref (He.ma K C "__init__")) := by
  refine ⟨?_, rfl⟩
  unfold cviB at h
  split at h
  · rename_i f hf
    rw [of_decide_eq_true h] at hf
    exact hf
  · cases h
def veiB (K : PySem.W.Frag) : Bool := (match PySem.W.findCls K (.type "ValueError") (.type "type") "__init__" with
  | some (.val (.builtin n)) => decide (n = "ValueError.__init__")
  | _ => false)
theorem veiB_ok {K : PySem.W.Frag} (h : veiB K = true) : PySem.W.findCls K (.type "ValueError") (.type "type") "__init__" = some (.val (.builtin "ValueError.__init__")) := by
  unfold veiB at h
  split at h
  · rename_i n hn
    rw [of_decide_eq_true h] at hn
    exact hn
  · cases h
def noFB (K : PySem.W.Frag) (C : Addr) (f : Str) : Bool := eqO (PySem.W.findIn K (.ref C) f) (some none)
theorem noFB_ok {K : PySem.W.Frag} {C : Addr} {f : Str} (h : noFB K C f = true) : PySem.W.findIn K (.ref C) f = some none := of_decide_eq_true h
def exmB (K : PySem.W.Frag) (C D : Addr) (b : Bool) : Bool := decide (PySem.W.exmOne K (.ref C) (.ref D) = some b)
theorem exmB_ok {K : PySem.W.Frag} {C D : Addr} {b : Bool} (h : exmB K C D b = true) : PySem.W.exmOne K (.ref C) (.ref D) = some b := of_decide_eq_true h
end Ls
-- own part: U10
namespace Ls
open PySem PySem.Spec PyProof.Rows L2
/-! ### exceptions that are made and raised -/
/-- C.__init__(self): the word w -/
def spInit0 (K : PySem.W.Frag) (w : Str) : Sp := fun vs H Q _ => ∃ (a C : Addr), vs = [.ref a] ∧ OexC K C ∧ PySem.W.findIn K (.ref C) "word" = some none ∧ H a = some (exo a C none) ∧ ∀ dx, H dx = none → dx ≠ a → Q .non (upd (upd H dx (exd dx [("word", .str w)])) a (exo a C (some dx)))
/-- the base's __init__(self, word) -/
def spInit1 (K : PySem.W.Frag) : Sp := fun vs H Q _ => ∃ (a C : Addr) (w : Str), vs = [.ref a, .str w] ∧ OexC K C ∧ PySem.W.findIn K (.ref C) "word" = some none ∧ H a = some (exo a C none) ∧ ∀ dx, H dx = none → dx ≠ a → Q .non (upd (upd H dx (exd dx [("word", .str w)])) a (exo a C (some dx)))
section
variable {K : PySem.W.Frag} {σ : L2.St} {H : Hp} {D : Ends} {C : Addr} {w : Str}
theorem k_vei {Q : VK} {ta : TA} (h : ta σ H fun vs H1 => ∃ (a C : Addr) (ws : List V), vs = .ref a :: ws ∧ ws.length ≤ 1000 ∧ OexC K C ∧ H1 a = some (exo a C none) ∧ Q .non H1) : tVeI K ta σ H Q := h
theorem k_ost {f : Str} {to te : TE} (h : te σ H fun y H1 => to σ H1 fun x H2 => ∃ a C : Addr, x = .ref a ∧ OexC K C ∧ PySem.W.findIn K (.ref C) f = some none ∧
  ((H2 a = some (exo a C none) ∧ ∀ dx, H2 dx = none → dx ≠ a → D.nx σ (upd (upd H2 dx (exd dx [(f, y)])) a (exo a C (some dx)))) ∨
    ∃ (dx : Addr) (fs : List (Str × V)), H2 a = some (exo a C (some dx)) ∧ H2 dx = some (exd dx fs) ∧ fs.length ≤ 900 ∧ D.nx σ (upd H2 dx (exd dx ((f, y) :: fs))))) : tOst K f to te D σ H := h
theorem k_cfn {Q : VK} {sp : Sp} {E : XK} {ta : TE} {t : TA} (h : ta σ H fun x H1 => x = .ref C ∧ t σ H1 fun vs H2 => sp (vs ++ []) H2 Q E) : tCFn C sp E ta t σ H Q := h
/-- raise C() -/
theorem k_raise {Q : XK} (T : OexC K C) (no : PySem.W.findIn K (.ref C) "word" = some none) (q : ∀ d H', H d = none → Same H H' → H' d = some (.xd [("word", .str w)]) → Q (.ref C) (some d) H') : tMkO C (spInit0 K w) [] tNil σ H Q := by
  refine ⟨Nat.zero_le _, fun a ha => ⟨a, C, rfl, T, no, upd_same, fun dx hdx na => ⟨rfl, dx, [("word", .str w)], upd_same, ?_, ?_, ?_⟩⟩⟩
  · rw [upd_ne na]
    exact upd_same
  · rw [upd_ne na] at hdx
    exact hdx
  · have hd : H dx = none := by
      rw [upd_ne na] at hdx
      exact hdx
    refine q dx _ hd (fun b o hb => ?_) upd_same
    have b1 : b ≠ dx := ne_of_none hb hd
    have b2 : b ≠ a := ne_of_none hb ha
    rw [upd_ne b1, del_ne b2, upd_ne b2, upd_ne b1, upd_ne b2]
    exact hb
end
end Ls
-- own part: U11
namespace Ls
open PySem PySem.Spec PyProof.Rows L2 LamX
/-! ### a lambda handed to a def that calls it in a try: what is let out is told of the slots there -/
section
variable {X : Cx} {pins : List (Addr × Obj)} {σ : L2.St} {H : Hp} {s : Shared}
theorem pe_actZ {CXg : CXT} {Eg : XK} {Ng : List Str} {qg : Str} {sg : Scope} {g f c' : Addr} {cdg pm ctv : Value} {params : Arguments} {body : Expr} {scope : Scope} {k i : Nat} {a : Str} {pn : List (Addr × Obj)} {xe : Value → Shared → Prop} {W : WX} {tb : XK → TE} {p1 p2 : Pos}
    (I : Inv X pins σ H s) (L : LamS X.env.scope scope) (of : s.heap.get? f = some (PySem.W.kla_obj "<lambda>" (X.env.qual ++ "<lambda>") params body scope (cloFrom X.env.cells scope.names []) pm c' ctv)) (hfn : H f = none) (hfr : f ∉ frs X.stack)
    (bind0 : bindArgs (PySem.W.kla_fn "<lambda>" (X.env.qual ++ "<lambda>") params body scope (cloFrom X.env.cells scope.names []) pm (.ref c') ctv) ⟨[], []⟩ = pure [])
    (tk : Takes ((cxOf CXg X.prog X.w X.K X.mg X.base Ng qg sg g cdg X.A X.stack s H Eg).tr pn xe) W) (hr : Room (k + 1) (X.A.deeper (envOfC qg sg s.heap.objs.size g cdg)))
    (bodyP : ∀ (E : XK) (A : Around) (outer : List Env) (s : Shared) (H : Hp), Room k (A.deeper (lamEnv X scope s.heap.objs.size f c')) → PE (lamCx X A outer s H E scope f c') body (tb E))
    (hN : Ng[i]? = some a) (hv : Vis sg a) (hd : (a == ("__debug__" : Str)) = false := by decide) (hcd : (a == ("__classdict__" : Str)) = false := by decide) :
    PE ((cxOf CXg X.prog X.w X.K X.mg X.base Ng qg sg g cdg X.A X.stack s H Eg).tr pn xe) (.Call (.Name a p1) [] [] p2)
      (fun σZ HZ Q => σZ[i]? = some (some (.ref f)) ∧ HZ c' = some (CodeO c' (X.env.qual ++ "<lambda>")) ∧ tb (fun cls d H' => W cls d σZ H') σ HZ Q) := by
  refine ⟨fun pZ sZ σZ HZ Q IZ ⟨z1, z2, z3⟩ => ?_⟩
  refine wpAny_Call_Name_kw (thn ((pe_var (pos := p1) (i := i) hN hv hd hcd).run pZ sZ σZ HZ (fun v H1 => v = .ref f ∧ H1 = HZ) IZ ⟨.ref f, z1, rfl, rfl⟩) fun u s1 ⟨v, H1, I1, r1, e1, e2⟩ => ?_)
  subst e1
  rw [e2] at I1
  obtain rfl : u = Value.ref f := r1
  have of1 : s1.heap.get? f = some (PySem.W.kla_obj "<lambda>" (X.env.qual ++ "<lambda>") params body scope (cloFrom X.env.cells scope.names []) pm c' ctv) := I1.base.keep f _ of hfn hfr (fun z => nomatch (show f ∈ ([] : List Addr) from z))
  obtain ⟨⟨oc, vs, t, c1, c2, c3⟩, _, _⟩ := I1.hok c' _ z2
  have run : codeAny (model X.prog X.w) (X.A.deeper (envOfC qg sg s.heap.objs.size g cdg)) (.call (.ref f) ⟨[], []⟩) (CR (L2.CX X.prog X.w) (envOfC qg sg s.heap.objs.size g cdg :: X.stack) X.prog X.w HZ s1 Q (WE W σZ)) s1 := by
    refine PySem.W.kla_callFunE hr.depth of1 rfl L.co L.gen rfl ⟨c', oc, vs, t, rfl, c1, c2, c3⟩ (bind0 ▸ wpAny_pure (wpAny_newFunctionEnv (fun y hy => (L.own y hy).2) (fun y hy => absurd hy (by simp)) (fun h2 n2 b2 => ⟨I1.nolimit.fresh _ b2, ?_⟩) L.kind))
    have keep2 : ∀ b o, s1.heap.get? b = some o → h2.get? b = some o := fun b o e => b2.extBut b o (Nat.ne_of_lt (Heap.lt_size e)) (Heap.get?_push_of_some _ e)
    have J := lam_start2 (E := WE W σZ) (f := f) (c' := c') (tk := s1.toks + ([] : List (Str × Value)).length) I L I1.env0 hr.hd I1.base n2 keep2
    refine PySem.W.kla_codeExpr (wpAny_mono ((bodyP (WE W σZ) _ _ s1 HZ (hr.deeper _)).run [] _ _ HZ Q J z3) (fun v s' hq => ?_) fun e s' hq => hq)
    obtain ⟨w', H', J', rv, q⟩ := hq
    exact ⟨w', H', J'.os, J'.bare, J'.base, J'.hok, rv, q⟩
  refine PySem.W.callWith_F0 ⟨_, _, _, _, of1⟩ (wpAny_call (codeAny_mono run fun r s' hq => ?_))
  cases r with
  | error e => exact tk e s' (XE.of_call I1 (fun _ _ _ h => h) hq)
  | ok fl =>
    cases fl with
    | ret u => exact I1.after hq
    | next => exact False.elim hq
    | brk => exact False.elim hq
    | cont => exact False.elim hq
end
/-- the def that calls what it got -/
def GivesZ (X : Cx) (Ng : List Str) (x : Str) (sg : Scope) (g : Addr) (cdg : Value) (bg : List Stmt) (a : Str) (q : Str) (TT : (XK → Hp → VK → Prop) → Hp → VK → Prop) : Prop :=
  ∀ (f c' : Addr) (s : Shared) (H : Hp) (Q : VK) (tl : XK → Hp → VK → Prop),
    (∀ (W : WX) (pn : List (Addr × Obj)) (xe : Value → Shared → Prop) (p1 p2 : Pos), Takes ((cxOf C8.CX0 X.prog X.w X.K X.mg X.base Ng x sg g cdg X.A X.stack s H C8.E0).tr pn xe) W →
      PE ((cxOf C8.CX0 X.prog X.w X.K X.mg X.base Ng x sg g cdg X.A X.stack s H C8.E0).tr pn xe) (.Call (.Name a p1) [] [] p2) (fun σZ HZ Q => σZ[0]? = some (some (.ref f)) ∧ HZ c' = some (CodeO c' q) ∧ tl (fun cls d H' => W cls d σZ H') HZ Q)) →
    H c' = some (CodeO c' q) → TT tl H Q →
    ∃ t, PSs (cxOf C8.CX0 X.prog X.w X.K X.mg X.base Ng x sg g cdg X.A X.stack s H C8.E0).nox bg t ∧ t { nx := fun _ H' => Q .non H', rt := Q } (L2.start Ng [.ref f]) H
section
variable {X : Cx}
theorem pe_lamZ {T : List (Addr × Str)} {TT : (XK → Hp → VK → Prop) → Hp → VK → Prop} {x a : Str} {g c P : Addr} {k : Nat} {pg : Arguments} {bg : List Stmt} {sg : Scope} {dV kV doc pm cdv ct oc : Value} {an od : Option Addr} {osl : Array (Option Value)} {Ng : List Str}
    {params : Arguments} {body : Expr} {scope : Scope} {t : XK → TE} {p lpos pos : Pos} (hg : Gl X x) (hm : X.mg x = some (.ref g)) (hk : PySem.W.keepIn X.K (.ref g) = true)
    (lk : X.K.lookup g = some ⟨oc, od, .func (PySem.W.fnOf x x pg bg sg dV kV doc pm an cdv ct), osl⟩) (hcg : PySem.W.codeIn X.K cdv x = true) (hb : L2.Binds X.K (PySem.W.fnOf x x pg bg sg dV kV doc pm an cdv ct) [a] []) (Sg : FnScope Ng [a] sg) (hNg : Ng[0]? = some a) (hva : Vis sg a)
    (give : GivesZ X Ng x sg g cdv bg a (X.env.qual ++ "<lambda>") TT)
    (TB : TabB X.base X.mg c P) (hcode : X.env.code = .ref c) (hmT : (P, X.env.qual ++ "<lambda>") ∈ T) (hu : ∀ p ∈ T, p.1 = P → p.2 = X.env.qual ++ "<lambda>") (hr : Room (k + 2) X.A) (L : LamS X.env.scope scope) (hdef : defaultsOf params X.env = ([], []))
    (bind0 : ∀ (q : Str) (cl : List (Str × Addr)) (pm cv ctv : Value), bindArgs (PySem.W.kla_fn "<lambda>" q params body scope cl pm cv ctv) ⟨[], []⟩ = pure [])
    (bodyP : ∀ (A : Around) (outer : List Env) (s : Shared) (H : Hp) (E : XK) (f c' : Addr), Room k (A.deeper (lamEnv X scope s.heap.objs.size f c')) → PE (lamCx X A outer s H E scope f c') body (t E))
    (hdb : (x == ("__debug__" : Str)) = false := by decide) (hd : (a == ("__debug__" : Str)) = false := by decide) (hcd : (a == ("__classdict__" : Str)) = false := by decide) :
    PE X (.Call (.Name x p) [.Lambda params body scope lpos] [] pos) (tLam T TT t) := by
  refine ⟨fun pins s σ H Q I ⟨hT, h⟩ => wpAny_Call_Name_kw (ld_glob I hg hm ?_ hdb)⟩
  refine PySem.W.callWith_K (h₀ := X.base) I.ok.mod.kin hk ?_ (by rfl) (by rfl)
  show wpAny _ _ (spliced ((false, eval (.Lambda params body scope lpos) X.env) :: backTo pos (starEach [] X.env))) _ _ s
  refine Calls.spliced_cons (lam_make2 I TB hcode hmT hu hT hdef (L.has I.ok) fun f c' pm' ctv H1 s' I1 eN T1 hf hfn hfr hco => Calls.spliced_nil ⟨I1.kIn, ?_⟩)
  have run : codeAny (model X.prog X.w) X.A (.call (.ref g) ⟨[.ref f], []⟩) (CR C8.CX0 X.stack X.prog X.w H1 s' Q C8.E0) s' := by
    refine run_ofS (N := Ng) (ps := [a]) (us := [.ref f]) (vs := [.ref f]) lk hcg Sg hr I1.env0 (hb s' [.ref f] I1.kIn rfl) (.cons rfl .nil) rfl fun hr' => ?_
    obtain ⟨t', ht', hq'⟩ := give f c' s' H1 Q (fun E H' Q' => t E σ H' Q') (fun W pn xe p1 p2 tk => pe_actZ (i := 0) I1 L hf hfn hfr (bind0 _ _ _ _ _) tk hr' (fun E A outer s H hr2 => bodyP A outer s H E f c' hr2) hNg hva hd hcd) hco (h H1 eN T1)
    exact ⟨t', ht'.nox, hq'⟩
  refine wpAny_call (codeAny_mono run fun r s2 hq => ?_)
  cases r with
  | error e => exact (show False from hq).elim
  | ok fl =>
    cases fl with
    | ret u => exact I1.after hq
    | next => exact False.elim hq
    | brk => exact False.elim hq
    | cont => exact False.elim hq
end
end Ls
-- own part: U12
namespace Ls
open PySem PySem.Spec PyProof.Rows L2
/-! ### a hook that looks at the interpreter's own statics, too -/
def frY (n : Nat) (g : Addr → Option Obj) : PySem.W.Frag := He.frT g (cStatics :: He.asD g n)
section
variable (n : Nat) (fa : List He.Fa) (fn : List He.DefD) (ts : List He.Tab) (tf : List He.Defn) (eb : PySem.W.Frag → Bool)
def obsY (g : Addr → Option Obj) : He.AlX := (He.obsT fa fn ts (frY n g), eb (frY n g) && He.tabsB g tf (frY n g))
theorem saysY {w : World} {h : Heap} (e : obsY n fa fn ts tf eb h.get? = He.valX fn ts w) : He.SaysX fa fn ts tf eb w h (frY n h.get?) := by
  have eT := congrArg (fun q : He.AlX => q.1) e
  have eB : (eb (frY n h.get?) && He.tabsB h.get? tf (frY n h.get?)) = true := congrArg (fun q : He.AlX => q.2) e
  have e1 := (Bool.and_eq_true_iff.mp eB).1
  have e2 := (Bool.and_eq_true_iff.mp eB).2
  have each : ∀ d ∈ tf, PySem.W.codeHdIn (frY n h.get?) (He.cT (frY n h.get?) d).1 (He.cT (frY n h.get?) d).2 = true ∧ ∃ u, h.get? (He.cT (frY n h.get?) d).2 = some u ∧ He.emptyTab u = true := by
    intro d hd
    have z := List.all_eq_true.mp e2 d hd
    have z1 := (Bool.and_eq_true_iff.mp z).1
    have z2 := (Bool.and_eq_true_iff.mp z).2
    refine ⟨z1, ?_⟩
    split at z2
    · rename_i u hu
      exact ⟨u, hu, z2⟩
    · cases z2
  refine ⟨eT, e1, fun d hd => (each d hd).1, fun d hd => ?_, fun d hd => ?_⟩
  · obtain ⟨_, u, hu, ue⟩ := each d hd
    exact He.frT_none hu ue
  · obtain ⟨_, u, hu, ue⟩ := each d hd
    rw [hu, He.emptyTab_eq ue]
def hookY : PySem.W.Hook where
  α := He.AlX
  obs := fun s => obsY n fa fn ts tf eb s.heap.get?
  val := fun w => He.valX fn ts w
  says := fun w h => ∃ K : PySem.W.Frag, K.In h ∧ He.SaysX fa fn ts tf eb w h K
  of := fun _ _ e => ⟨frY n _, He.frT_in, saysY n fa fn ts tf eb e⟩
  keeps := fun _ _ _ ⟨K, hK, y⟩ k => ⟨K, PySem.W.Frag.In.keeps hK k, ⟨y.t, y.more, y.hd, y.out, fun d hd => k _ _ (y.empty d hd)⟩⟩
theorem obsY_eq {g : Addr → Option Obj} {s : Shared} (h : ∀ a, g a = s.heap.get? a) : obsY n fa fn ts tf eb g = (hookY n fa fn ts tf eb).obs s := by
  obtain rfl : g = s.heap.get? := funext h
  rfl
end
end Ls
-- own part: U13
namespace Ls
open PySem PySem.Spec PyProof.Rows L2
/-! ### o.f as a target -/
def gFld (K : PySem.W.Frag) (to : TE) (f : Str) : TG := fun v σ H R => to σ H fun x H2 => ∃ a C dx fs, x = .ref a ∧ H2 a = some (.ins C dx fs) ∧ Cls K C ∧ NoAttr K C f ∧ fs.length < 1000 ∧ R σ (upd H2 a (.ins C dx (putF f v fs)))
theorem pg_fld {X : Cx} {o : Expr} {f : Str} {pos : Pos} {to : TE} (K : PySem.W.Frag) (hK : X.K = K) (ho : PE X o to)
    (ha : ∀ u, assign (.Attribute o f pos) X.env u = (do
      let ov ← holding [u] (eval o X.env)
      standAt pos.atName
      holding [u, ov] (setAttr ov f u)
      release [u, ov] []) := by intro _; rfl) : PG X (.Attribute o f pos) (gFld K to f) := by
  subst hK
  refine ⟨fun pins s σ H v u Q I r h => ?_⟩
  rw [ha]
  refine wpAny_bind (wpAny_holding (thn (ho.run pins s σ H _ I h) fun ov s1 ⟨x, H1, I1, r1, a, C, dx, fs, ex, ea, c, n, hl, q⟩ => ?_))
  subst ex
  obtain rfl : ov = Value.ref a := r1
  exact wpAny_bind (wpAny_standAt (wpAny_bind (wpAny_holding (setattr_ok I1 ea c n hl r fun s3 I3 => wpAny_release ⟨σ, _, I3, q⟩))))
/-! ### o.m(e, .., k = v, ..) -/
def tMethN (C : Addr) (m : Str) (n j : Nat) (sp : Sp) (gV : List V → List V → List V) (E : XK) (ta : TE) (t tk : TA) : TE := fun σ H Q => ta σ H fun x H1 => ∃ a dx fs, x = .ref a ∧ H1 a = some (.ins C dx fs) ∧ fs.lookup m = none ∧
  t σ H1 fun vs H2 => tk σ H2 fun zs H3 => vs.length + 1 = n ∧ zs.length = j ∧ sp (gV (.ref a :: vs) zs) H3 Q E
section
variable {X : Cx} {CX : CXT} {k n : Nat} {f C : Addr} {fd : FuncData} {ps ks : List Str} {sp : Sp} {g : List Value → List Value → List Value} {gV : List V → List V → List V} {E : XK} {m : Str} {pos apos : Pos} {e o : Expr} {es : List Expr} {kws : List Keyword} {ta : TE} {t tk : TA}
theorem pe_methN {pl : Sem Bool} (he : PE X o ta) (c : Cls X.K C) (hm : Meth X.K C m f) (F : FnOk X.prog X.w X.K X.mg X.base CX k f fd ps sp) (hr : Room k X.A) (hb : KBn X.K fd ps n ks g gV) (hx : Passes CX X E) (ha : PA X (e :: es) t) (hkw : PK X kws tk)
    (hall : (backToKw pos (keywordEach kws X.env)).all (·.1.isSome) = true := by rfl) (hks : (backToKw pos (keywordEach kws X.env)).filterMap (·.1) = ks := by rfl)
    (hst : starEach (e :: es) X.env = (false, eval e X.env) :: starEach es X.env := by rfl) (hpl : ((backTo pos (starEach (e :: es) X.env)).any (·.1) || (backToKw pos (keywordEach kws X.env)).any (·.1.isNone)) = false := by rfl)
    (ht : eval (.Call (.Attribute o m apos) (e :: es) kws pos) X.env = (do
      let ov ← eval o X.env
      standAt apos.atName
      let (f, first) ← holding [ov] (getMethod ov m pl)
      callWith pos f first (backTo pos (starEach (e :: es) X.env)) (backToKw pos (keywordEach kws X.env))) := by rfl) :
    PE X (.Call (.Attribute o m apos) (e :: es) kws pos) (tMethN C m n ks.length sp gV E ta t tk) := by
  refine ⟨fun pins s σ H Q I h => ?_⟩
  refine PySem.W.methodCall_KW (pl := pl) (thn (he.run pins s σ H _ I h) fun u s1 ⟨x, H1, I1, rx, a, dx, fs, ex, ea, l, q⟩ => ?_) ht
  subst ex
  obtain rfl : u = Value.ref a := rx
  refine getmeth_ok I1 ea c hm l ?_
  refine PySem.W.callWith_KW (first := [.ref a]) (h₀ := X.base) I.ok.mod.kin hm.kp hall (thn (ha.run pos pins s1 σ H1 _ I1 q) fun us s2 ⟨vs, H2, I2, r, q2⟩ => ?_) hpl hst
  refine thn (hkw.run pos pins s2 σ H2 _ I2 q2) fun ws s3 ⟨zs, H3, I3, rz, l1, l2, q3⟩ => ⟨I3.kIn, ?_⟩
  rw [hks]
  exact run_fnN (us := .ref a :: us) (vs := .ref a :: vs) F hr hb hx I3 (.cons rfl r) rz l1 l2 q3
/-- no argument but keywords -/
theorem pe_methN0 {pl : Sem Bool} (he : PE X o ta) (c : Cls X.K C) (hm : Meth X.K C m f) (F : FnOk X.prog X.w X.K X.mg X.base CX k f fd ps sp) (hr : Room k X.A) (hb : KBn X.K fd ps n ks g gV) (hx : Passes CX X E) (hkw : PK X kws tk)
    (hall : (backToKw pos (keywordEach kws X.env)).all (·.1.isSome) = true := by rfl) (hks : (backToKw pos (keywordEach kws X.env)).filterMap (·.1) = ks := by rfl)
    (hpl : ((backTo pos (starEach [] X.env)).any (·.1) || (backToKw pos (keywordEach kws X.env)).any (·.1.isNone)) = false := by rfl)
    (ht : eval (.Call (.Attribute o m apos) [] kws pos) X.env = (do
      let ov ← eval o X.env
      standAt apos.atName
      let (f, first) ← holding [ov] (getMethod ov m pl)
      callWith pos f first (backTo pos (starEach [] X.env)) (backToKw pos (keywordEach kws X.env))) := by rfl) :
    PE X (.Call (.Attribute o m apos) [] kws pos) (tMethN C m n ks.length sp gV E ta tNil tk) := by
  refine ⟨fun pins s σ H Q I h => ?_⟩
  refine PySem.W.methodCall_KW (pl := pl) (thn (he.run pins s σ H _ I h) fun u s1 ⟨x, H1, I1, rx, a, dx, fs, ex, ea, l, q⟩ => ?_) ht
  subst ex
  obtain rfl : u = Value.ref a := rx
  refine getmeth_ok I1 ea c hm l ?_
  refine PySem.W.callWith_KW0 (first := [.ref a]) (h₀ := X.base) I.ok.mod.kin hm.kp hall ?_ hpl
  refine thn (hkw.run pos pins s1 σ H1 _ I1 q) fun ws s3 ⟨zs, H3, I3, rz, l1, l2, q3⟩ => ⟨I3.kIn, ?_⟩
  rw [hks]
  exact run_fnN (us := [.ref a]) (vs := [.ref a]) F hr hb hx I3 (.cons rfl .nil) rz l1 l2 q3
end
/-! ### enumerate(tuple) -/
theorem enum_newT (l : Addr) (its : Array Value) (n : Nat) (od : Option Addr) (sl : Array (Option Value)) :
    Meets (Builtin.«enumerate.__new__» ⟨[.type "enumerate", .ref l], []⟩) (fun _ R s => s.heap.get? l = some { cls := .type "tuple", dict := od, data := .seq its n, slots := sl } ∧
      R (.ok (.ret (.ref (s.heap.push { cls := .type "tuple_iterator", data := .fields #[.ref l, .int 0 0] }).objs.size)))
        { s with heap := (s.heap.push { cls := .type "tuple_iterator", data := .fields #[.ref l, .int 0 0] }).push { cls := .type "enumerate", data := .fields #[.none, .bool false, .ref s.heap.objs.size, rawInt 0, .none, .none] } }) :=
  .of_wp fun prog w A R s z => by
    obtain ⟨h0, gn, dw, tk, os⟩ := s; obtain ⟨hl, z⟩ := z
    have hsb := sub_enumerate
    have hT : Heap.IsTuple (Shared.heap ⟨h0, gn, dw, tk, os⟩) l its := ⟨_, hl, rfl, n, rfl⟩
    wp_walk using AutoSeq1.wpAny_loadPart' hl
    refine wpAny_stack_any fun stk => wpAny_pure ?_
    split
    · rename_i c _ _ _ _ _
      cases (c == Value.type "enumerate")
      · wp_walk using AutoSeq1.wpAny_loadPart' hl, wpAny_pyIter_tuple hT
        exact ⟨_, rfl, z⟩
      · wp_walk using AutoSeq1.wpAny_loadPart' hl, wpAny_pyIter_tuple hT
        exact ⟨_, rfl, z⟩
    · wp_walk using AutoSeq1.wpAny_loadPart' hl, wpAny_pyIter_tuple hT
      exact ⟨_, rfl, z⟩
section
variable {P : Program} {w : World} {A : Around} {E : Value → Shared → Prop} {s : Shared}
theorem call_enumT {l : Addr} {its : Array Value} {Q : Value → Shared → Prop} (hT : s.heap.IsTuple l its)
    (k : ∀ h2, IsEnum h2 (s.heap.objs.size + 1) s.heap.objs.size 0 .none → h2.IsTupleIter s.heap.objs.size l 0 → h2.objs.size = s.heap.objs.size + 2 →
      (∀ b o, s.heap.get? b = some o → h2.get? b = some o) → Q (.ref (s.heap.objs.size + 1)) { s with heap := h2 }) :
    wpAny (model P w) A (call (.type "enumerate") [.ref l]) Q E s := by
  obtain ⟨⟨oc, od, dt, sl⟩, hl, hc, n, hd⟩ := hT
  replace hc : oc = .type "tuple" := hc
  replace hd : dt = .seq its n := hd
  subst hc hd
  refine callType_new F.called_enumerate (by decide) (F.typeCall_enumerate_1 _) (F.newCall_enumerate_1 _) (fun ob => F.args_object_init_2 ob _) F.entry_enumerate_new (enum_newT l its n od sl) ⟨hl, ?_⟩
  have sz : (s.heap.push { cls := .type "tuple_iterator", data := .fields #[.ref l, .int 0 0] }).objs.size = s.heap.objs.size + 1 := Heap.size_push ..
  show _ ∧ _
  rw [sz]
  have en : IsEnum ((s.heap.push { cls := .type "tuple_iterator", data := .fields #[.ref l, .int 0 0] }).push
      { cls := .type "enumerate", data := .fields #[.none, .bool false, .ref s.heap.objs.size, rawInt 0, .none, .none] }) (s.heap.objs.size + 1) s.heap.objs.size 0 .none := by
    have z := Heap.get?_push_size (s.heap.push { cls := .type "tuple_iterator", data := .fields #[.ref l, .int 0 0] }) (o := { cls := .type "enumerate", data := .fields #[.none, .bool false, .ref s.heap.objs.size, rawInt 0, .none, .none] }) rfl
    rw [sz] at z
    exact z
  exact ⟨⟨_, en, rfl⟩, k _ en ⟨_, Heap.get?_push_of_some _ (Heap.get?_push_size _ rfl), rfl, rfl⟩ (by rw [Heap.size_push, sz]) fun b o x => Heap.get?_push_of_some _ (Heap.get?_push_of_some _ x)⟩
end
/-- the tuple at a, each item in a new pair -/
def IteT (K : PySem.W.Frag) (a : Addr) : It :=
  ⟨fun i H => ∃ (xs : List V) (x : V), SqT K H a xs ∧ xs[i]? = some x, fun i H v H' => ∃ T x, v = .ref T ∧ H T = none ∧ H' = upd H T (.tup [.int (i : Nat), x]) ∧ ∀ xs, SqT K H a xs → xs[i]? = some x, fun i H => ∃ xs : List V, SqT K H a xs ∧ xs.length ≤ i⟩
theorem turn_enumT {P : Program} {w : World} {K : PySem.W.Frag} {elts : List Expr} {kk : Nat} {tpos : Pos} (a e it : Addr) :
    Turn P w K (.Tuple elts kk tpos) (IteT K a) [e, it] e (fun i h => (∃ old, IsEnum h e it ((i : Nat) : Int) old) ∧ h.IsTupleIter it a i ∧ e ≠ it ∧ a ≠ it) where
  mem := List.mem_cons_self
  obj := fun i h st b hb => by
    obtain ⟨⟨old, hen⟩, ⟨o, ho, hc, hd⟩, _⟩ := st
    rcases List.mem_cons.mp hb with rfl | hb
    · exact ⟨_, hen, fun v q => nomatch q⟩
    · rw [List.mem_singleton.mp hb]; exact ⟨o, ho, fun v q => by rw [hd] at q; cases q⟩
  keep := fun i h h' st k => let ⟨⟨old, hen⟩, hi, hne, ha⟩ := st; ⟨⟨old, k e List.mem_cons_self _ hen⟩, hi.at fun o q => k it (List.mem_cons_of_mem _ List.mem_cons_self) o q, hne, ha⟩
  item := by
    intro X hP hw hK hc i pins s σ H E I hf st hg
    subst hP hw hK
    obtain ⟨⟨old, hen⟩, hit, hne, hat⟩ := st
    obtain ⟨xs, x, hq, hx⟩ := hg
    obtain ⟨its, rv, p, hz⟩ := I.tuple hq
    obtain ⟨u, hu, ru⟩ := rv.get hx
    have pT : s.heap.IsTuple a its.toArray := p
    have sze : e < s.heap.objs.size := Heap.lt_size hen
    have szi : it < s.heap.objs.size := by obtain ⟨_, q, _⟩ := hit; exact Heap.lt_size q
    have iL : i < its.length := (List.getElem?_eq_some_iff.mp hu).1
    refine wpAny_pyNext_enum_itemD (Draws.tuple (A := X.A.in1) (by exact I.ok.hd hc) it a hat its.toArray) hen ⟨hit, pT⟩ (by simpa using iL) hne (by
      intro z
      rcases List.mem_cons.mp z with z | z
      · exact hne z
      · obtain rfl := List.mem_singleton.mp z
        obtain ⟨oo, q1, q2, _⟩ := pT
        rw [show s.heap.get? e = _ from hen] at q1
        cases q1
        injection q2 with q3
        exact absurd q3 (by decide)) fun v h' tk hP ho hst hT hsz hk => ?_
    have ev : v = u := by
      have z : its.toArray[i]? = some v := hP
      rw [List.getElem?_toArray, hu] at z
      exact (Option.some.inj z).symm
    subst ev
    refine ⟨_, rfl, wpAny_letOwnedTupleGo_enum (s := { s with heap := h', toks := tk + 1 }) ho fun h'' hen2 sb => ?_⟩
    have hT2 : h''.get? s.heap.objs.size = some { cls := .type "tuple", data := .seq #[.int i tk, v] } := (sb.2 _ (Nat.ne_of_gt sze)).trans hT
    have new : ObjOk X.prog X.w (upd H s.heap.objs.size (.tup [.int (i : Nat), x])) h'' s.heap.objs.size (.tup [.int (i : Nat), x]) :=
      ⟨by show 2 ≤ sizeLine; decide, [.int i tk, v], .cons ⟨_, rfl⟩ (.cons ru .nil), ⟨_, hT2, rfl, _, rfl⟩⟩
    have I1 : Inv X pins σ (upd H s.heap.objs.size (.tup [.int (i : Nat), x])) { s with heap := h'', toks := tk + 1 } :=
      I.turnedNew (ch := [e, it]) (fun b ob hb q => (sb.2 b (fun z => hb (by rw [z]; exact List.mem_cons_self))).trans (hk b ob (fun z => hb (by rw [z]; exact List.mem_cons_self)) (fun z => hb (by rw [z]; exact List.mem_cons_of_mem _ List.mem_cons_self)) q)) hf (Nat.le_refl _) new
    refine ⟨.ref s.heap.objs.size, _, I1, rfl, ⟨_, x, rfl, I.hok.fresh (Nat.le_refl _), rfl, fun ys hy => by rw [I.tuple_inj hy hq]; exact hx⟩, ⟨⟨v, ?_⟩, hst.1.at fun o q => (sb.2 it (Ne.symm hne)).trans q, hne, hat⟩, fun b hb => ?_⟩
    · rw [show ((i + 1 : Nat) : Int) = (i : Int) + 1 by omega]; exact hen2
    · have hb2 : b < s.heap.objs.size := by
        rcases List.mem_cons.mp hb with z | z
        · rw [z]; exact sze
        · rw [List.mem_singleton.mp z]; exact szi
      rw [upd_ne (Nat.ne_of_lt hb2)]
      exact (hf b hb).1
  done := by
    intro X hP hw hK hc i pins s σ H E I hf st hg
    subst hP hw hK
    obtain ⟨⟨old, hen⟩, hit, hne, hat⟩ := st
    obtain ⟨xs, hq, hx⟩ := hg
    obtain ⟨its, rv, p, hz⟩ := I.tuple hq
    obtain ⟨f0, f1, f2, f3, f4, f5⟩ := hf it (List.mem_cons_of_mem _ List.mem_cons_self)
    have ll := rv.length
    have pT : s.heap.IsTuple a its.toArray := p
    have D : Draws X.prog X.w X.A.in1 it [it, a] i (fun _ _ => True) (fun j h => j = i ∧ h.IsTupleIter it a i ∧ h.IsTuple a its.toArray) :=
      { live := fun _ _ st => let ⟨o, ho, _⟩ := st.2.1; ⟨o, ho⟩
        frame := fun _ _ _ st hk => ⟨st.1, st.2.1.at fun o q => hk it List.mem_cons_self o q, st.2.2.at fun o q => hk a (List.mem_cons_of_mem _ List.mem_cons_self) o q⟩
        item := fun j _ _ _ hj st _ => absurd st.1 (Nat.ne_of_lt hj)
        done := fun _ _ _ st k => wpAny_nextOf_tuple_end (by exact I.ok.hd hc) st.2.1 st.2.2 (by simp; omega) k }
    exact wpAny_pyNext_enum_endD D hen ⟨rfl, hit, pT⟩ fun h' eb => ⟨rfl, I.turned (t' := s.toks) (fun b o hb q => eb b o hb q) f0 f1 f3 f4 f5⟩
  self := fun A i s Q E st h => let ⟨⟨_, hen⟩, _⟩ := st; wpAny_pyIter_enum hen h
/-- a list's or a tuple's items, each in a new pair -/
def iEnumU (K : PySem.W.Frag) (ta : TA) : TI := fun σ H R => ta σ H fun vs H1 => ∃ a, vs = [.ref a] ∧ ((∃ xs, SqL K H1 a xs ∧ R (Ite K a) H1) ∨ ∃ xs, SqT K H1 a xs ∧ R (IteT K a) H1)
theorem pi_enumU {X : Cx} {e : Expr} {ta : TA} {p pos tpos : Pos} {elts : List Expr} {kk : Nat} (K : PySem.W.Frag) (hK : X.K = K) (hg : Gl X "enumerate") (hm : X.mg "enumerate" = none) (ha : PA X [e] ta) (hs : starEach [e] X.env = [(false, eval e X.env)] := by rfl) :
    PI X (.Tuple elts kk tpos) (.Call (.Name "enumerate" p) [e] [] pos) (iEnumU K ta) := by
  subst hK
  refine ⟨fun pins s σ H R I h => ?_⟩
  refine Call_ (ld_blt I hg hm boot_enumerate (PyProof.Rows.callWith_type1 (thn (ha.run pos pins s σ H _ I h) fun us s1 ⟨vs, H1, I1, r1, q1⟩ => ?_) hs rfl))
  obtain ⟨a, ex, q⟩ := q1
  subst ex
  cases r1 with
  | cons r rr =>
    cases rr
    cases r
    have ge : ∀ b, b ∈ [s1.heap.objs.size + 1, s1.heap.objs.size] → s1.heap.objs.size ≤ b := fun b hb => by
      rcases List.mem_cons.mp hb with z | z
      · rw [z]; exact Nat.le_add_right _ _
      · rw [List.mem_singleton.mp z]; exact Nat.le_refl _
    rcases q with ⟨xs, hq, q⟩ | ⟨xs, hq, q⟩
    · obtain ⟨its, rv, p', hz⟩ := I1.list hq
      refine call_enumerate_list p'.isList fun h' he hit hsz hk => wpAny_pyIter_enum he ?_
      have I2 : Inv X pins σ H1 { s1 with heap := h' } := I1.kept (t' := s1.toks) hk
      exact ⟨s1.heap.objs.size + 1, [s1.heap.objs.size + 1, s1.heap.objs.size], _, _, H1, rfl, I2, turn_enum a (s1.heap.objs.size + 1) s1.heap.objs.size, ⟨⟨.none, he⟩, hit, Nat.succ_ne_self _⟩, fun b hb => I1.fpOk (ge b hb) (I1.hok.fresh (ge b hb)), q⟩
    · obtain ⟨its, rv, p', hz⟩ := I1.tuple hq
      have pT : s1.heap.IsTuple a its.toArray := p'
      have la : a < s1.heap.objs.size := by obtain ⟨_, q, _⟩ := pT; exact Heap.lt_size q
      refine call_enumT pT fun h' he hit hsz hk => wpAny_pyIter_enum he ?_
      have I2 : Inv X pins σ H1 { s1 with heap := h' } := I1.kept (t' := s1.toks) hk
      exact ⟨s1.heap.objs.size + 1, [s1.heap.objs.size + 1, s1.heap.objs.size], _, _, H1, rfl, I2, turn_enumT a (s1.heap.objs.size + 1) s1.heap.objs.size, ⟨⟨.none, he⟩, hit, Nat.succ_ne_self _, Nat.ne_of_lt la⟩, fun b hb => I1.fpOk (ge b hb) (I1.hok.fresh (ge b hb)), q⟩
/-! ### sep.join(xs) -/
def tJoinU (K : PySem.W.Frag) (to te : TE) : TE := tM1 (fun x xs H Q => ∃ a p, ∃ ys : List Str, x = .str a ∧ xs = [.ref p] ∧ (SqL K H p (ys.map V.str) ∨ SqT K H p (ys.map V.str)) ∧ (ys.map (·.length)).sum + ys.length * a.length ≤ 16777216 ∧ Q (.str (Txt.join a ys)) H) to te
theorem pe_joinU {X : Cx} {o e : Expr} {to te : TE} {apos pos : Pos} (K : PySem.W.Frag) (hK : X.K = K) (ho : PE X o to) (he : PE X e te) (hs : starEach [e] X.env = [(false, eval e X.env)] := by rfl) (hb : attributeBase o "join" X.env (eval o X.env) = eval o X.env := by rfl) (hl : (apos.endLine == pos.line) = true := by rfl) :
    PE X (.Call (.Attribute o "join" apos) [e] [] pos) (tJoinU K to te) := by
  subst hK
  exact L2.pe_join ho he hs hb hl
end Ls
-- own part: S5
namespace Ls
open PySem PySem.Spec PyProof.Rows L2
section
variable {K : PySem.W.Frag} {A B : As K} {L L' M N : List (As K)} {H H' : Hp} {a p l dx C : Addr} {o u : HO} {v x y : V} {d e : PyData} {vs xs ys : List V} {ds es : List PyData} {Q : VK} {D : Ends} {σ : L2.St} {i j : Int} {n : Nat} {b : Bool} {fs gs : List (Str × V)} {f m : Str} {sp : Sp} {E : XK} {dvs : List V} {ta te tv : TE} {t tk : TA}
/-! ### instances -/
def inst (a C : Addr) (fs : List (Str × V)) : As K := ⟨fun _ s H => ∃ dx, (∀ b, s b ↔ b = a ∨ b = dx) ∧ H a = some (.ins C dx fs) ∧ H dx = some (.own a), fun ⟨dx, e, h1, h2⟩ k _ => ⟨dx, e, (k a ((e a).mpr (.inl rfl))).trans h1, (k dx ((e dx).mpr (.inr rfl))).trans h2⟩, fun ⟨dx, e, h1, h2⟩ b z => by
  rcases (e b).mp z with rfl | rfl
  · exact ⟨_, h1, rfl⟩
  · exact ⟨_, h2, rfl⟩, fun h _ => h⟩
theorem Sep.insm (h : Sep L H) (m : inst a C fs ∈ L) : ∃ dx, H a = some (.ins C dx fs) := by
  obtain ⟨W, s, ⟨dx, _, h1, _⟩, _⟩ := h.the m
  exact ⟨dx, h1⟩
theorem Sep.setI (h : Sep (inst a C fs :: L) H) (e : H a = some (.ins C dx fs)) : Sep (inst a C gs :: L) (upd H a (.ins C dx gs)) := by
  obtain ⟨W, s, r, ⟨dx', es, h1, h2⟩, dj, _, k⟩ := h.hd
  rw [e] at h1
  cases h1
  have ne : dx ≠ a := fun z => by
    rw [z, e] at h2
    cases h2
  exact k (s' := s) ⟨dx, es, upd_same, by rw [upd_ne ne]; exact h2⟩ dj (fun b z => upd_ne fun y => dj b ((es b).mpr (.inl y)) z) (tp_upd e rfl)
theorem Sep.setIR (h : Sep L H) (r : Rep L (inst a C fs) (inst a C gs) M) (e : H a = some (.ins C dx fs)) : Sep M (upd H a (.ins C dx gs)) := by
  obtain ⟨N, h1, h2⟩ := Sep.rep r
  exact h2 _ ((h1 _ h).setI e)
theorem Sep.newInst (h : Sep L H) (ha : H a = none) (hd : H dx = none) (ne : dx ≠ a) : Sep (inst a C fs :: L) (upd (upd H dx (.own a)) a (.ins C dx fs)) := by
  have h1 := h.new (o := .own a) hd rfl
  have ha' : upd H dx (.own a) a = none := by rw [upd_ne (Ne.symm ne)]; exact ha
  have h2 := h1.new (o := .ins C dx fs) ha' rfl
  obtain ⟨W, s, f, s1, s2, dj, un, ⟨e1, g1, _⟩, t1, t2, dj2, un2, ⟨e2, g2, _⟩, h3⟩ := h2
  refine ⟨W, s, f, fun b => s1 b ∨ t1 b, t2, fun b x y => ?_, fun b => ?_, ⟨dx, fun b => ?_, g1, g2⟩, h3⟩
  · rcases x with x | x
    · exact dj b x ((un2 b).mpr (.inr y))
    · exact dj2 b x y
  · rw [un b, un2 b, or_assoc]
  · show s1 b ∨ t1 b ↔ _
    rw [e1 b, e2 b]
/-! readings -/
theorem k_fldt {R : V → Prop} (h : ∃ dx, H a = some (.ins C dx fs)) (c : Cls K C) (n : NoAttr K C f) (e : fs.lookup f = some v) (q : R v) : ∃ a' C' dx fs v', V.ref a = .ref a' ∧ H a' = some (.ins C' dx fs) ∧ Cls K C' ∧ NoAttr K C' f ∧ fs.lookup f = some v' ∧ R v' := by
  obtain ⟨dx, h⟩ := h
  exact ⟨a, C, dx, fs, v, rfl, h, c, n, e, q⟩
theorem k_fld (h : ta σ H fun x H1 => ∃ a C dx fs v, x = .ref a ∧ H1 a = some (.ins C dx fs) ∧ Cls K C ∧ NoAttr K C f ∧ fs.lookup f = some v ∧ Q v H1) : tFld K ta f σ H Q := h
theorem k_fldS {R : V → Prop} (h : Sep L H) (m : inst a C fs ∈ L) (c : Cls K C) (n : NoAttr K C f) (e : fs.lookup f = some v) (q : R v) : ∃ a' C' dx fs v', V.ref a = .ref a' ∧ H a' = some (.ins C' dx fs) ∧ Cls K C' ∧ NoAttr K C' f ∧ fs.lookup f = some v' ∧ R v' := k_fldt (h.insm m) c n e q
theorem k_sfld (h : tv σ H fun y H1 => ta σ H1 fun x H2 => ∃ a C dx fs, x = .ref a ∧ H2 a = some (.ins C dx fs) ∧ Cls K C ∧ NoAttr K C f ∧ fs.length < 1000 ∧ D.nx σ (upd H2 a (.ins C dx (putF f y fs)))) : sFld K ta tv f D σ H := h
theorem k_gfld {R : L2.St → Hp → Prop} (h : ta σ H fun x H2 => ∃ a C dx fs, x = .ref a ∧ H2 a = some (.ins C dx fs) ∧ Cls K C ∧ NoAttr K C f ∧ fs.length < 1000 ∧ R σ (upd H2 a (.ins C dx (putF f v fs)))) : gFld K ta f v σ H R := h
theorem k_putS' {R : Hp → Prop} (h : Sep L H) (r : Rep L (inst a C fs) (inst a C gs) M) (c : Cls K C) (n : NoAttr K C f) (hl : fs.length < 1000) (e : putF f y fs = gs) (q : ∀ H', Sep M H' → R H') : ∃ a' C' dx fs, V.ref a = .ref a' ∧ H a' = some (.ins C' dx fs) ∧ Cls K C' ∧ NoAttr K C' f ∧ fs.length < 1000 ∧ R (upd H a' (.ins C' dx (putF f y fs))) := by
  obtain ⟨dx, h1⟩ := h.insm r.mem
  subst e
  exact ⟨a, C, dx, fs, rfl, h1, c, n, hl, q _ (h.setIR r h1)⟩
theorem k_sfldaug {rd : V → V → Hp → VK → Prop} (h : ta σ H fun x H1 => ∃ a C dx fs v, x = .ref a ∧ H1 a = some (.ins C dx fs) ∧ Cls K C ∧ NoAttr K C f ∧ fs.lookup f = some v ∧
  tv σ H1 fun y H2 => rd v y H2 fun z H3 => ∃ dx' fs', H3 a = some (.ins C dx' fs') ∧ fs'.length < 1000 ∧ D.nx σ (upd H3 a (.ins C dx' (putF f z fs')))) : sFldAug K ta tv rd f D σ H := h
theorem k_augS {R : Hp → Prop} (h : Sep L H) (r : Rep L (inst a C fs) (inst a C gs) M) (hl : fs.length < 1000) (e : putF f y fs = gs) (q : ∀ H', Sep M H' → R H') : ∃ dx' fs', H a = some (.ins C dx' fs') ∧ fs'.length < 1000 ∧ R (upd H a (.ins C dx' (putF f y fs'))) := by
  obtain ⟨dx, h1⟩ := h.insm r.mem
  subst e
  exact ⟨dx, fs, h1, hl, q _ (h.setIR r h1)⟩
theorem k_inadd {R : V → Hp → Prop} (q : R (.int (i + j)) H) : rAdd (.int i) (.int j) H R := ⟨i, j, rfl, rfl, q⟩
theorem k_insub {R : V → Hp → Prop} (q : R (.int (i - j)) H) : rSub (.int i) (.int j) H R := ⟨i, j, rfl, rfl, q⟩
/-! calls -/
theorem k_meth (h : ta σ H fun x H1 => ∃ a dx fs, x = .ref a ∧ H1 a = some (.ins C dx fs) ∧ fs.lookup m = none ∧ t σ H1 fun vs H2 => sp (x :: (vs ++ dvs)) H2 Q E) : tMeth C m sp dvs E ta t σ H Q := h
theorem k_methN {gV : List V → List V → List V} {jn : Nat} (h : ta σ H fun x H1 => ∃ a dx fs, x = .ref a ∧ H1 a = some (.ins C dx fs) ∧ fs.lookup m = none ∧
  t σ H1 fun vs H2 => tk σ H2 fun zs H3 => vs.length + 1 = n ∧ zs.length = jn ∧ sp (gV (.ref a :: vs) zs) H3 Q E) : tMethN C m n jn sp gV E ta t tk σ H Q := h
theorem k_recv {R : Addr → Prop} (h : ∃ dx fs, H a = some (.ins C dx fs) ∧ fs.lookup m = none) (q : R a) : ∃ a' dx fs, V.ref a = .ref a' ∧ H a' = some (.ins C dx fs) ∧ fs.lookup m = none ∧ R a' := by
  obtain ⟨dx, fs, h1, h2⟩ := h
  exact ⟨a, dx, fs, rfl, h1, h2, q⟩
theorem k_recvI {R : Addr → Prop} (h : Sep L H) (w : inst a C fs ∈ L) (e : fs.lookup m = none) (q : R a) : ∃ a' dx fs, V.ref a = .ref a' ∧ H a' = some (.ins C dx fs) ∧ fs.lookup m = none ∧ R a' := by
  obtain ⟨dx, h1⟩ := h.insm w
  exact k_recv ⟨dx, fs, h1, e⟩ q
theorem k_make (h : t σ H fun vs H1 => ∀ x dx, H1 x = none → H1 dx = none → dx ≠ x → sp (.ref x :: (vs ++ dvs)) (upd (upd H1 dx (.own x)) x (.ins C dx [])) (fun v H2 => v = .non ∧ Q (.ref x) H2) E) : tMake C sp dvs E t σ H Q := h
theorem k_madeS {R : Addr → Hp → Prop} (h : Sep L H) (q : ∀ x H', Sep (inst x C [] :: L) H' → R x H') : ∀ x dx, H x = none → H dx = none → dx ≠ x → R x (upd (upd H dx (.own x)) x (.ins C dx [])) := fun x dx hx hd ne => q x _ (h.newInst hx hd ne)
/-! what a raising def lets out -/
def Lets (L : List (As K)) (C : Addr) (w : Str) (E : XK) : Prop := ∀ d H', Sep (ob d (.xd [("word", .str w)]) :: L) H' → E (.ref C) (some d) H'
/-- a def that lets nothing out where nothing is wished of it -/
theorem FnOk.quiet {P : Program} {w : World} {mg : Str → Option Value} {base : Heap} {k : Nat} {g : Addr} {fd : FuncData} {ps : List Str} {sp sp' : Sp} (F : FnOk P w K mg base (L2.CX P w) k g fd ps sp) (h : ∀ vs H Q E, sp' vs H Q E → sp vs H Q fun _ _ _ => False) : FnOk P w K mg base CX0 k g fd ps sp' :=
  ⟨fun vs H Q E q => F.len _ _ _ _ (h _ _ _ _ q), fun A outer s H args us vs Q E hr he hb hv hs => codeAny_mono (F.run A outer s H args us vs Q _ hr he hb hv (h _ _ _ _ hs)) fun r s' z => by
    cases r with
    | ok fl => cases fl <;> exact z
    | error e =>
      obtain ⟨_, _, _, _, _, _, _, _, _, _, _, _, z⟩ := z
      exact z⟩
end
end Ls
namespace Ls
open PySem PySem.Spec PyProof.Rows L2
section
variable {K : PySem.W.Frag} {L : List (As K)} {H H' : Hp} {xs : List V} {ds : List PyData} {o : HO} {kvs : List (Key × V)}
def updT (H : Hp) (p : Addr) (xs : List V) : Hp := upd H p (.tup xs)
def updL (H : Hp) (p : Addr) (xs : List V) : Hp := upd H p (.lst xs)
def updK (H : Hp) (p : Addr) (kvs : List (Key × V)) : Hp := upd H p (.dK kvs)
theorem updT_eq (p : Addr) : upd H p (.tup xs) = updT H p xs := rfl
theorem updL_eq (p : Addr) : upd H p (.lst xs) = updL H p xs := rfl
theorem updK_eq (p : Addr) : upd H p (.dK kvs) = updK H p kvs := rfl
variable {p : Addr}
theorem ar_I (h : Sep L H) (hp : H p = none) (e : updT H p xs = H') (t : DatAll L xs ds) : Sep (im (.ref p) (.tuple ds) :: L) H' := al_I h hp e t
theorem ar_T (h : Sep L H) (hp : H p = none) (e : updT H p xs = H') : Sep (tu p xs :: L) H' := al_T h hp e
theorem ar_L (h : Sep L H) (hp : H p = none) (e : updL H p xs = H') (t : DatAll L xs ds) : Sep (ld p ds :: L) H' := al_L h hp e t
theorem ar_O (h : Sep L H) (hp : H p = none) (e : updL H p xs = H') : Sep (ob p (.lst xs) :: L) H' := al_O h hp e rfl
theorem ar_K (h : Sep L H) (hp : H p = none) (e : updK H p kvs = H') : Sep (ob p (.dK kvs) :: L) H' := al_O h hp e rfl
end
end Ls
namespace Ls
theorem andThen {a b : Prop} (h : a) (k : a → b) : b := k h
end Ls
-- own part: U14
namespace Ls
open PySem PySem.Spec PyProof.Rows L2
section
variable {X : Cx}
theorem kSF {st : Stmt} {ta tv : TE} {f : Str} (K : PySem.W.Frag) (hK : X.K = K) (h : PS X st (sFld X.K ta tv f)) : PS X st (sFld K ta tv f) := hK ▸ h
theorem kSFA {st : Stmt} {ta tv : TE} {rd : V → V → Hp → VK → Prop} {f : Str} (K : PySem.W.Frag) (hK : X.K = K) (h : PS X st (sFldAug X.K ta tv rd f)) : PS X st (sFldAug K ta tv rd f) := hK ▸ h
/-- the items of a list or a tuple -/
def iSeqU (K : PySem.W.Frag) (te : TE) : TI := fun σ H R => te σ H fun x H1 => ∃ a, x = .ref a ∧ (((∃ xs, SqL K H1 a xs) ∧ R (Itl K a) H1) ∨ ((∃ xs, SqT K H1 a xs) ∧ R (Itt K a) H1))
theorem pi_seqU {tg e : Expr} {te : TE} (K : PySem.W.Frag) (hK : X.K = K) (he : PE X e te) : PI X tg e (iSeqU K te) := by
  subst hK
  refine ⟨fun pins s σ H R I h => ?_⟩
  refine thn (he.run pins s σ H _ I h) fun v s1 ⟨x, H1, I1, r1, a, ex, q⟩ => ?_
  subst ex
  obtain rfl : v = Value.ref a := r1
  have fp : ∀ b ∈ [s1.heap.objs.size], FpOk X pins H1 b := fun b hb => by
    rw [List.mem_singleton.mp hb]
    exact I1.fpOk (Nat.le_refl _) (I1.hok.fresh (Nat.le_refl _))
  rcases q with ⟨⟨xs, hq⟩, q⟩ | ⟨⟨xs, hq⟩, q⟩
  · obtain ⟨its, rv, p, hz⟩ := I1.list hq
    refine wpAny_pyIter_list p.isList ?_
    exact ⟨s1.heap.objs.size, [s1.heap.objs.size], _, _, H1, rfl, I1.kept (t' := s1.toks) fun b o z => Heap.get?_push_of_some _ z, turn_list a _, ⟨_, Heap.get?_push_size _ rfl, rfl, rfl⟩, fp, q⟩
  · obtain ⟨its, rv, p, hz⟩ := I1.tuple hq
    refine wpAny_pyIter_tuple (show s1.heap.IsTuple a its.toArray from p) ?_
    exact ⟨s1.heap.objs.size, [s1.heap.objs.size], _, _, H1, rfl, I1.kept (t' := s1.toks) fun b o z => Heap.get?_push_of_some _ z, turn_tuple a _, ⟨_, Heap.get?_push_size _ rfl, rfl, rfl⟩, fp, q⟩
end
section
variable {P : Program} {w : World} {K : PySem.W.Frag} {x qual : Str} {params : Arguments} {body : List Stmt} {scope : Scope} {kws : List (Str × V)} {f : Addr} {fd : FuncData} {ps : List Str}
/-- all keyword-only parameters are given -/
theorem kbindsN (F : FunD K x qual params body scope [] kws f fd) (n : Nat) (ks : List Str) (g : {α : Type} → List α → List α → List α)
    (hrel : ∀ {vs zs : List V} {us ws : List Value}, Vals vs us → Vals zs ws → Vals (g vs zs) (g us ws))
    (h : ∀ (kV doc pm : Value) (an : Option Addr) (cdv ct : Value) (us ws : List Value), us.length = n → ws.length = ks.length → bindArgs (PySem.W.fnOf x qual params body scope .none kV doc pm an cdv ct) ⟨us, ks.zip ws⟩ = pure (ps.zip (g us ws))) :
    KBn K fd ps n ks (fun us ws => g us ws) (fun vs zs => g vs zs) := by
  obtain ⟨oc, od, dV, kV, doc, pm, an, cdv, ct, osl, rfl, lk, hcd, hD, hK⟩ := F.ex
  rcases hD with ⟨_, rfl⟩ | ⟨e, _⟩
  · exact ⟨fun s us ws X l1 l2 => .of_eq (h kV doc pm an cdv ct us ws l1 l2), fun r1 r2 => hrel r1 r2⟩
  · exact absurd rfl e
end
end Ls
-- own part: S6
namespace Ls
open PySem PySem.Spec PyProof.Rows L2
section
variable {K : PySem.W.Frag} {A B : As K} {L L' M N : List (As K)} {H H' : Hp} {a p l dx C : Addr} {o u : HO} {v x y : V} {d e : PyData} {vs xs ys : List V} {ds es : List PyData} {Q : VK} {D : Ends} {σ : L2.St} {i j : Int} {n : Nat} {b : Bool} {ta te tv to : TE} {t tk : TA}
theorem k_joinU (h : to σ H fun x H1 => (∃ a, x = .str a) ∧ te σ H1 fun y H2 => ∃ a p, ∃ ys : List Str, x = .str a ∧ [y] = [.ref p] ∧ (SqL K H2 p (ys.map V.str) ∨ SqT K H2 p (ys.map V.str)) ∧ (ys.map (·.length)).sum + ys.length * a.length ≤ 16777216 ∧ Q (.str (Txt.join a ys)) H2) : tJoinU K to te σ H Q := h
theorem k_strX {z : Str} {P : Prop} (h : P) : (∃ a, V.str z = .str a) ∧ P := ⟨⟨z, rfl⟩, h⟩
theorem k_glueS {z : Str} {zs : List Str} {R : Str → List Str → Prop} (h : Sep L H) (m : ld p (zs.map PyData.str) ∈ L) (hl : (zs.map (·.length)).sum + zs.length * z.length ≤ 16777216) (q : R z zs) : ∃ a p', ∃ ys : List Str, V.str z = .str a ∧ [V.ref p] = [.ref p'] ∧ (SqL K H p' (ys.map V.str) ∨ SqT K H p' (ys.map V.str)) ∧ (ys.map (·.length)).sum + ys.length * a.length ≤ 16777216 ∧ R a ys := by
  obtain ⟨xs, h1, h2⟩ := h.ldm m
  cases ims_str h2
  exact ⟨z, p, zs, rfl, rfl, .inl (sql_of h1), hl, q⟩
theorem k_iseq {te : TE} {R : It → Hp → Prop} (h : te σ H fun x H1 => ∃ a, x = .ref a ∧ (((∃ xs, SqL K H1 a xs) ∧ R (Itl K a) H1) ∨ ((∃ xs, SqT K H1 a xs) ∧ R (Itt K a) H1))) : iSeqU K te σ H R := h
theorem k_seqD {R R' : Addr → Prop} (h : Sep L H) (m : ld a ds ∈ L) (q : R a) : ∃ b, V.ref a = .ref b ∧ (((∃ xs, SqL K H b xs) ∧ R b) ∨ ((∃ xs, SqT K H b xs) ∧ R' b)) := by
  obtain ⟨xs, h1, _⟩ := h.ldm m
  exact ⟨a, rfl, .inl ⟨⟨xs, sql_of h1⟩, q⟩⟩
theorem k_seqO {R R' : Addr → Prop} (h : Sep L H) (m : ob a (.lst xs) ∈ L) (q : R a) : ∃ b, V.ref a = .ref b ∧ (((∃ xs, SqL K H b xs) ∧ R b) ∨ ((∃ xs, SqT K H b xs) ∧ R' b)) :=
  ⟨a, rfl, .inl ⟨⟨xs, sql_of (h.obm m)⟩, q⟩⟩
theorem k_seqI {R R' : Addr → Prop} (h : Sep L H) (m : im (.ref a) (.tuple ds) ∈ L) (q : R' a) : ∃ b, V.ref a = .ref b ∧ (((∃ xs, SqL K H b xs) ∧ R b) ∨ ((∃ xs, SqT K H b xs) ∧ R' b)) := by
  obtain ⟨a', xs, e, h1, h2⟩ := im_tup (h.imm m)
  cases e
  exact ⟨a, rfl, .inr ⟨⟨xs, h1⟩, q⟩⟩
theorem k_enum {R : It → Hp → Prop} (h : t σ H fun vs H1 => ∃ a, vs = [.ref a] ∧ ((∃ xs, SqL K H1 a xs ∧ R (Ite K a) H1) ∨ ∃ xs, SqT K H1 a xs ∧ R (IteT K a) H1)) : iEnumU K t σ H R := h
theorem k_enD {R R' : Addr → Prop} (h : Sep L H) (m : ld a ds ∈ L) (q : R a) : ∃ b, [V.ref a] = [.ref b] ∧ ((∃ xs, SqL K H b xs ∧ R b) ∨ ∃ xs, SqT K H b xs ∧ R' b) := by
  obtain ⟨xs, h1, _⟩ := h.ldm m
  exact ⟨a, rfl, .inl ⟨xs, sql_of h1, q⟩⟩
theorem k_enO {R R' : Addr → Prop} (h : Sep L H) (m : ob a (.lst xs) ∈ L) (q : R a) : ∃ b, [V.ref a] = [.ref b] ∧ ((∃ xs, SqL K H b xs ∧ R b) ∨ ∃ xs, SqT K H b xs ∧ R' b) := ⟨a, rfl, .inl ⟨xs, sql_of (h.obm m), q⟩⟩
theorem k_enI {R R' : Addr → Prop} (h : Sep L H) (m : im (.ref a) (.tuple ds) ∈ L) (q : R' a) : ∃ b, [V.ref a] = [.ref b] ∧ ((∃ xs, SqL K H b xs ∧ R b) ∨ ∃ xs, SqT K H b xs ∧ R' b) := by
  obtain ⟨a', xs, e, h1, h2⟩ := im_tup (h.imm m)
  cases e
  exact ⟨a, rfl, .inr ⟨xs, h1, q⟩⟩
/-! enumerate: each item in a new pair -/
theorem tup_new {q : Nat → Prop} : True := trivial
theorem wk_enO (m : ob a (.lst xs) ∈ L) : Wk (Ite K a) L xs.length fun i q => ∀ v T, xs[i]? = some v → q (.ref T) [tu T [.int (i : Nat), v]] where
  go := fun i H hi h => ⟨xs, xs[i], sql_of (h.obm m), List.getElem?_eq_getElem hi⟩
  yl := fun i H x H' R hi h ⟨T, v, e, hT, e2, y⟩ q => by
    subst e e2
    exact q v T (y xs (sql_of (h.obm m))) _ (h.newT hT)
  st := fun H h => ⟨xs, sql_of (h.obm m), Nat.le_refl _⟩
theorem wk_enI {α : Type} {zs : List α} {f : α → PyData} (m : im (.ref a) (.tuple (zs.map f)) ∈ L) : Wk (IteT K a) L zs.length fun i q => ∀ z T, zs[i]? = some z → q (.ref T) [im (.ref T) (.tuple [.int (i : Nat), f z])] where
  go := fun i H hi h => by
    obtain ⟨a', xs, e, h1, h2⟩ := im_tup (h.imm m)
    cases e
    have hx : i < xs.length := by rw [h2.length, List.length_map]; exact hi
    exact ⟨xs, xs[i], h1, List.getElem?_eq_getElem hx⟩
  yl := fun i H x H' R hi h ⟨T, v, e, hT, e2, y⟩ q => by
    subst e e2
    obtain ⟨a', xs, e, h1, h2⟩ := im_tup (h.imm m)
    cases e
    obtain ⟨d, hd, hm⟩ := h2.get (y xs h1)
    rw [List.getElem?_map] at hd
    obtain ⟨z, hz, rfl⟩ := Option.map_eq_some_iff.mp hd
    refine q z T hz _ (Sep.im_iff.mpr ⟨?_, h.same (same_new hT)⟩)
    exact .tup (sqt_of upd_same) (.cons (.int _) (.cons (hm.mono (Tp.new hT)) .nil))
  st := fun H h => by
    obtain ⟨a', xs, e, h1, h2⟩ := im_tup (h.imm m)
    cases e
    exact ⟨xs, h1, by rw [h2.length, List.length_map]; exact Nat.le_refl _⟩
theorem wk_enD {α : Type} {zs : List α} {f : α → PyData} (m : ld a (zs.map f) ∈ L) : Wk (Ite K a) L zs.length fun i q => ∀ z T, zs[i]? = some z → q (.ref T) [im (.ref T) (.tuple [.int (i : Nat), f z])] where
  go := fun i H hi h => by
    obtain ⟨xs, h1, h2⟩ := h.ldm m
    have hx : i < xs.length := by rw [h2.length, List.length_map]; exact hi
    exact ⟨xs, xs[i], sql_of h1, List.getElem?_eq_getElem hx⟩
  yl := fun i H x H' R hi h ⟨T, v, e, hT, e2, y⟩ q => by
    subst e e2
    obtain ⟨xs, h1, h2⟩ := h.ldm m
    obtain ⟨d, hd, hm⟩ := h2.get (y xs (sql_of h1))
    rw [List.getElem?_map] at hd
    obtain ⟨z, hz, rfl⟩ := Option.map_eq_some_iff.mp hd
    refine q z T hz _ (Sep.im_iff.mpr ⟨?_, h.same (same_new hT)⟩)
    exact .tup (sqt_of upd_same) (.cons (.int _) (.cons (hm.mono (Tp.new hT)) .nil))
  st := fun H h => by
    obtain ⟨xs, h1, h2⟩ := h.ldm m
    exact ⟨xs, sql_of h1, by rw [h2.length, List.length_map]; exact Nat.le_refl _⟩
/-! a tuple, a list made of a list -/
theorem k_tupleS (h : Sep L H) (m : ld a ds ∈ L) (q : ∀ p H', Sep (im (.ref p) (.tuple ds) :: L) H' → Q (.ref p) H') : rTupleU K [.ref a] H Q := by
  obtain ⟨xs, h1, h2⟩ := h.ldm m
  refine ⟨a, xs, rfl, .inl ⟨sql_of h1, fun p hp => q p _ (Sep.im_iff.mpr ⟨?_, h.same (same_new hp)⟩)⟩⟩
  exact .tup (sqt_of upd_same) (h2.mono (Tp.new hp))
theorem k_listS (h : Sep L H) (m : ld a ds ∈ L) (q : ∀ p H', Sep (ld p ds :: L) H' → Q (.ref p) H') : rListU K [.ref a] H Q := by
  obtain ⟨xs, h1, h2⟩ := h.ldm m
  refine ⟨a, xs, rfl, .inl (sql_of h1), fun p hp => q p _ ?_⟩
  have z := (h.newD (p := p) (xs := []) (ds := []) hp .nil).setD (xs := xs) (es := ds) (h2.mono (Tp.new hp))
  have e : upd (upd H p (.lst [])) p (.lst xs) = upd H p (.lst xs) := by
    funext b
    by_cases hb : b = p
    · rw [hb, upd_same, upd_same]
    · rw [upd_ne hb, upd_ne hb, upd_ne hb]
  rw [e] at z
  exact z
theorem k_listO (h : Sep L H) (m : ob a (.lst xs) ∈ L) (q : ∀ p H', Sep (ob p (.lst xs) :: L) H' → Q (.ref p) H') : rListU K [.ref a] H Q := ⟨a, xs, rfl, .inl (sql_of (h.obm m)), fun p hp => q p _ (h.new hp rfl)⟩
theorem k_sumS {α : Type} {zs : List α} {f : α → Int} (h : Sep L H) (m : ld a (zs.map fun z => PyData.int (f z)) ∈ L) (q : Q (.int (zs.map f).sum) H) : rSum K [.ref a] H Q := by
  obtain ⟨xs, h1, h2⟩ := h.ldm m
  have e : (zs.map fun z => PyData.int (f z)) = (zs.map f).map PyData.int := by rw [List.map_map]; rfl
  rw [e] at h2
  cases ims_int h2
  exact ⟨_, _, rfl, sql_of h1, q⟩
end
end Ls
namespace Ls
open PySem PySem.Spec PyProof.Rows L2
section
variable {K : PySem.W.Frag} {A B : As K} {L L' M N : List (As K)} {H H' : Hp} {a p l : Addr} {v x y : V} {d e : PyData} {vs xs ys : List V} {ds es : List PyData} {Q : VK} {σ : L2.St} {i j : Int} {n : Nat}
theorem k_min2 (q : Q (.int (if j < i then j else i)) H) : rMinU K [.int i, .int j] H Q := .inl ⟨i, j, rfl, q⟩
theorem k_max2 (q : Q (.int (if j > i then j else i)) H) : rMaxU K [.int i, .int j] H Q := .inl ⟨i, j, rfl, q⟩
theorem k_addD (h : Sep L H) (m : ld a ds ∈ L) (m2 : ld l es ∈ L) (hl : ds.length + es.length ≤ sizeLine) (q : ∀ p H', Sep (ld p (ds ++ es) :: L) H' → Q (.ref p) H') : rAddU K (.ref a) (.ref l) H Q := by
  obtain ⟨xs, h1, h2⟩ := h.ldm m
  obtain ⟨ys, h3, h4⟩ := h.ldm m2
  refine k_addL h1 h3 (by rw [h2.length, h4.length]; exact hl) fun p hp => q p _ ?_
  have z := (h.newD (p := p) (xs := []) (ds := []) hp .nil).setD (xs := xs ++ ys) (es := ds ++ es) ((h2.app h4).mono (Tp.new hp))
  have e : upd (upd H p (.lst [])) p (.lst (xs ++ ys)) = upd H p (.lst (xs ++ ys)) := by
    funext b
    by_cases hb : b = p
    · rw [hb, upd_same, upd_same]
    · rw [upd_ne hb, upd_ne hb, upd_ne hb]
  rw [e] at z
  exact z
theorem mem_dec {α : Type} [DecidableEq α] (z w : α) (zs : List α) {b : Bool} (h : b = decide (w = z)) : (b || decide (z ∈ zs)) = decide (z ∈ w :: zs) := by
  subst h
  by_cases e : w = z
  · subst e
    rw [decide_eq_true rfl, Bool.true_or]
    exact (decide_eq_true List.mem_cons_self).symm
  · rw [decide_eq_false e, Bool.false_or]
    exact decide_eq_decide.mpr ⟨List.mem_cons_of_mem _, fun m => (List.mem_cons.mp m).resolve_left fun y => e y.symm⟩
theorem inV_str (z : Str) : ∀ zs : List Str, inV (.str z) (zs.map V.str) = decide (z ∈ zs)
  | [] => rfl
  | w :: zs => by
    have ih := inV_str z zs
    unfold inV at ih ⊢
    rw [List.map_cons, List.any_cons, ih]
    exact mem_dec _ _ _ (by rw [Bool.eq_iff_iff, decide_eq_true_eq]; exact beq_iff_eq)
theorem inV_int (z : Int) : ∀ zs : List Int, inV (.int z) (zs.map V.int) = decide (z ∈ zs)
  | [] => rfl
  | w :: zs => by
    have ih := inV_int z zs
    unfold inV at ih ⊢
    rw [List.map_cons, List.any_cons, ih]
    exact mem_dec _ _ _ (by rw [Bool.eq_iff_iff, decide_eq_true_eq]; exact beq_iff_eq)
theorem flat_strs (zs : List Str) : (zs.map V.str).all flatV = true := by
  rw [List.all_map, List.all_eq_true]
  intro z _
  rfl
theorem flat_ints (zs : List Int) : (zs.map V.int).all flatV = true := by
  rw [List.all_map, List.all_eq_true]
  intro z _
  rfl
theorem k_inS {z : Str} {zs : List Str} (h : Sep L H) (m : ld p (zs.map PyData.str) ∈ L) (q : Q (.bl (decide (z ∈ zs))) H) : rInU K (.str z) (.ref p) H Q := by
  obtain ⟨xs, h1, h2⟩ := h.ldm m
  cases ims_str h2
  exact .inl ⟨p, _, rfl, .inl (sql_of h1), rfl, flat_strs zs, by rw [if_neg (by decide), inV_str]; exact q⟩
theorem k_notinS {z : Str} {zs : List Str} (h : Sep L H) (m : ld p (zs.map PyData.str) ∈ L) (q : Q (.bl (!decide (z ∈ zs))) H) : rNotInU K (.str z) (.ref p) H Q := by
  obtain ⟨xs, h1, h2⟩ := h.ldm m
  cases ims_str h2
  exact .inl ⟨p, _, rfl, .inl (sql_of h1), rfl, flat_strs zs, by rw [if_pos rfl, inV_str]; exact q⟩
theorem k_inI {z : Int} {zs : List Int} (h : Sep L H) (m : ld p (zs.map PyData.int) ∈ L) (q : Q (.bl (decide (z ∈ zs))) H) : rInU K (.int z) (.ref p) H Q := by
  obtain ⟨xs, h1, h2⟩ := h.ldm m
  cases ims_int h2
  exact .inl ⟨p, _, rfl, .inl (sql_of h1), rfl, flat_ints zs, by rw [if_neg (by decide), inV_int]; exact q⟩
theorem k_notinI {z : Int} {zs : List Int} (h : Sep L H) (m : ld p (zs.map PyData.int) ∈ L) (q : Q (.bl (!decide (z ∈ zs))) H) : rNotInU K (.int z) (.ref p) H Q := by
  obtain ⟨xs, h1, h2⟩ := h.ldm m
  cases ims_int h2
  exact .inl ⟨p, _, rfl, .inl (sql_of h1), rfl, flat_ints zs, by rw [if_pos rfl, inV_int]; exact q⟩
end
end Ls
-- own part: U15
namespace Ls
open PySem PySem.Spec PyProof.Rows L2
/-! ### a op b op c op d -/
def tChain3 (r r' r'' : R2) (ta tb tc td : TE) : TE := fun σ H Q => ta σ H fun x H1 => tb σ H1 fun y H2 => r x y H2 fun z H3 => ∃ k, z = .bl k ∧
  (if k = true then tc σ H3 fun v H4 => r' y v H4 fun z2 H5 => ∃ k2, z2 = .bl k2 ∧ (if k2 = true then td σ H5 fun w H6 => r'' v w H6 Q else Q (.bl false) H5) else Q (.bl false) H3)
section
variable {X : Cx} {a b c d : Expr} {pos : Pos} {o1 o2 o3 : CmpOp} {r r' r'' : R2} {ta tb tc td : TE}
theorem pe_chain3 (h1 : OpR X (compareOp o1) r) (h2 : OpR X (compareOp o2) r') (h3 : OpR X (compareOp o3) r'') (ha : PE X a ta) (hb : PE X b tb) (hc : PE X c tc) (hd : PE X d td)
    (hm : lastMarks [o1, o2, o3] [b, c, d] = false := by with_unfolding_all rfl) : PE X (.Compare a [o1, o2, o3] [b, c, d] pos) (tChain3 r r' r'' ta tb tc td) := by
  refine ⟨fun pins s σ H Q I h => ?_⟩
  refine Compare_chain (thn (ha.run pins s σ H _ I h) fun v s1 ⟨x, H1, I1, r1, q1⟩ => chain_link (thn (hb.run pins s1 σ H1 _ I1 q1) fun u s2 ⟨y, H2, I2, r2, q2⟩ =>
    thn (h1 pins s2 σ H2 x y v u _ I2 r1 r2 q2) fun e s3 ⟨z, H3, I3, r3, k, ez, q3⟩ => ?_)) hm
  subst ez
  cases r3
  refine wpAny_truthy_bool ?_
  cases k with
  | false => exact ite_ff ⟨.bl false, H3, I3, rfl, q3⟩
  | true =>
    refine ite_tt (chain_link (thn (hc.run pins s3 σ H3 _ I3 q3) fun u4 s4 ⟨y4, H4, I4, r4, q4⟩ => thn (h2 pins s4 σ H4 y y4 u u4 _ I4 r2 r4 q4) fun e5 s5 ⟨z5, H5, I5, r5, k5, ez5, q5⟩ => ?_))
    subst ez5
    cases r5
    refine wpAny_truthy_bool ?_
    cases k5 with
    | false => exact ite_ff ⟨.bl false, H5, I5, rfl, q5⟩
    | true => exact ite_tt (chain_last (thn (hd.run pins s5 σ H5 _ I5 q5) fun u6 s6 ⟨y6, H6, I6, r6, q6⟩ => h3 pins s6 σ H6 y4 y6 u4 u6 Q I6 r4 r6 q6))
theorem pt_chain3 (h1 : OpR X (compareOp o1) r) (h2 : OpR X (compareOp o2) r') (h3 : OpR X (compareOp o3) r'') (ha : PE X a ta) (hb : PE X b tb) (hc : PE X c tc) (hd : PE X d td)
    (hm : lastMarks [o1, o2, o3] [b, c, d] = false := by with_unfolding_all rfl) : PT X (.Compare a [o1, o2, o3] [b, c, d] pos) (tTest (tChain3 r r' r'' ta tb tc td)) := by
  refine ⟨fun pins s σ H Q I h => ?_⟩
  refine isTrue_chain (thn (ha.run pins s σ H _ I h) fun v s1 ⟨x, H1, I1, r1, q1⟩ => test_link (thn (hb.run pins s1 σ H1 _ I1 q1) fun u s2 ⟨y, H2, I2, r2, q2⟩ =>
    thn (h1 pins s2 σ H2 x y v u _ I2 r1 r2 q2) fun e s3 ⟨z, H3, I3, r3, k, ez, q3⟩ => ?_)) hm
  subst ez
  cases r3
  refine wpAny_truthy_bool ?_
  cases k with
  | false =>
    obtain ⟨k', e', q'⟩ := q3
    cases e'
    exact ite_ff ⟨H3, I3, q'⟩
  | true =>
    refine ite_tt (test_link (thn (hc.run pins s3 σ H3 _ I3 q3) fun u4 s4 ⟨y4, H4, I4, r4, q4⟩ => thn (h2 pins s4 σ H4 y y4 u u4 _ I4 r2 r4 q4) fun e5 s5 ⟨z5, H5, I5, r5, k5, ez5, q5⟩ => ?_))
    subst ez5
    cases r5
    refine wpAny_truthy_bool ?_
    cases k5 with
    | false =>
      obtain ⟨k', e', q'⟩ := q5
      cases e'
      exact ite_ff ⟨H5, I5, q'⟩
    | true =>
      refine ite_tt (test_last (thn (hd.run pins s5 σ H5 _ I5 q5) fun u6 s6 ⟨y6, H6, I6, r6, q6⟩ => thn (h3 pins s6 σ H6 y4 y6 u4 u6 _ I6 r4 r6 q6) fun e7 s7 ⟨z7, H7, I7, r7, k7, ez7, q7⟩ => ?_))
      subst ez7
      cases r7
      exact wpAny_truthy_bool ⟨H7, I7, q7⟩
end
theorem k_chain3 {r r' r'' : R2} {ta tb tc td : TE} {σ : L2.St} {H : Hp} {Q : VK} (h : ta σ H fun x H1 => tb σ H1 fun y H2 => r x y H2 fun z H3 => ∃ k, z = .bl k ∧
  (if k = true then tc σ H3 fun v H4 => r' y v H4 fun z2 H5 => ∃ k2, z2 = .bl k2 ∧ (if k2 = true then td σ H5 fun w H6 => r'' v w H6 Q else Q (.bl false) H5) else Q (.bl false) H3)) : tChain3 r r' r'' ta tb tc td σ H Q := h
end Ls
-- own part: S7
namespace Ls
open PySem PySem.Spec PyProof.Rows L2
section
variable {K : PySem.W.Frag} {A B : As K} {L L' M N : List (As K)} {H H' : Hp} {a p l dx C : Addr} {o u : HO} {v x y : V} {d e : PyData} {vs xs ys : List V} {ds es : List PyData} {Q : VK} {D : Ends} {σ : L2.St} {i j : Int} {n : Nat} {b : Bool} {ta te tv to : TE} {t tk : TA} {fs : List (Str × V)}
/-- an instance that never changes any more -/
def fzI (a C : Addr) (fs : List (Str × V)) : As K := persW (fun W _ => ∃ dx, W a (.ins C dx fs) ∧ W dx (.own a)) (fun _ _ _ _ h => h) fun _ _ _ e ⟨dx, h1, h2⟩ => ⟨dx, e _ _ h1, e _ _ h2⟩
instance : Dup (fzI (K := K) a C fs) := ⟨fun z => z.1⟩
theorem Sep.fzIm (h : Sep L H) (m : fzI a C fs ∈ L) : ∃ dx, H a = some (.ins C dx fs) := by
  obtain ⟨W, s, ⟨_, dx, h1, h2⟩, f⟩ := h.the m
  exact ⟨dx, (f _ _ h1).1⟩
theorem Sep.freezeI (h : Sep (inst a C fs :: L) H) : Sep (fzI a C fs :: L) H := by
  obtain ⟨W, s, f, s1, s2, d, u, ⟨dx, e, h1, h2⟩, h3⟩ := h
  refine ⟨fun b x => W b x ∨ (b = a ∧ x = .ins C dx fs) ∨ (b = dx ∧ x = .own a), s2, fun b x z => ?_, fun _ => False, s2, fun _ z => z.elim, fun b => ⟨.inr, fun z => z.elim False.elim id⟩, ⟨fun _ z => z, dx, .inr (.inl ⟨rfl, rfl⟩), .inr (.inr ⟨rfl, rfl⟩)⟩, h3.mo fun b x z => .inl z⟩
  rcases z with z | ⟨rfl, rfl⟩ | ⟨rfl, rfl⟩
  · exact ⟨(f b x z).1, (f b x z).2.1, fun y => (f b x z).2.2 ((u b).mpr (.inr y))⟩
  · exact ⟨h1, rfl, fun y => d b ((e b).mpr (.inl rfl)) y⟩
  · exact ⟨h2, rfl, fun y => d b ((e b).mpr (.inr rfl)) y⟩
/-- one of them to the front, and back -/
theorem Rem.fold (m : A ∈ L) : ∃ M, (∀ H, Sep L H → Sep (A :: M) H) ∧ Sub (A :: M) L := by
  obtain ⟨M, hM⟩ := Rem.of_mem m
  exact ⟨M, fun H h => h.rem hM, Sub.perm hM.perm.symm⟩
/-! texts walked -/
theorem k_istr {R : It → Hp → Prop} (h : te σ H fun v H1 => ∃ x, v = .str x ∧ R (Its x) H1) : iStr te σ H R := h
theorem k_istX {z : Str} {R : Str → Prop} (h : R z) : ∃ x, V.str z = .str x ∧ R x := ⟨z, rfl, h⟩
theorem wk_str {z : Str} : Wk (Its z) L z.cps.toList.length fun i q => ∀ c, z.cps.toList[i]? = some c → (fun (c : Nat) q => q (V.str ⟨#[c]⟩) ([] : List (As K))) c q where
  go := fun i H hi h => by rw [Array.length_toList] at hi; exact hi
  yl := fun i H x H' R hi h ⟨e, c, hc, ev⟩ q => by
    subst e ev
    exact q c (by rw [Array.getElem?_toList]; exact hc) _ h
  st := fun H h => by rw [Array.length_toList]; exact Nat.le_refl _
theorem k_inSg {c : Nat} {z : Str} (q : Q (.bl (decide (c ∈ z.cps.toList))) H) : rInU K (.str ⟨#[c]⟩) (.str z) H Q := .inr (.inr ⟨c, z, rfl, rfl, q⟩)
/-! slices -/
def cutD (ds : List PyData) (lo hi : Option Int) : List PyData := (ds.drop (HT.sIx ds.length 0 lo)).take (HT.sIx ds.length ds.length hi - HT.sIx ds.length 0 lo)
theorem ImAll.cut (h : ImAll K H xs ds) (lo hi : Option Int) : ImAll K H (cutV xs lo hi) (cutD ds lo hi) := by
  unfold cutV cutD
  rw [h.length]
  exact (h.drop _).take _
theorem cutD_to {i : Int} (h : 0 ≤ i) : cutD ds none (some i) = ds.take i.toNat := by
  obtain ⟨k, rfl⟩ := Int.eq_ofNat_of_zero_le h
  show (ds.drop 0).take (HT.sIx ds.length ds.length (some (k : Int)) - 0) = _
  rw [HT.sIx_nat, List.drop_zero, Nat.sub_zero, Int.toNat_natCast]
  by_cases hk : k ≤ ds.length
  · rw [Nat.min_eq_left hk]
  · rw [Nat.min_eq_right (by omega), List.take_of_length_le (Nat.le_refl _), List.take_of_length_le (by omega)]
theorem cutD_from {i : Int} (h : 0 ≤ i) : cutD ds (some i) none = ds.drop i.toNat := by
  obtain ⟨k, rfl⟩ := Int.eq_ofNat_of_zero_le h
  show (ds.drop (HT.sIx ds.length 0 (some (k : Int)))).take (ds.length - HT.sIx ds.length 0 (some (k : Int))) = _
  rw [HT.sIx_nat, Int.toNat_natCast]
  by_cases hk : k ≤ ds.length
  · rw [Nat.min_eq_left hk]
    exact List.take_of_length_le (by rw [List.length_drop]; omega)
  · rw [Nat.min_eq_right (by omega), List.drop_of_length_le (Nat.le_refl _), List.drop_of_length_le (by omega), List.take_nil]
theorem k_slI {lo hi : Option Int} (h : Sep L H) (m : im (.ref a) (.tuple ds) ∈ L) (q : ∀ p H', Sep (im (.ref p) (.tuple (cutD ds lo hi)) :: L) H' → Q (.ref p) H') : rSlU K (.ref a) lo hi H Q := by
  obtain ⟨a', xs, e, h1, h2⟩ := im_tup (h.imm m)
  cases e
  refine .inr (.inl ⟨a, xs, rfl, h1, fun w => ?_, fun _ p hp => ?_⟩)
  · refine q a H (Sep.im_iff.mpr ⟨?_, h⟩)
    have e : cutD ds lo hi = ds := by
      unfold cutD
      rw [← h2.length, w.1, w.2, List.drop_zero, Nat.sub_zero, h2.length, List.take_length]
    rw [e]
    exact h.imm m
  · exact q p _ (Sep.im_iff.mpr ⟨.tup (sqt_of upd_same) ((ImAll.cut h2 lo hi).mono (Tp.new hp)), h.same (same_new hp)⟩)
theorem k_slD {lo hi : Option Int} (h : Sep L H) (m : ld a ds ∈ L) (q : ∀ p H', Sep (ld p (cutD ds lo hi) :: L) H' → Q (.ref p) H') : rSlU K (.ref a) lo hi H Q := by
  obtain ⟨xs, h1, h2⟩ := h.ldm m
  refine k_slL (sql_of h1) fun p hp => q p _ ?_
  have z := (h.newD (p := p) (xs := []) (ds := []) hp .nil).setD (xs := cutV xs lo hi) (es := cutD ds lo hi) ((ImAll.cut h2 lo hi).mono (Tp.new hp))
  have e : upd (upd H p (.lst [])) p (.lst (cutV xs lo hi)) = upd H p (.lst (cutV xs lo hi)) := by
    funext b
    by_cases hb : b = p
    · rw [hb, upd_same, upd_same]
    · rw [upd_ne hb, upd_ne hb, upd_ne hb]
  rw [e] at z
  exact z
theorem k_slO {lo hi : Option Int} (h : Sep L H) (m : ob a (.lst xs) ∈ L) (q : ∀ p H', Sep (ob p (.lst (cutV xs lo hi)) :: L) H' → Q (.ref p) H') : rSlU K (.ref a) lo hi H Q := k_slL (sql_of (h.obm m)) fun p hp => q p _ (h.new hp rfl)
/-! instances that stand -/
theorem k_fldF {R : V → Prop} {f : Str} (h : Sep L H) (m : fzI a C fs ∈ L) (c : Cls K C) (n : NoAttr K C f) (e : fs.lookup f = some v) (q : R v) : ∃ a' C' dx fs v', V.ref a = .ref a' ∧ H a' = some (.ins C' dx fs) ∧ Cls K C' ∧ NoAttr K C' f ∧ fs.lookup f = some v' ∧ R v' := k_fldt (h.fzIm m) c n e q
theorem k_recvF {R : Addr → Prop} {f : Str} (h : Sep L H) (w : fzI a C fs ∈ L) (e : fs.lookup f = none) (q : R a) : ∃ a' dx fs, V.ref a = .ref a' ∧ H a' = some (.ins C dx fs) ∧ fs.lookup f = none ∧ R a' := by
  obtain ⟨dx, h1⟩ := h.fzIm w
  exact k_recv ⟨dx, fs, h1, e⟩ q
theorem k_non {P : Prop} (h : P) : V.non = .non ∧ P := ⟨rfl, h⟩
end
end Ls
-- own part: S8
namespace Ls
open PySem PySem.Spec PyProof.Rows L2
section
variable {K : PySem.W.Frag} {A B : As K} {L L' M N : List (As K)} {H H' : Hp} {a p l dx C : Addr} {o u : HO} {v x y w : V} {d e : PyData} {vs xs ys : List V} {ds es : List PyData} {Q : VK} {σ : L2.St} {i j n : Nat} {b : Bool}
instance : Dup (all ([] : List (As K))) := ⟨fun z a => z a⟩
instance [i : Dup A] [j : Dup (all L)] : Dup (all (A :: L)) := ⟨fun ⟨s1, s2, d, u, h1, h2⟩ a z => ((u a).mp z).elim (i.no h1 a) (j.no (A := all L) h2 a)⟩
theorem Sep.ldnil (h : Sep (ld p [] :: L) H) : Sep (ob p (.lst []) :: L) H := by
  obtain ⟨W, s, f, s1, s2, d, u, ⟨e, xs, h1, h2⟩, h3⟩ := h
  cases h2
  exact ⟨W, s, f, s1, s2, d, u, ⟨e, h1, rfl⟩, h3⟩
theorem Sep.dup [i : Dup A] (h : Sep L H) (m : A ∈ L) : Sep (A :: L) H := (Sub.dup m Sub.refl).ok h
/-- the parts of two lists, each by each -/
def al2 {α : Type} (f : V → α → As K) (vs : List V) (xs : List α) : As K := all (pr (vs.length = xs.length) :: List.zipWith f vs xs)
section
variable {α : Type} {f : V → α → As K} {zs ws : List α} {z : α}
theorem Sep.al2_iff : Sep (al2 f vs zs :: L) H ↔ vs.length = zs.length ∧ Sep (List.zipWith f vs zs ++ L) H := by
  unfold al2
  rw [Sep.all_iff, List.cons_append, Sep.pr_iff]
theorem Sep.len2 (h : Sep L H) (m : al2 f vs zs ∈ L) : vs.length = zs.length := by
  obtain ⟨M, hM⟩ := Rem.of_mem m
  exact (Sep.al2_iff.mp (h.rem hM)).1
theorem zip_erase : ∀ {vs : List V} {zs : List α} {i : Nat}, vs[i]? = some v → zs[i]? = some z → (List.zipWith f vs zs).Perm (f v z :: List.zipWith f (vs.eraseIdx i) (zs.eraseIdx i))
  | v' :: vs, z' :: zs, 0, h1, h2 => by
    cases h1
    cases h2
    exact .refl _
  | v' :: vs, z' :: zs, i + 1, h1, h2 => (List.Perm.cons _ (zip_erase (i := i) h1 h2)).trans (.swap _ _ _)
theorem Sep.opn (h : Sep (al2 f vs zs :: L) H) (h1 : vs[i]? = some v) (h2 : zs[i]? = some z) : Sep (f v z :: al2 f (vs.eraseIdx i) (zs.eraseIdx i) :: L) H := by
  obtain ⟨e, h⟩ := Sep.al2_iff.mp h
  have g : Sep (f v z :: (List.zipWith f (vs.eraseIdx i) (zs.eraseIdx i) ++ L)) H := h.perm ((zip_erase h1 h2).append_right L)
  have g2 : Sep (List.zipWith f (vs.eraseIdx i) (zs.eraseIdx i) ++ f v z :: L) H := g.perm List.perm_middle.symm
  have l1 := (List.getElem?_eq_some_iff.mp h1).1
  have l2 := (List.getElem?_eq_some_iff.mp h2).1
  exact (Sep.al2_iff.mpr ⟨by rw [List.length_eraseIdx_of_lt l1, List.length_eraseIdx_of_lt l2, e], g2⟩).perm (.swap _ _ _)
theorem Sep.cls (h : Sep (f v z :: al2 f (vs.eraseIdx i) (zs.eraseIdx i) :: L) H) (h1 : vs[i]? = some v) (h2 : i < zs.length) : Sep (al2 f vs (zs.set i z) :: L) H := by
  have l1 := (List.getElem?_eq_some_iff.mp h1).1
  obtain ⟨e, g⟩ := Sep.al2_iff.mp (h.perm (.swap _ _ _))
  rw [List.length_eraseIdx_of_lt l1, List.length_eraseIdx_of_lt h2] at e
  refine Sep.al2_iff.mpr ⟨by rw [List.length_set]; omega, ?_⟩
  have p := zip_erase (f := f) h1 (List.getElem?_set_self (a := z) h2)
  rw [List.eraseIdx_set_eq] at p
  exact (g.perm List.perm_middle).perm (p.symm.append_right L)
/-- back as it was -/
theorem Sep.cls' (h : Sep (f v z :: al2 f (vs.eraseIdx i) (zs.eraseIdx i) :: L) H) (h1 : vs[i]? = some v) (h2 : zs[i]? = some z) : Sep (al2 f vs zs :: L) H := by
  obtain ⟨h3, h4⟩ := List.getElem?_eq_some_iff.mp h2
  have := h.cls h1 h3
  rw [← h4, List.set_getElem_self] at this
  exact this
theorem Sep.snoc (h : Sep (f v z :: al2 f vs zs :: L) H) : Sep (al2 f (vs ++ [v]) (zs ++ [z]) :: L) H := by
  obtain ⟨e, g⟩ := Sep.al2_iff.mp (h.perm (.swap _ _ _))
  refine Sep.al2_iff.mpr ⟨by rw [List.length_append, List.length_append, e]; rfl, ?_⟩
  rw [List.zipWith_append e]
  show Sep (List.zipWith f vs zs ++ [f v z] ++ L) H
  rw [List.append_assoc]
  exact g
theorem Sep.nil2 (h : Sep L H) : Sep (al2 f [] [] :: L) H := Sep.al2_iff.mpr ⟨rfl, h⟩
theorem Sep.at2 (h : Sep L H) (m : al2 f vs zs ∈ L) (hv : vs[i]? = some v) : ∃ z, zs[i]? = some z := by
  have := h.len2 m
  have l1 := (List.getElem?_eq_some_iff.mp hv).1
  exact ⟨_, List.getElem?_eq_getElem (by omega)⟩
instance [i : ∀ v z, Dup (f v z)] : Dup (al2 f vs zs) := by
  have : ∀ (vs : List V) (zs : List α), Dup (all (List.zipWith f vs zs)) := by
    intro vs
    induction vs with
    | nil => intro zs; exact inferInstanceAs (Dup (all []))
    | cons v vs ih =>
      intro zs
      cases zs with
      | nil => exact inferInstanceAs (Dup (all []))
      | cons z zs =>
        have := ih zs
        exact inferInstanceAs (Dup (all (f v z :: List.zipWith f vs zs)))
  have := this vs zs
  exact inferInstanceAs (Dup (all (pr _ :: List.zipWith f vs zs)))
theorem Sep.get2 [i : ∀ v z, Dup (f v z)] (h : Sep L H) (m : al2 f vs zs ∈ L) (h1 : vs[n]? = some v) (h2 : zs[n]? = some z) : Sep (f v z :: L) H := by
  have g := (h.dup m).opn h1 h2
  exact (g.perm (.swap _ _ _)).tail
end
/-! ### comprehensions of things -/
def LxO (D : Addr) (Iv : Nat → List V → List (As K) → Prop) (i : Nat) : Hp → Prop := fun H => ∃ acc L, Iv i acc L ∧ Sep (ob D (.lst acc) :: L) H
theorem lc_wkO {J : It} {Y : Nat → (V → List (As K) → Prop) → Prop} {g : TG} {tt : TT} {te : TE} {ws : List Nat} {D : Addr} {Qd : Hp → Prop} (Iv : Nat → List V → List (As K) → Prop) (hw : ∀ i acc L, Iv i acc L → Wk J (ob D (.lst acc) :: L) n Y) (h : Sep (ld D [] :: L) H) (h0 : Iv 0 [] L)
    (hs : ∀ i acc L, i < n → Iv i acc L → Y i fun v M => ∀ H, Sep (M ++ ob D (.lst acc) :: L) H → g v (wipe σ ws) H fun σ2 H2 => wipe σ2 ws = wipe σ ws ∧ tt σ2 H2 fun b H3 =>
      if b = true then te σ2 H3 fun y H4 => ∃ zs, H4 D = some (.lst zs) ∧ zs.length < sizeLine ∧ LxO D Iv (i + 1) (upd H4 D (.lst (zs ++ [y]))) else LxO D Iv (i + 1) H3)
    (hd : ∀ acc L H, Iv n acc L → Sep (ob D (.lst acc) :: L) H → Qd H) :
    ∃ W : Nat → Nat → Hp → Prop, (∃ m, W 0 m H) ∧ ∀ i m H, W i m H →
      (J.stop i H ∧ Qd H) ∨ (J.go i H ∧ ∃ Nx : Hp → Prop, (∀ H', Nx H' → ∃ m', m' < m ∧ W (i + 1) m' H') ∧ ∀ x H', J.yld i H x H' → g x (wipe σ ws) H' fun σ2 H2 => wipe σ2 ws = wipe σ ws ∧ tt σ2 H2 fun b H3 =>
        if b = true then te σ2 H3 fun y H4 => ∃ acc, H4 D = some (.lst acc) ∧ acc.length < sizeLine ∧ Nx (upd H4 D (.lst (acc ++ [y]))) else Nx H3) := by
  refine ⟨fun i m H => m = n - i ∧ i ≤ n ∧ LxO D Iv i H, ⟨n, by simp, Nat.zero_le _, [], L, h0, h.ldnil⟩, ?_⟩
  rintro i m H ⟨rfl, hi, acc, L, iv, h⟩
  by_cases hlt : i < n
  · refine .inr ⟨(hw i acc L iv).go i H hlt h, LxO D Iv (i + 1), fun H' p => ⟨n - (i + 1), by omega, rfl, hlt, p⟩, fun x H' y => ?_⟩
    exact (hw i acc L iv).yl i H x H' (fun v H2 => g v (wipe σ ws) H2 fun σ2 H2 => wipe σ2 ws = wipe σ ws ∧ tt σ2 H2 fun b H3 =>
        if b = true then te σ2 H3 fun y H4 => ∃ zs, H4 D = some (.lst zs) ∧ zs.length < sizeLine ∧ LxO D Iv (i + 1) (upd H4 D (.lst (zs ++ [y]))) else LxO D Iv (i + 1) H3) hlt h y (hs i acc L hlt iv)
  · have e : i = n := by omega
    subst e
    exact .inl ⟨(hw i acc L iv).st H h, hd acc L H iv h⟩
theorem lc_keepO {D : Addr} {Iv : Nat → List V → List (As K) → Prop} {i : Nat} {acc : List V} (h : Sep N H) (s : Sub N (ob D (.lst acc) :: L)) (hl : acc.length < sizeLine) (iv : Iv i (acc ++ [y]) L) : ∃ zs, H D = some (.lst zs) ∧ zs.length < sizeLine ∧ LxO D Iv i (upd H D (.lst (zs ++ [y]))) := by
  have g := s.ok h
  exact ⟨acc, g.ob_get, hl, _, _, iv, g.set rfl⟩
theorem lc_skipO {D : Addr} {Iv : Nat → List V → List (As K) → Prop} {i : Nat} {acc : List V} (h : Sep N H) (s : Sub N (ob D (.lst acc) :: L)) (iv : Iv i acc L) : LxO D Iv i H := ⟨_, _, iv, s.ok h⟩
/-! ### lists of things walked -/
theorem wk_ob2 {α : Type} {f : V → α → As K} {zs : List α} [∀ v z, Dup (f v z)] (m : ob a (.lst vs) ∈ L) (m2 : al2 f vs zs ∈ L) : Wk (Itl K a) L zs.length fun i q => ∀ v z, vs[i]? = some v → zs[i]? = some z → q v [f v z] where
  go := fun i H hi h => by
    have := h.len2 m2
    exact ⟨vs, vs[i], sql_of (h.obm m), List.getElem?_eq_getElem (by omega)⟩
  yl := fun i H x H' R hi h ⟨e, y⟩ q => by
    subst e
    have hv := y vs (sql_of (h.obm m))
    obtain ⟨z, hz⟩ := h.at2 m2 hv
    exact q x z hv hz _ (h.get2 m2 hv hz)
  st := fun H h => ⟨vs, sql_of (h.obm m), by rw [h.len2 m2]; exact Nat.le_refl _⟩
/-- as one list of pairs -/
theorem wk_en2 {α : Type} {f : V → α → As K} {zs : List α} (m : ob a (.lst vs) ∈ L) (m2 : al2 f vs zs ∈ L) : Wk (Ite K a) L zs.length fun i q => ∀ v z T, vs[i]? = some v → zs[i]? = some z → q (.ref T) [tu T [.int (i : Nat), v]] where
  go := fun i H hi h => by
    have := h.len2 m2
    exact ⟨vs, vs[i], sql_of (h.obm m), List.getElem?_eq_getElem (by omega)⟩
  yl := fun i H x H' R hi h ⟨T, v, e, hT, e2, y⟩ q => by
    subst e e2
    have hv := y vs (sql_of (h.obm m))
    obtain ⟨z, hz⟩ := h.at2 m2 hv
    exact q v z T hv hz _ (h.newT hT)
  st := fun H h => ⟨vs, sql_of (h.obm m), by rw [h.len2 m2]; exact Nat.le_refl _⟩
/-- of parts that are one's own: no more than that they are there -/
theorem wk_obo {α : Type} {f : V → α → As K} {zs : List α} (m : ob a (.lst vs) ∈ L) (m2 : al2 f vs zs ∈ L) : Wk (Itl K a) L zs.length fun i q => ∀ v z, vs[i]? = some v → zs[i]? = some z → q v [] where
  go := fun i H hi h => by
    have := h.len2 m2
    exact ⟨vs, vs[i], sql_of (h.obm m), List.getElem?_eq_getElem (by omega)⟩
  yl := fun i H x H' R hi h ⟨e, y⟩ q => by
    subst e
    have hv := y vs (sql_of (h.obm m))
    obtain ⟨z, hz⟩ := h.at2 m2 hv
    exact q x z hv hz _ h
  st := fun H h => ⟨vs, sql_of (h.obm m), by rw [h.len2 m2]; exact Nat.le_refl _⟩
end
end Ls
namespace Ls
open PySem PySem.Spec PyProof.Rows L2
section
variable {K : PySem.W.Frag} {A B : As K} {L L' M N : List (As K)} {H H' : Hp} {a p l dx C : Addr} {o u : HO} {v x y w : V} {d e : PyData} {vs xs ys : List V} {ds es : List PyData} {Q : VK} {σ : L2.St} {i j n : Nat} {b : Bool} {α : Type} {zs : List α} {J : It} {g : TG} {tt : TT} {te : TE} {ws : List Nat} {D : Addr} {Qd : Hp → Prop} {Y : Nat → (V → List (As K) → Prop) → Prop}
def Fl2 (zs : List α) (r : Nat → α → List PyData) (L : List (As K)) : Nat → List PyData → List (As K) → Prop := fun i acc L' => L' = L ∧ acc = (zs.zipIdx.take i).flatMap fun z => r z.2 z.1
theorem lc_flat2 (r : Nat → α → List PyData) (h : Sep (ld D [] :: L) H) (hw : ∀ acc, Wk J (ld D acc :: L) zs.length Y)
    (hs : ∀ i z acc, zs[i]? = some z → (∀ d, r i z = [d] → Fl2 zs r L (i + 1) (acc ++ [d]) L) → (r i z = [] → Fl2 zs r L (i + 1) acc L) → acc.length ≤ i → Y i fun v M => ∀ H, Sep (M ++ ld D acc :: L) H → g v (wipe σ ws) H fun σ2 H2 => wipe σ2 ws = wipe σ ws ∧ tt σ2 H2 fun b H3 =>
      if b = true then te σ2 H3 fun y H4 => ∃ xs, H4 D = some (.lst xs) ∧ xs.length < sizeLine ∧ Lx D (Fl2 zs r L) (i + 1) (upd H4 D (.lst (xs ++ [y]))) else Lx D (Fl2 zs r L) (i + 1) H3)
    (hd : ∀ H, Sep (ld D (zs.zipIdx.flatMap fun z => r z.2 z.1) :: L) H → Qd H) (hr : ∀ i z, (r i z).length ≤ 1 := by intro _ _; first | exact Nat.le_refl _ | (split <;> exact Nat.le_of_ble_eq_true rfl)) :
    ∃ W : Nat → Nat → Hp → Prop, (∃ m, W 0 m H) ∧ ∀ i m H, W i m H →
      (J.stop i H ∧ Qd H) ∨ (J.go i H ∧ ∃ Nx : Hp → Prop, (∀ H', Nx H' → ∃ m', m' < m ∧ W (i + 1) m' H') ∧ ∀ x H', J.yld i H x H' → g x (wipe σ ws) H' fun σ2 H2 => wipe σ2 ws = wipe σ ws ∧ tt σ2 H2 fun b H3 =>
        if b = true then te σ2 H3 fun y H4 => ∃ acc, H4 D = some (.lst acc) ∧ acc.length < sizeLine ∧ Nx (upd H4 D (.lst (acc ++ [y]))) else Nx H3) := by
  refine lc_wk (n := zs.length) (Y := Y) (Fl2 zs r L) (fun i acc L' e => e.1 ▸ hw acc) h ⟨rfl, rfl⟩ (fun i acc L' hi e => ?_) (fun acc L' H e h => ?_)
  · obtain ⟨rfl, rfl⟩ := e
    have hz : zs[i]? = some zs[i] := List.getElem?_eq_getElem hi
    have e1 : zs.zipIdx.take (i + 1) = zs.zipIdx.take i ++ [(zs[i], i)] := by rw [List.take_add_one, List.getElem?_zipIdx, hz]; simp
    refine hs i _ _ hz (fun d hd => ⟨rfl, ?_⟩) (fun hd => ⟨rfl, ?_⟩) ?_
    · rw [e1, List.flatMap_append, List.flatMap_cons]
      dsimp only
      rw [hd]; rfl
    · rw [e1, List.flatMap_append, List.flatMap_cons]
      dsimp only
      rw [hd, List.flatMap_nil, List.append_nil, List.append_nil]
    · have := flat_len (fun z : α × Nat => r z.2 z.1) (fun z => hr _ _) (zs.zipIdx.take i)
      rw [List.length_take] at this
      omega
  · obtain ⟨rfl, rfl⟩ := e
    rw [List.take_of_length_le (by rw [List.length_zipIdx]; exact Nat.le_refl _)] at h
    exact hd H h
theorem flat2_map (f : α → PyData) : ∀ (zs : List α) (k : Nat), ((zs.zipIdx k).flatMap fun z => [f z.1]) = zs.map f
  | [], _ => rfl
  | z :: zs, k => by rw [List.zipIdx_cons, List.flatMap_cons, List.map_cons, flat2_map f zs]; rfl
/-- those kept of a list of things -/
def Flt (f : V → α → As K) (zs : List α) (c : α → Bool) (L : List (As K)) : Nat → List V → List (As K) → Prop := fun i acc L' => L' = al2 f acc ((zs.take i).filter c) :: L ∧ acc.length ≤ i
theorem lc_filt {f : V → α → As K} (c : α → Bool) (h : Sep (ld D [] :: L) H) (hw : ∀ acc N, Wk J (ob D (.lst acc) :: N :: L) zs.length fun i q => ∀ v z, vs[i]? = some v → zs[i]? = some z → q v [f v z])
    (hs : ∀ i v z acc N, vs[i]? = some v → zs[i]? = some z → acc.length ≤ i → i < zs.length → N = al2 f acc ((zs.take i).filter c) →
      (c z = true → ∀ {R H}, Sep R H → Sub R (ob D (.lst acc) :: f v z :: N :: L) → acc.length < sizeLine → ∃ xs, H D = some (.lst xs) ∧ xs.length < sizeLine ∧ LxO D (Flt f zs c L) (i + 1) (upd H D (.lst (xs ++ [v])))) →
      (c z = false → ∀ {R H}, Sep R H → Sub R (ob D (.lst acc) :: N :: L) → LxO D (Flt f zs c L) (i + 1) H) → ∀ H, Sep (f v z :: ob D (.lst acc) :: N :: L) H → g v (wipe σ ws) H fun σ2 H2 => wipe σ2 ws = wipe σ ws ∧ tt σ2 H2 fun b H3 =>
      if b = true then te σ2 H3 fun y H4 => ∃ xs, H4 D = some (.lst xs) ∧ xs.length < sizeLine ∧ LxO D (Flt f zs c L) (i + 1) (upd H4 D (.lst (xs ++ [y]))) else LxO D (Flt f zs c L) (i + 1) H3)
    (hd : ∀ acc H, Sep (ob D (.lst acc) :: al2 f acc (zs.filter c) :: L) H → Qd H) :
    ∃ W : Nat → Nat → Hp → Prop, (∃ m, W 0 m H) ∧ ∀ i m H, W i m H →
      (J.stop i H ∧ Qd H) ∨ (J.go i H ∧ ∃ Nx : Hp → Prop, (∀ H', Nx H' → ∃ m', m' < m ∧ W (i + 1) m' H') ∧ ∀ x H', J.yld i H x H' → g x (wipe σ ws) H' fun σ2 H2 => wipe σ2 ws = wipe σ ws ∧ tt σ2 H2 fun b H3 =>
        if b = true then te σ2 H3 fun y H4 => ∃ acc, H4 D = some (.lst acc) ∧ acc.length < sizeLine ∧ Nx (upd H4 D (.lst (acc ++ [y]))) else Nx H3) := by
  have h0 : Sep (ld D [] :: al2 f [] [] :: L) H := (Sep.nil2 h).perm (.swap _ _ _)
  refine lc_wkO (n := zs.length) (Flt f zs c L) (fun i acc L' e => e.1 ▸ hw acc _) h0 ⟨rfl, Nat.zero_le _⟩ (fun i acc L' hi e v z hv hz H h => ?_) (fun acc L' H e h => ?_)
  · obtain ⟨rfl, el⟩ := e
    have e1 : zs.take (i + 1) = zs.take i ++ [z] := by rw [List.take_add_one, hz]; rfl
    refine hs i v z acc _ hv hz el hi rfl (fun hc {R H} hR s hl => ?_) (fun hc {R H} hR s => ?_) H h
    · have g1 := s.ok hR
      have g2 : Sep (ob D (.lst acc) :: al2 f (acc ++ [v]) ((zs.take i).filter c ++ [z]) :: L) H := (Sep.snoc (g1.perm ((List.Perm.swap _ _ _).trans (List.Perm.cons _ (.swap _ _ _))))).perm (.swap _ _ _) |>.perm (by
        first | exact .refl _ | exact .swap _ _ _)
      refine lc_keepO g2 .refl hl ⟨?_, by rw [List.length_append]; exact Nat.succ_le_succ el⟩
      rw [e1, List.filter_append, List.filter_cons_of_pos hc]
      rfl
    · refine ⟨acc, _, ⟨?_, Nat.le_succ_of_le el⟩, s.ok hR⟩
      rw [e1, List.filter_append, List.filter_cons_of_neg (by rw [hc]; exact Bool.false_ne_true), List.filter_nil, List.append_nil]
  · obtain ⟨rfl, el⟩ := e
    rw [List.take_length] at h
    exact hd acc H h
end
end Ls
-- own part: U16
namespace Ls
open PySem PySem.Spec PyProof.Rows L2
/-! ### a list beside an empty one -/
def rEqZ (K : PySem.W.Frag) : R2 := fun x y H Q => rEqU K x y H Q ∨ ∃ a b xs, x = .ref a ∧ y = .ref b ∧ H a = some (.lst xs) ∧ H b = some (.lst []) ∧ Q (.bl (decide (xs = []))) H
def rNeZ (K : PySem.W.Frag) : R2 := fun x y H Q => rNeU K x y H Q ∨ ∃ a b xs, x = .ref a ∧ y = .ref b ∧ H a = some (.lst xs) ∧ H b = some (.lst []) ∧ Q (.bl (!decide (xs = []))) H
section
variable {X : Cx}
theorem op_eqZ (K : PySem.W.Frag) (hK : X.K = K) (hu : X.A.units + 66 < cLine) : OpR X (compareOp .Eq) (rEqZ K) := by
  subst hK
  refine OpR.or (op_eqU0 hu) ?_
  intro pins s σ H x y v u Q I rx ry h
  obtain ⟨a, b, xs, rfl, rfl, ha, hb, q⟩ := h
  by_cases e : xs = []
  · subst e
    refine op_eqD (by omega) pins s σ H (.ref a) (.ref b) v u Q I rx ry ⟨.list [], .list [], .lst (sql_of ha) .nil, .lst (sql_of hb) .nil, by decide, by decide, ?_⟩
    exact q
  · cases rx
    cases ry
    obtain ⟨its, n, r, e1, _⟩ := I.lst ha
    obtain ⟨its2, n2, r2, e2, _⟩ := I.lst hb
    rw [decide_eq_false e] at q
    have hl := r.length
    have hl2 := r2.length
    have hx : xs.length ≠ 0 := fun z => e (List.eq_nil_of_length_eq_zero z)
    refine SeqAt.RcAt.lists_lengths (A := X.A) (s := s) (items := its.toArray) (items2 := its2.toArray) ⟨_, e1, rfl, n, rfl⟩ ⟨_, e2, rfl, n2, rfl⟩ ?_ (by omega) X.prog X.w X.xe _ ⟨.bl false, H, I, rfl, q⟩
    rw [List.size_toArray, List.size_toArray, ← hl, ← hl2]
    simpa using hx
theorem op_neZ (K : PySem.W.Frag) (hK : X.K = K) (hu : X.A.units + 66 < cLine) : OpR X (compareOp .NotEq) (rNeZ K) := by
  subst hK
  refine OpR.or (op_neU0 hu) ?_
  intro pins s σ H x y v u Q I rx ry h
  obtain ⟨a, b, xs, rfl, rfl, ha, hb, q⟩ := h
  by_cases e : xs = []
  · subst e
    refine op_neD (by omega) pins s σ H (.ref a) (.ref b) v u Q I rx ry ⟨.list [], .list [], .lst (sql_of ha) .nil, .lst (sql_of hb) .nil, by decide, by decide, ?_⟩
    exact q
  · cases rx
    cases ry
    obtain ⟨its, n, r, e1, _⟩ := I.lst ha
    obtain ⟨its2, n2, r2, e2, _⟩ := I.lst hb
    rw [decide_eq_false e] at q
    have hl := r.length
    have hl2 := r2.length
    have hx : xs.length ≠ 0 := fun z => e (List.eq_nil_of_length_eq_zero z)
    refine SeqAt.RcNeAt.lists_lengths (A := X.A) (s := s) (items := its.toArray) (items2 := its2.toArray) ⟨_, e1, rfl, n, rfl⟩ ⟨_, e2, rfl, n2, rfl⟩ ?_ (by omega) X.prog X.w X.xe _ ⟨.bl true, H, I, rfl, q⟩
    rw [List.size_toArray, List.size_toArray, ← hl, ← hl2]
    simpa using hx
end
end Ls
-- own part: S9
namespace Ls
open PySem PySem.Spec PyProof.Rows L2
section
variable {K : PySem.W.Frag} {A B : As K} {L L' M N : List (As K)} {H H' : Hp} {a p l dx C : Addr} {o u : HO} {v x y w : V} {d e : PyData} {vs xs ys : List V} {ds es : List PyData} {Q : VK} {σ : L2.St} {i j n : Nat} {k : Int} {b : Bool}
theorem Sep.ldem (h : Sep L H) (m : ld p [] ∈ L) : H p = some (.lst []) := by
  obtain ⟨xs, h1, h2⟩ := h.ldm m
  cases h2
  exact h1
theorem k_eqzO (h : Sep L H) (m : ob a (.lst xs) ∈ L) (m2 : ld p [] ∈ L) (q : Q (.bl (decide (xs = []))) H) : rEqZ K (.ref a) (.ref p) H Q := .inr ⟨a, p, xs, rfl, rfl, h.obm m, h.ldem m2, q⟩
theorem k_nezO (h : Sep L H) (m : ob a (.lst xs) ∈ L) (m2 : ld p [] ∈ L) (q : Q (.bl (!decide (xs = []))) H) : rNeZ K (.ref a) (.ref p) H Q := .inr ⟨a, p, xs, rfl, rfl, h.obm m, h.ldem m2, q⟩
theorem imall_nil (h : ImAll K H xs ds) : decide (xs = []) = decide (ds = []) := by
  cases h <;> rfl
theorem k_eqzD (h : Sep L H) (m : ld a ds ∈ L) (m2 : ld p [] ∈ L) (q : Q (.bl (decide (ds = []))) H) : rEqZ K (.ref a) (.ref p) H Q := by
  obtain ⟨xs, h1, h2⟩ := h.ldm m
  exact .inr ⟨a, p, xs, rfl, rfl, h1, h.ldem m2, by rw [imall_nil h2]; exact q⟩
theorem k_nezD (h : Sep L H) (m : ld a ds ∈ L) (m2 : ld p [] ∈ L) (q : Q (.bl (!decide (ds = []))) H) : rNeZ K (.ref a) (.ref p) H Q := by
  obtain ⟨xs, h1, h2⟩ := h.ldm m
  exact .inr ⟨a, p, xs, rfl, rfl, h1, h.ldem m2, by rw [imall_nil h2]; exact q⟩
theorem k_popAtO (h : Sep L H) (r : Rep L (ob a (.lst xs)) (ob a (.lst (xs.eraseIdx i))) M) (e : xs[i]? = some v) (hb : i < 1000000) (q : ∀ H', Sep M H' → Q v H') : rPopAt (.ref a) [.int (i : Nat)] H Q := by
  have hi := (List.getElem?_eq_some_iff.mp e).1
  refine ⟨a, xs, (i : Nat), i, v, rfl, rfl, h.obm r.mem, by omega, by omega, ?_, e, q _ (h.setR r rfl)⟩
  have := (ixN_seq (n := xs.length) (i := (i : Int)) (j := i) ?_).1
  · exact this
  · unfold ixN
    rw [if_pos (by omega), if_pos (by omega)]
    rfl
theorem k_popO (h : Sep L H) (r : Rep L (ob a (.lst xs)) (ob a (.lst xs.dropLast)) M) (e : xs[xs.length - 1]? = some v) (q : ∀ H', Sep M H' → Q v H') : rPop (.ref a) [] H Q :=
  ⟨a, xs, v, rfl, rfl, h.obm r.mem, e, q _ (h.setR r rfl)⟩
theorem ImAll.dropLast (h : ImAll K H xs ds) : ImAll K H xs.dropLast ds.dropLast := by
  rw [List.dropLast_eq_take, List.dropLast_eq_take, h.length]
  exact h.take _
theorem k_popD (h : Sep L H) (r : Rep L (ld a ds) (ld a ds.dropLast) M) (e : ds[ds.length - 1]? = some d) (q : Gv (K := K) d fun v N => ∀ H', Sep (N ++ M) H' → Q v H') : rPop (.ref a) [] H Q := by
  obtain ⟨xs, h1, h2⟩ := h.ldm r.mem
  obtain ⟨v, hv, hd⟩ := h2.getD e
  rw [← h2.length] at hv
  refine ⟨a, xs, v, rfl, rfl, h1, hv, ?_⟩
  have h3 : Sep M (upd H a (.lst xs.dropLast)) := h.setDR r (ImAll.dropLast h2)
  have hd' : Im K (upd H a (.lst xs.dropLast)) v d := hd.mono (tp_upd h1 rfl).1
  refine Gv.go (R := fun v => Q v (upd H a (.lst xs.dropLast))) hd' h3 (q.mono fun v N g hM => g _ hM)
theorem k_extO (h : Sep L H) (r : Rep L (ob a (.lst xs)) (ob a (.lst (xs ++ ys))) M) (m : ob p (.lst ys) ∈ L) (hl : xs.length + ys.length ≤ sizeLine) (q : ∀ H', Sep M H' → Q .non H') : rExtend (.ref a) [.ref p] H Q :=
  ⟨a, p, xs, ys, rfl, rfl, h.obm r.mem, h.obm m, hl, q _ (h.setR r rfl)⟩
theorem k_setO {R : Hp → Prop} (h : Sep L H) (r : Rep L (ob a (.lst xs)) (ob a (.lst (xs.set j v))) M) (e : ixN xs.length k = some j) (q : ∀ H', Sep M H' → R H') : rSetL (.ref a) (.int k) v H R :=
  ⟨a, xs, k, j, rfl, rfl, h.obm r.mem, e, q _ (h.setR r rfl)⟩
theorem ixN_nat {n j : Nat} (h : j < n) : ixN n (j : Int) = some j := by
  unfold ixN
  rw [if_pos (by omega), if_pos (by omega)]
  rfl
theorem k_madeT {sp : Sp} {Qf : Addr → VK} {E : XK} (h : Sep L H) (q : ∀ x H', Sep (inst x C [] :: L) H' → sp (.ref x :: vs) H' (Qf x) E) : ∀ x dx, H x = none → H dx = none → dx ≠ x → sp (.ref x :: vs) (upd (upd H dx (.own x)) x (.ins C dx [])) (Qf x) E := fun x dx hx hd ne => q x _ (h.newInst hx hd ne)
theorem k_asg2 {te : TE} {g1 g2 : TG} {D : Ends} (h : te σ H fun x H1 => g1 x σ H1 fun σ1 H2 => g2 x σ1 H2 D.nx) : tAsg2 te g1 g2 D σ H := h
theorem k_putG {α β γ : Type} {g : α → β → Hp → γ → Prop} {z1 : α} {z2 : β} {z3 : γ} {f : Str} {fs gs : List (Str × V)} (h : Sep L H) (r : Rep L (inst a C fs) (inst a C gs) M) (c : Cls K C) (n : NoAttr K C f) (hl : fs.length < 1000) (e : putF f y fs = gs) (q : ∀ H', Sep M H' → g z1 z2 H' z3) : ∃ a' C' dx fs, V.ref a = .ref a' ∧ H a' = some (.ins C' dx fs) ∧ Cls K C' ∧ NoAttr K C' f ∧ fs.length < 1000 ∧ g z1 z2 (upd H a' (.ins C' dx (putF f y fs))) z3 := k_putS' (R := fun H => g z1 z2 H z3) h r c n hl e q
theorem k_fldA {R : Addr → Addr → V → Prop} {f : Str} {fs : List (Str × V)} (h : Sep L H) (m : inst a C fs ∈ L) (c : Cls K C) (n : NoAttr K C f) (e : fs.lookup f = some v) (q : R a C v) : ∃ a' C' dx fs v', V.ref a = .ref a' ∧ H a' = some (.ins C' dx fs) ∧ Cls K C' ∧ NoAttr K C' f ∧ fs.lookup f = some v' ∧ R a' C' v' := by
  obtain ⟨dx, h1⟩ := h.insm m
  exact ⟨a, C, dx, fs, v, rfl, h1, c, n, e, q⟩
theorem k_slTu {lo hi : Option Int} (h : Sep L H) (m : tu a xs ∈ L) (q : ∀ p H', Sep (tu p (cutV xs lo hi) :: L) H' → Q (.ref p) H') : rSlU K (.ref a) lo hi H Q := by
  have h1 := h.tum m
  refine .inr (.inl ⟨a, xs, rfl, h1, fun w => ?_, fun _ p hp => ?_⟩)
  · refine q a H (Sep.tu_iff.mpr ⟨?_, h⟩)
    have e : cutV xs lo hi = xs := by
      unfold cutV
      rw [w.1, w.2, List.drop_zero, Nat.sub_zero, List.take_length]
    rw [e]
    exact h1
  · exact q p _ (Sep.tu_iff.mpr ⟨sqt_of upd_same, h.same (same_new hp)⟩)
theorem k_addTI (h : Sep L H) (m : tu a xs ∈ L) (m2 : im (.ref l) (.tuple ds) ∈ L) (hl : xs.length + ds.length ≤ sizeLine) (hx : xs ≠ []) (hd : ds ≠ []) (q : GvAll (K := K) ds fun vs N => ∀ p H', Sep (tu p (xs ++ vs) :: (N ++ L)) H' → Q (.ref p) H') : rAddU K (.ref a) (.ref l) H Q := by
  obtain ⟨a', ys, e, h1, h2⟩ := im_tup (h.imm m2)
  cases e
  obtain ⟨N, h3, h4⟩ := q.go h2 h
  refine k_addT (h.tum m) h1 (by rw [h2.length]; exact hl) (fun e => (hx e).elim) (fun _ e => ?_) fun p hp => h3 p _ (Sep.newT h4 hp)
  subst e
  cases h2
  exact (hd rfl).elim
theorem atI_last (h : xs[xs.length - 1]? = some v) : atI xs (-1) = some v := by
  have hl := (List.getElem?_eq_some_iff.mp h).1
  unfold atI ixN
  rw [if_neg (by omega), if_pos (by omega)]
  have e : ((-1 : Int) + (xs.length : Int)).toNat = xs.length - 1 := by omega
  simp only [e]
  exact h
end
end Ls
-- own part: S10
namespace Ls
open PySem PySem.Spec PyProof.Rows L2
section
variable {K : PySem.W.Frag} {A B : As K} {L L' M N : List (As K)} {H H' : Hp} {a p l dx C : Addr} {v x y w : V} {vs us : List V} {Q : VK} {σ : L2.St} {i j n : Nat} {b : Bool} {α β : Type} {zs ws : List α} {J : It} {g : TG} {tt : TT} {te : TE} {wi : List Nat} {D : Addr} {Qd : Hp → Prop} {Y : Nat → (V → List (As K) → Prop) → Prop}
theorem Sep.cat {f : V → α → As K} (h : Sep (al2 f us ws :: al2 f vs zs :: L) H) : Sep (al2 f (vs ++ us) (zs ++ ws) :: L) H := by
  obtain ⟨e, g⟩ := Sep.al2_iff.mp h
  have g2 : Sep (al2 f vs zs :: (List.zipWith f us ws ++ L)) H := g.perm List.perm_middle
  obtain ⟨e2, g3⟩ := Sep.al2_iff.mp g2
  refine Sep.al2_iff.mpr ⟨by rw [List.length_append, List.length_append, e, e2], ?_⟩
  rw [List.zipWith_append e2, List.append_assoc]
  exact g3
theorem Sep.snoc' {f : V → α → As K} {z : α} (h : Sep (al2 f vs zs :: f v z :: L) H) : Sep (al2 f (vs ++ [v]) (zs ++ [z]) :: L) H := (h.perm (.swap _ _ _)).snoc
theorem Sep.upd2 {f : V → α → As K} {z : α} (h : Sep (f w z :: al2 f vs zs :: L) H) (h1 : i < vs.length) (h2 : i < zs.length) : Sep (al2 f (vs.set i w) (zs.set i z) :: L) H := by
  have h3 := (h.perm (.swap _ _ _)).opn (List.getElem?_eq_getElem h1) (List.getElem?_eq_getElem h2)
  have h4 : Sep (f w z :: al2 f (vs.eraseIdx i) (zs.eraseIdx i) :: L) H := h3.tail.perm (.swap _ _ _)
  rw [← List.eraseIdx_set_eq (a := w)] at h4
  exact h4.cls (List.getElem?_set_self h1) h2
theorem Sep.drops : ∀ {M : List (As K)}, Sep (M ++ L) H → Sep L H
  | [], h => h
  | _ :: _, h => Sep.drops (Sep.tail h)
theorem Sep.take2 {f : V → α → As K} (h : Sep (al2 f vs zs :: L) H) (k : Nat) : Sep (al2 f (vs.take k) (zs.take k) :: L) H := by
  obtain ⟨e, g⟩ := Sep.al2_iff.mp h
  refine Sep.al2_iff.mpr ⟨by rw [List.length_take, List.length_take, e], ?_⟩
  rw [← List.take_zipWith]
  have g2 : Sep (((List.zipWith f vs zs).take k ++ (List.zipWith f vs zs).drop k) ++ L) H := by rw [List.take_append_drop]; exact g
  rw [List.append_assoc] at g2
  have g3 : Sep ((List.zipWith f vs zs).drop k ++ ((List.zipWith f vs zs).take k ++ L)) H := g2.perm (by
    rw [← List.append_assoc, ← List.append_assoc]
    exact (List.perm_append_comm).append_right L)
  exact g3.drops
theorem Sep.dropLast2 {f : V → α → As K} (h : Sep (al2 f vs zs :: L) H) : Sep (al2 f vs.dropLast zs.dropLast :: L) H := by
  have e := h.len2 List.mem_cons_self
  have := h.take2 (vs.length - 1)
  rw [List.dropLast_eq_take, List.dropLast_eq_take, ← e]
  exact this
theorem k_aug {k : Nat} {te : TE} {ti : TIp} {D : Ends} (e : σ[k]? = some (some x)) (h : te σ H fun y H1 => ti x y H1 fun z H2 => D.nx (σ.set k (some z)) H2) : tAug k te ti D σ H := ⟨x, e, h⟩
theorem k_ipI {f : Int → Int → Int} {i j : Int} (q : Q (.int (f i j)) H) : ipI f (.int i) (.int j) H Q := ⟨i, j, rfl, rfl, q⟩
theorem k_makeK {gV : List V → List V → List V} {m : Nat} {sp : Sp} {E : XK} {t tk : TA} (h : t σ H fun vs H1 => tk σ H1 fun zs H2 => vs.length = n ∧ zs.length = m ∧ ∀ x dx, H2 x = none → H2 dx = none → dx ≠ x →
  sp (gV (.ref x :: vs) zs) (upd (upd H2 dx (.own x)) x (.ins C dx [])) (fun v H3 => v = .non ∧ Q (.ref x) H3) E) : tMakeK C n m sp gV E t tk σ H Q := h
theorem k_madeK {sp : Sp} {args : Addr → List V} {Qf : Addr → VK} {E : XK} (h : Sep L H) (q : ∀ x H', Sep (inst x C [] :: L) H' → sp (args x) H' (Qf x) E) : ∀ x dx, H x = none → H dx = none → dx ≠ x → sp (args x) (upd (upd H dx (.own x)) x (.ins C dx [])) (Qf x) E := fun x dx hx hd ne => q x _ (h.newInst hx hd ne)
theorem k_gsub {to ti : TE} {t : TSet} {R : L2.St → Hp → Prop} (h : to σ H fun o H1 => ti σ H1 fun i H2 => t o i v H2 fun H3 => R σ H3) : gSub to ti t v σ H R := h
/-- objects made, one or none for each -/
def Fo (F : V → β → As K) (zs : List α) (r : Nat → α → List β) (L : List (As K)) : Nat → List V → List (As K) → Prop := fun i acc L' => L' = al2 F acc ((zs.zipIdx.take i).flatMap fun z => r z.2 z.1) :: L ∧ acc.length ≤ i
theorem lc_objs {F : V → β → As K} (r : Nat → α → List β) (h : Sep (ld D [] :: L) H) (hz : zs.length ≤ sizeLine) (hw : ∀ acc N, Wk J (ob D (.lst acc) :: N :: L) zs.length Y)
    (hs : ∀ i z acc N, zs[i]? = some z →
      (∀ b, r i z = [b] → ∀ {R H y}, Sep R H → Sub R (ob D (.lst acc) :: N :: F y b :: L) → ∃ xs, H D = some (.lst xs) ∧ xs.length < sizeLine ∧ LxO D (Fo F zs r L) (i + 1) (upd H D (.lst (xs ++ [y])))) →
      (r i z = [] → ∀ {R H}, Sep R H → Sub R (ob D (.lst acc) :: N :: L) → LxO D (Fo F zs r L) (i + 1) H) →
      Y i fun v M => ∀ H, Sep (M ++ ob D (.lst acc) :: N :: L) H → g v (wipe σ wi) H fun σ2 H2 => wipe σ2 wi = wipe σ wi ∧ tt σ2 H2 fun b H3 =>
      if b = true then te σ2 H3 fun y H4 => ∃ xs, H4 D = some (.lst xs) ∧ xs.length < sizeLine ∧ LxO D (Fo F zs r L) (i + 1) (upd H4 D (.lst (xs ++ [y]))) else LxO D (Fo F zs r L) (i + 1) H3)
    (hd : ∀ acc H, acc.length ≤ zs.length → Sep (ob D (.lst acc) :: al2 F acc (zs.zipIdx.flatMap fun z => r z.2 z.1) :: L) H → Qd H) :
    ∃ W : Nat → Nat → Hp → Prop, (∃ m, W 0 m H) ∧ ∀ i m H, W i m H →
      (J.stop i H ∧ Qd H) ∨ (J.go i H ∧ ∃ Nx : Hp → Prop, (∀ H', Nx H' → ∃ m', m' < m ∧ W (i + 1) m' H') ∧ ∀ x H', J.yld i H x H' → g x (wipe σ wi) H' fun σ2 H2 => wipe σ2 wi = wipe σ wi ∧ tt σ2 H2 fun b H3 =>
        if b = true then te σ2 H3 fun y H4 => ∃ acc, H4 D = some (.lst acc) ∧ acc.length < sizeLine ∧ Nx (upd H4 D (.lst (acc ++ [y]))) else Nx H3) := by
  have h0 : Sep (ld D [] :: al2 F [] [] :: L) H := (Sep.nil2 h).perm (.swap _ _ _)
  refine lc_wkO (n := zs.length) (Fo F zs r L) (fun i acc L' e => e.1 ▸ hw acc _) h0 ⟨rfl, Nat.zero_le _⟩ (fun i acc L' hi e => ?_) (fun acc L' H e h => ?_)
  · obtain ⟨rfl, el⟩ := e
    have hz' : zs[i]? = some zs[i] := List.getElem?_eq_getElem hi
    have e1 : zs.zipIdx.take (i + 1) = zs.zipIdx.take i ++ [(zs[i], i)] := by rw [List.take_add_one, List.getElem?_zipIdx, hz']; simp
    refine hs i _ acc _ hz' (fun b hb {R H y} hR s => ?_) (fun hb {R H} hR s => ?_)
    · have g1 := s.ok hR
      have g2 : Sep (ob D (.lst acc) :: al2 F (acc ++ [y]) (((zs.zipIdx.take i).flatMap fun z => r z.2 z.1) ++ [b]) :: L) H := (Sep.snoc' (g1.perm ((List.Perm.swap _ _ _).trans (List.Perm.cons _ (.swap _ _ _))))).perm (.swap _ _ _)
      refine lc_keepO g2 .refl (by omega) ⟨?_, by rw [List.length_append]; exact Nat.succ_le_succ el⟩
      rw [e1, List.flatMap_append, List.flatMap_cons]
      dsimp only
      rw [hb]
      rfl
    · refine ⟨acc, _, ⟨?_, Nat.le_succ_of_le el⟩, s.ok hR⟩
      rw [e1, List.flatMap_append, List.flatMap_cons]
      dsimp only
      rw [hb, List.flatMap_nil, List.append_nil, List.append_nil]
  · obtain ⟨rfl, el⟩ := e
    rw [List.take_of_length_le (by rw [List.length_zipIdx]; exact Nat.le_refl _)] at h
    exact hd acc H el h
end
end Ls
-- own part: S11
namespace Ls
open PySem PySem.Spec PyProof.Rows L2
/-! ### len(x) of an own class -/
section
variable {X : Cx} {CX : CXT} {n : Nat} {C f : Addr} {fd : FuncData} {ps : List Str} {sp : Sp} {E : XK} {K : PySem.W.Frag}
def rLenC (C : Addr) (sp : Sp) (E : XK) : List V → Hp → VK → Prop := fun xs H Q => ∃ a dx fs, xs = [.ref a] ∧ H a = some (.ins C dx fs) ∧ sp [.ref a] H (fun v H' => ∃ i : Int, v = .int i ∧ 0 ≤ i ∧ i < 2 ^ 63 ∧ Q (.int i) H') E
theorem call_lenC (hm : Meth X.K C "__len__" f) (F : FnOk X.prog X.w X.K X.mg X.base CX n f fd ps sp) (hr : Room (n + 1) X.A) (hb : L2.Binds X.K fd ps []) (hx : Passes CX X E) : CallR X (.builtin "len") (rLenC C sp E) := by
  intro pins s σ H xs us Q I r h
  obtain ⟨a, dx, fs, rfl, ha, hsp⟩ := h
  obtain ⟨u, rfl, ru⟩ := vals1 r
  obtain rfl : u = Value.ref a := ru
  obtain ⟨mA, J, _⟩ := ins_get I.hok ha
  obtain ⟨od, J, _⟩ := J.look
  obtain ⟨m, hF⟩ := I.fr
  have sb : L2.Sub X n X.A.in1 := ⟨hr.in1, rfl⟩
  refine PySem.W.len_K hF I.ok.mod.kin J hm.at_ hm.fn ?_
  have e0 : Env0 X.prog X.w X.K X.mg X.base X.A.in1 X.stack s H := by
    have e := I.env0
    exact ⟨by rw [sb.fr]; exact e.frames, e.mod, e.bs, e.bsz, e.funs, e.frf, e.hok, e.bare⟩
  have hl := F.len _ _ _ _ hsp
  have r2 : Vals [V.ref a] [Value.ref a] := .cons rfl .nil
  refine wpAny_call (codeAny_mono (F.run X.A.in1 X.stack s H ⟨[.ref a], []⟩ [.ref a] [.ref a] _ E sb.room e0 (by
    have := hb s [.ref a] I.kIn (by simpa using hl)
    simpa using this) r2 hsp) fun r s' hq => ?_)
  cases r with
  | error e => exact hx pins σ H s e s' I hq
  | ok fl =>
    cases fl with
    | ret w =>
      obtain ⟨z, H', I', rz, i, ez, h0, h1, q⟩ := I.after hq
      subst ez
      obtain ⟨t, rfl⟩ := rz
      exact ⟨⟨h0, h1⟩, .int i, H', I'.tok _, ⟨_, rfl⟩, q⟩
    | next => exact False.elim hq
    | brk => exact False.elim hq
    | cont => exact False.elim hq
end
section
variable {K : PySem.W.Frag} {L : List (As K)} {H : Hp} {Q : VK} {a C : Addr} {sp : Sp} {E : XK} {fs : List (Str × V)}
theorem k_lenC (h : Sep L H) (m : inst a C fs ∈ L) (q : sp [.ref a] H (fun v H' => ∃ i : Int, v = .int i ∧ 0 ≤ i ∧ i < 2 ^ 63 ∧ Q (.int i) H') E) : rLenC C sp E [.ref a] H Q := by
  obtain ⟨dx, hx⟩ := h.insm m
  exact ⟨a, dx, fs, rfl, hx, q⟩
end
end Ls
-- own part: U17
namespace Ls
open PySem PySem.Spec PyProof.Rows L2
/-! ### for at, (one, other) in enumerate(zip(a, b)) -/
abbrev Kp (fp : List Addr) (h h' : Heap) : Prop := ∀ c o, c ∉ fp → h.get? c = some o → h'.get? c = some o
section
variable {fp gp : List Addr} {h h1 h' : Heap} {a : Addr} {o : Obj}
theorem Kp.sb (s : Heap.SameBut a h h') : Kp [a] h h' := fun c u n e => (s.2 c fun z => n (by rw [z]; exact List.mem_singleton.mpr rfl)).trans e
theorem Kp.eb (s : Heap.ExtBut a h h') : Kp [a] h h' := fun c u n e => s c u (fun z => n (by rw [z]; exact List.mem_singleton.mpr rfl)) e
theorem Kp.tr (x : Kp fp h h1) (y : Kp gp h1 h') : Kp (fp ++ gp) h h' := fun c u n e => y c u (fun z => n (List.mem_append_right _ z)) (x c u (fun z => n (List.mem_append_left _ z)) e)
theorem Kp.less (x : Kp fp h h') (s : ∀ b ∈ fp, b ∈ gp) : Kp gp h h' := fun c u n e => x c u (fun z => n (s c z)) e
theorem Kp.ps : Kp [] h (h.push o) := fun c u _ e => Heap.get?_push_of_some _ e
end
def IsIt (b : Bool) (h : Heap) (it l : Addr) (k : Nat) : Prop := match b with
  | true => h.IsListIter it l k
  | false => h.IsTupleIter it l k
def IsSq (b : Bool) (h : Heap) (l : Addr) (xs : Array Value) : Prop := match b with
  | true => h.IsList l xs
  | false => h.IsTuple l xs
abbrev ZipG (h : Heap) (z TI TO : Addr) (f0 f1 : Value) : Prop := h.get? z = some { cls := .type "zip", dict := none, data := .fields #[f0, f1, .bool false, .ref TI, .ref TO], slots := #[] }
def OkF (f0 f1 : Value) : Prop := (f0 = .none ∧ f1 = .bool false) ∨ ∃ (T : Addr) (f : Bool), f0 = rawInt T ∧ f1 = .bool f
def ZipS (h : Heap) (z TI TO : Addr) : Prop := ∃ f0 f1, ZipG h z TI TO f0 f1 ∧ OkF f0 f1
section
variable {prog : Program} {w : World} {A : Around} {E : Value → Shared → Prop} {s : Shared} {b : Bool} {h h' : Heap} {it l z TI TO i1 i2 l1 l2 : Addr} {k : Nat} {xs ys : Array Value} {x y : Value} {α β : Type}
theorem IsIt.bt (c : IsIt b h it l k) (e : ∀ o, h.get? it = some o → h'.get? it = some o) : IsIt b h' it l k := by
  cases b
  · exact Heap.IsTupleIter.at (h := h) c e
  · exact Heap.IsListIter.at (h := h) c e
theorem IsSq.bt (c : IsSq b h l xs) (e : ∀ o, h.get? l = some o → h'.get? l = some o) : IsSq b h' l xs := by
  cases b
  · obtain ⟨o, g, r⟩ := (show h.IsTuple l xs from c)
    exact (⟨o, e o g, r⟩ : h'.IsTuple l xs)
  · obtain ⟨o, g, r⟩ := (show h.IsList l xs from c)
    exact (⟨o, e o g, r⟩ : h'.IsList l xs)
theorem nx_item {Q : Value → Shared → Prop} (c : IsIt b s.heap it l k) (d : IsSq b s.heap l xs) (hx : xs[k]? = some x) (q : ∀ h', IsIt b h' it l (k + 1) → Heap.SameBut it s.heap h' → Q x { s with heap := h' }) : wpAny (model prog w) A (Builtin.SmallTypes.nextOf (.ref it)) Q E s := by
  cases b
  · exact RZ.nextOf_tuple_item c d hx q
  · exact wpAny_nextOf_list_item c d hx q
theorem nx_end {Q : Value → Shared → Prop} (hh : A.handled = none) (c : IsIt b s.heap it l k) (d : IsSq b s.heap l xs) (hx : xs[k]? = none) (q : ∀ h' e, Heap.ExtBut it s.heap h' → (∃ o, h'.get? e = some o ∧ o.cls = .type "StopIteration") → E (.ref e) { s with heap := h' }) : wpAny (model prog w) A (Builtin.SmallTypes.nextOf (.ref it)) Q E s := by
  cases b
  · exact RZ.nextOf_tuple_end hh c d hx q
  · exact wpAny_nextOf_list_end hh c d hx q
/-- a field is read, an item list is read, a field is set -/
theorem bF {M : Model} {a : Addr} {o : Obj} {vs : Array Value} {i : Nat} {v : Value} {f : Value → Sem β} {Q : β → Shared → Prop} (g : s.heap.get? a = some o) (hd : o.data = .fields vs) (hi : vs[i]? = some v) (q : wpAny M A (f v) Q E s) : wpAny M A (field (.ref a) i >>= f) Q E s := wpAny_bind (wpAny_field g hd hi q)
theorem bI {M : Model} {a : Addr} {o : Obj} {vs : Array Value} {n : Nat} {f : Option (Array Value) → Sem β} {Q : β → Shared → Prop} (g : s.heap.get? a = some o) (hd : o.data = .seq vs n) (q : wpAny M A (f (some vs)) Q E s) : wpAny M A (seqItems? (.ref a) >>= f) Q E s := wpAny_bind (wpAny_seqItems g hd q)
theorem alive_is {T : Addr} {Q : Option Obj → Shared → Prop} (q : Q (s.heap.get? T) s) : wpAny (model prog w) A (loadIfAlive T) Q E s := fun _ _ _ => q
/-- whether its tuple is free: either may be -/
theorem own_free {f0 f1 : Value} {Q : Bool → Shared → Prop} (g : ZipG s.heap z TI TO f0 f1) (ok : OkF f0 f1) (q1 : Q true s) (q2 : ∀ h' g0 g1, ZipG h' z TI TO g0 g1 → OkF g0 g1 → Heap.SameBut z s.heap h' → Q false { s with heap := h' }) : wpAny (model prog w) A (Builtin.SmallTypes.ownedTupleIsFree (.ref z)) Q E s := by
  unfold Builtin.SmallTypes.ownedTupleIsFree
  rcases ok with ⟨rfl, rfl⟩ | ⟨T, f, rfl, rfl⟩
  · exact bF g rfl (v := .none) rfl (wpAny_pure q1)
  · refine bF g rfl (v := rawInt T) rfl ?_
    show wpAny _ _ (loadIfAlive ((T : Int).toNat) >>= fun r => _) Q E s
    rw [Int.toNat_natCast]
    refine wpAny_bind (alive_is ?_)
    cases hT : s.heap.get? T with
    | none =>
      simp only [Option.isNone_none, if_true]
      exact wpAny_pure q1
    | some oT =>
      simp only [Option.isNone_some, Bool.false_eq_true, if_false]
      refine bF g rfl (v := .bool f) rfl ?_
      cases f with
      | true =>
        rw [if_neg (by exact Bool.false_ne_true)]
        exact wpAny_pure (q2 s.heap _ _ g (.inr ⟨T, true, rfl, rfl⟩) (Heap.SameBut.refl _ _))
      | false =>
        rw [if_pos (by rfl)]
        exact wpAny_bind (wpAny_setField_rec g (by simp) fun h1 g1 s1 => wpAny_pure (q2 h1 _ _ g1 (.inr ⟨T, true, rfl, rfl⟩) s1))
/-- a zip's turn -/
theorem ez_item {Q : Value → Shared → Prop} (D : ZipApart z TI TO i1 i2 l1 l2) (hz : ZipS s.heap z TI TO) (hI : IsPair s.heap TI (.ref i1) (.ref i2)) (hO : ∃ a b, IsPair s.heap TO a b) (c1 : IsIt b s.heap i1 l1 k) (c2 : IsIt b s.heap i2 l2 k) (d1 : IsSq b s.heap l1 xs) (d2 : IsSq b s.heap l2 ys)
    (hx : xs[k]? = some x) (hy : ys[k]? = some y)
    (q : ∀ h', ZipS h' z TI TO → (∃ a b, IsPair h' TO a b) → IsIt b h' i1 l1 (k + 1) → IsIt b h' i2 l2 (k + 1) → IsPair h' s.heap.objs.size x y → h'.objs.size = s.heap.objs.size + 1 → Kp [z, TO, i1, i2] s.heap h' → Q (.ref s.heap.objs.size) { s with heap := h' }) :
    wpAny (model prog w) A (Builtin.«zip.__next__» ⟨[.ref z], []⟩) (fun r s' => ∃ v, r = .done (.ret v) ∧ Q v s') E s := by
  obtain ⟨f0, f1, g, ok⟩ := hz
  obtain ⟨p1, p2, gO⟩ := hO
  have lz : z < s.heap.objs.size := Heap.lt_size g
  refine bF g rfl (i := 2) (v := .bool false) rfl ?_
  refine bF g rfl (i := 3) (v := .ref TI) rfl ?_
  refine bI hI rfl ?_
  refine wpAny_bind (m := Builtin.SmallTypes.ownedTupleIsFree (.ref z)) (own_free g ok ?_ fun h1 g0 g1 z1 ok1 s1 => ?_)
  · simp only [if_true]
    refine wpAny_bind (wpAny_rule ?_)
    refine bF g rfl (i := 4) (v := .ref TO) rfl ?_
    refine wpAny_bind (wpAny_setField_rec g (by simp) fun h1 z1 s1 => ?_)
    replace z1 : ZipG h1 z TI TO .ellipsis f1 := z1
    have k1 : Kp [z] s.heap h1 := .sb s1
    refine wpAny_bind ?_
    simp only [List.zipIdx_cons, List.zipIdx_nil, List.forIn_cons, List.forIn_nil]
    refine wpAny_bind (wpAny_bind (wpAny_onRaise ?_))
    refine wpAny_bind (m := Builtin.SmallTypes.nextOf (.ref i1)) (nx_item (s := { s with heap := h1 }) (c1.bt fun o e => k1 _ o (by simp [D.i1z]) e) (d1.bt fun o e => k1 _ o (by simp [D.l1z]) e) hx fun h2 e2 s2 => wpAny_pure ?_)
    have k2 : Kp [z, i1] s.heap h2 := k1.tr (.sb s2)
    refine bI (k2 _ _ (by simp [D.TOz, D.TOi1]) gO) rfl ?_
    refine wpAny_bind (wpAny_updateSeq_pair (k2 _ _ (by simp [D.TOz, D.TOi1]) gO) fun h3 o3 s3 => ?_)
    replace o3 : IsPair h3 TO x p2 := o3
    have k3 : Kp [z, i1, TO] s.heap h3 := k2.tr (.sb s3)
    refine wpAny_bind (wpAny_letGo (wpAny_pure ?_))
    refine wpAny_bind (wpAny_bind (wpAny_onRaise ?_))
    refine wpAny_bind (m := Builtin.SmallTypes.nextOf (.ref i2)) (nx_item (s := { s with heap := h3 }) (c2.bt fun o e => k3 _ o (by simp [D.i2z, D.i12.symm, D.TOi2.symm]) e) (d2.bt fun o e => k3 _ o (by simp [D.l2z, D.l2i1, D.l2TO]) e) hy fun h4 e4 s4 => wpAny_pure ?_)
    have o4 : IsPair h4 TO x p2 := s4.extBut _ _ D.TOi2 o3
    refine bI o4 rfl ?_
    refine wpAny_bind (wpAny_updateSeq_pair o4 fun h5 o5 s5 => ?_)
    replace o5 : IsPair h5 TO x y := o5
    refine wpAny_bind (wpAny_letGo (wpAny_pure (wpAny_pure ?_)))
    refine bI o5 rfl ?_
    refine wpAny_bind (wpAny_newTuple ?_)
    have sz : h5.objs.size = s.heap.objs.size := by rw [s5.1, s4.1, s3.1, s2.1, s1.1]
    have k5 : Kp [z, i1, TO, i2] s.heap h5 := ((k3.tr (.sb s4)).tr (.sb s5)).less (by simp)
    have z5 : ZipG h5 z TI TO .ellipsis f1 := (((Kp.sb s2).tr (.sb s3)).tr ((Kp.sb s4).tr (.sb s5))) _ _ (by simp [D.i1z.symm, D.TOz.symm, D.i2z.symm]) z1
    have e5 : IsIt b h5 i1 l1 (k + 1) := e2.bt fun o e => (((Kp.sb s3).tr (.sb s4)).tr (.sb s5)) _ o (by simp [D.TOi1.symm, D.i12]) e
    have f5 : IsIt b h5 i2 l2 (k + 1) := e4.bt fun o e => (Kp.sb s5) _ o (by simp [D.TOi2.symm]) e
    clear s1 s2 s3 s4 s5 k1 k2 k3 z1 e2 e4 o3 o4
    have lz5 : z < h5.objs.size := by rw [sz]; exact lz
    refine wpAny_bind (m := Builtin.SmallTypes.ownedTupleHandOut (.ref z) (.ref h5.objs.size)) ?_
    unfold Builtin.SmallTypes.ownedTupleHandOut
    refine wpAny_bind (wpAny_setField_rec (s := { s with heap := h5.push _ }) (Kp.ps _ _ (by simp) z5) (by simp) fun h7 z7 s7 => ?_)
    replace z7 : ZipG h7 z TI TO (rawInt h5.objs.size) f1 := z7
    refine wpAny_setField_rec (s := { s with heap := h7 }) z7 (by simp) fun h8 z8 s8 => ?_
    replace z8 : ZipG h8 z TI TO (rawInt h5.objs.size) (.bool false) := z8
    have k8 : Kp [z, z] h5 h8 := (Kp.ps.tr (.sb s7)).tr (.sb s8)
    have k8' : Kp [z, z] _ h8 := (Kp.sb s7).tr (.sb s8)
    have p8 : IsPair h8 h5.objs.size x y := k8' _ _ (by simp [Nat.ne_of_gt lz5]) (Heap.get?_push_size _ rfl)
    have n8 : h8.objs.size = h5.objs.size + 1 := by rw [s8.1, s7.1, Heap.size_push]
    refine wpAny_pure ⟨_, rfl, ?_⟩
    rw [sz] at z8 p8 n8
    show Q (.ref h5.objs.size) _
    rw [sz]
    exact q h8 ⟨_, _, z8, .inr ⟨_, _, rfl, rfl⟩⟩ ⟨x, y, k8 _ _ (by simp [D.TOz]) o5⟩ (e5.bt fun o e => k8 _ o (by simp [D.i1z]) e) (f5.bt fun o e => k8 _ o (by simp [D.i2z]) e) p8 n8 ((k5.tr k8).less (by simp))
  · simp only [Bool.false_eq_true, if_false]
    have k1 : Kp [z] s.heap h1 := .sb s1
    refine wpAny_bind ?_
    rw [← Array.forIn_toList]
    simp only [List.forIn_cons, List.forIn_nil]
    refine wpAny_bind (wpAny_bind (wpAny_holding ?_))
    refine wpAny_bind (m := Builtin.SmallTypes.nextOf (.ref i1)) (nx_item (s := { s with heap := h1 }) (c1.bt fun o e => k1 _ o (by simp [D.i1z]) e) (d1.bt fun o e => k1 _ o (by simp [D.l1z]) e) hx fun h2 e2 s2 => wpAny_pure (wpAny_pure ?_))
    have k2 : Kp [z, i1] s.heap h2 := k1.tr (.sb s2)
    refine wpAny_bind (wpAny_bind (wpAny_holding ?_))
    refine wpAny_bind (m := Builtin.SmallTypes.nextOf (.ref i2)) (nx_item (s := { s with heap := h2 }) (c2.bt fun o e => k2 _ o (by simp [D.i2z, D.i12.symm]) e) (d2.bt fun o e => k2 _ o (by simp [D.l2z, D.l2i1]) e) hy fun h3 e3 s3 => wpAny_pure (wpAny_pure (wpAny_pure ?_)))
    refine wpAny_bind (m := newTuple [x, y]) (wpAny_newTuple (wpAny_pure ⟨_, rfl, ?_⟩))
    have sz : h3.objs.size = s.heap.objs.size := by rw [s3.1, s2.1, s1.1]
    have k3 : Kp [z, i1, i2] s.heap h3 := k2.tr (.sb s3)
    have z3 : ZipG h3 z TI TO g0 g1 := ((Kp.sb s2).tr (.sb s3)) _ _ (by simp [D.i1z.symm, D.i2z.symm]) z1
    have e4 : IsIt b h3 i1 l1 (k + 1) := e2.bt fun o e => (Kp.sb s3) _ o (by simp [D.i12]) e
    have p3 : IsPair (h3.push { cls := .type "tuple", data := .seq #[x, y] }) h3.objs.size x y := Heap.get?_push_size _ rfl
    have n3 : (h3.push { cls := .type "tuple", data := .seq #[x, y] }).objs.size = h3.objs.size + 1 := Heap.size_push ..
    have pp : ∀ c o, h3.get? c = some o → (h3.push { cls := .type "tuple", data := .seq #[x, y] }).get? c = some o := fun c o e => Kp.ps _ _ (by simp) e
    show Q (.ref h3.objs.size) _
    rw [sz] at p3 n3 ⊢
    exact q _ ⟨_, _, pp _ _ z3, ok1⟩ ⟨p1, p2, pp _ _ (k3 _ _ (by simp [D.TOz, D.TOi1, D.TOi2]) gO)⟩ (e4.bt fun o e => pp _ o e) (e3.bt fun o e => pp _ o e) p3 n3 ((k3.tr .ps).less (by simp))
theorem ez_end {Q : Fin → Shared → Prop} (hh : A.handled = none) (D : ZipApart z TI TO i1 i2 l1 l2) (hz : ZipS s.heap z TI TO) (hI : IsPair s.heap TI (.ref i1) (.ref i2)) (hO : ∃ a b, IsPair s.heap TO a b) (c1 : IsIt b s.heap i1 l1 k) (c2 : IsIt b s.heap i2 l2 k) (d1 : IsSq b s.heap l1 xs) (d2 : IsSq b s.heap l2 ys)
    (hn : xs[k]? = none ∨ ys[k]? = none) (q : ∀ h' e, Kp [z, TO, i1, i2] s.heap h' → (∃ o, h'.get? e = some o ∧ o.cls = .type "StopIteration") → E (.ref e) { s with heap := h' }) :
    wpAny (model prog w) A (Builtin.«zip.__next__» ⟨[.ref z], []⟩) Q E s := by
  obtain ⟨f0, f1, g, ok⟩ := hz
  obtain ⟨p1, p2, gO⟩ := hO
  refine bF g rfl (i := 2) (v := .bool false) rfl ?_
  refine bF g rfl (i := 3) (v := .ref TI) rfl ?_
  refine bI hI rfl ?_
  refine wpAny_bind (m := Builtin.SmallTypes.ownedTupleIsFree (.ref z)) (own_free g ok ?_ fun h1 g0 g1 z1 ok1 s1 => ?_)
  · simp only [if_true]
    refine wpAny_bind (wpAny_rule ?_)
    refine bF g rfl (i := 4) (v := .ref TO) rfl ?_
    refine wpAny_bind (wpAny_setField_rec g (by simp) fun h1 z1 s1 => ?_)
    replace z1 : ZipG h1 z TI TO .ellipsis f1 := z1
    have k1 : Kp [z] s.heap h1 := .sb s1
    refine wpAny_bind ?_
    simp only [List.zipIdx_cons, List.zipIdx_nil, List.forIn_cons, List.forIn_nil]
    refine wpAny_bind (wpAny_bind (wpAny_onRaise ?_))
    have b1 := c1.bt (h' := h1) fun o e => k1 _ o (by simp [D.i1z]) e
    have j1 := d1.bt (h' := h1) fun o e => k1 _ o (by simp [D.l1z]) e
    cases hx : xs[k]? with
    | none =>
      refine wpAny_bind (m := Builtin.SmallTypes.nextOf (.ref i1)) (nx_end (s := { s with heap := h1 }) hh b1 j1 hx fun h2 e x2 he => ?_)
      obtain ⟨oe, ge, ce⟩ := he
      have z2 : ZipG h2 z TI TO .ellipsis f1 := x2 _ _ D.i1z.symm z1
      have ne : e ≠ z := fun u => by
        subst u
        rw [z2] at ge
        cases ge
        simp at ce
      refine wpAny_setField_rec (s := { s with heap := h2 }) z2 (by simp) fun h3 _ s3 => q h3 e (((k1.tr (.eb x2)).tr (.sb s3)).less (by simp)) ⟨oe, Kp.sb s3 _ _ (by simp [ne]) ge, ce⟩
    | some x =>
      have hy : ys[k]? = none := by
        rcases hn with u | u
        · rw [hx] at u; cases u
        · exact u
      refine wpAny_bind (m := Builtin.SmallTypes.nextOf (.ref i1)) (nx_item (s := { s with heap := h1 }) b1 j1 hx fun h2 e2 s2 => wpAny_pure ?_)
      have k2 : Kp [z, i1] s.heap h2 := k1.tr (.sb s2)
      refine bI (k2 _ _ (by simp [D.TOz, D.TOi1]) gO) rfl ?_
      refine wpAny_bind (wpAny_updateSeq_pair (k2 _ _ (by simp [D.TOz, D.TOi1]) gO) fun h3 o3 s3 => ?_)
      have k3 : Kp [z, i1, TO] s.heap h3 := k2.tr (.sb s3)
      refine wpAny_bind (wpAny_letGo (wpAny_pure ?_))
      refine wpAny_bind (wpAny_bind (wpAny_onRaise ?_))
      refine wpAny_bind (m := Builtin.SmallTypes.nextOf (.ref i2)) (nx_end (s := { s with heap := h3 }) hh (c2.bt fun o e => k3 _ o (by simp [D.i2z, D.i12.symm, D.TOi2.symm]) e) (d2.bt fun o e => k3 _ o (by simp [D.l2z, D.l2i1, D.l2TO]) e) hy fun h4 e x4 he => ?_)
      obtain ⟨oe, ge, ce⟩ := he
      have z4 : ZipG h4 z TI TO .ellipsis f1 := (((Kp.sb s2).tr (.sb s3)).tr (.eb x4)) _ _ (by simp [D.i1z.symm, D.TOz.symm, D.i2z.symm]) z1
      have ne : e ≠ z := fun u => by
        subst u
        rw [z4] at ge
        cases ge
        simp at ce
      refine wpAny_setField_rec (s := { s with heap := h4 }) z4 (by simp) fun h5 _ s5 => q h5 e (((k3.tr (.eb x4)).tr (.sb s5)).less (by simp)) ⟨oe, Kp.sb s5 _ _ (by simp [ne]) ge, ce⟩
  · simp only [Bool.false_eq_true, if_false]
    have k1 : Kp [z] s.heap h1 := .sb s1
    refine wpAny_bind ?_
    rw [← Array.forIn_toList]
    simp only [List.forIn_cons, List.forIn_nil]
    refine wpAny_bind (wpAny_bind (wpAny_holding ?_))
    have b1 := c1.bt (h' := h1) fun o e => k1 _ o (by simp [D.i1z]) e
    have j1 := d1.bt (h' := h1) fun o e => k1 _ o (by simp [D.l1z]) e
    cases hx : xs[k]? with
    | none =>
      exact wpAny_bind (m := Builtin.SmallTypes.nextOf (.ref i1)) (nx_end (s := { s with heap := h1 }) hh b1 j1 hx fun h2 e x2 he => q h2 e ((k1.tr (.eb x2)).less (by simp)) he)
    | some x =>
      have hy : ys[k]? = none := by
        rcases hn with u | u
        · rw [hx] at u; cases u
        · exact u
      refine wpAny_bind (m := Builtin.SmallTypes.nextOf (.ref i1)) (nx_item (s := { s with heap := h1 }) b1 j1 hx fun h2 e2 s2 => wpAny_pure (wpAny_pure ?_))
      have k2 : Kp [z, i1] s.heap h2 := k1.tr (.sb s2)
      refine wpAny_bind (wpAny_bind (wpAny_holding ?_))
      exact wpAny_bind (m := Builtin.SmallTypes.nextOf (.ref i2)) (nx_end (s := { s with heap := h2 }) hh (c2.bt fun o e => k2 _ o (by simp [D.i2z, D.i12.symm]) e) (d2.bt fun o e => k2 _ o (by simp [D.l2z, D.l2i1]) e) hy fun h3 e x3 he => q h3 e ((k2.tr (.eb x3)).less (by simp)) he)
/-! its draws as another's -/
theorem zz_item {Q : Value → Shared → Prop} (D : ZipApart z TI TO i1 i2 l1 l2) (hz : ZipS s.heap z TI TO) (hI : IsPair s.heap TI (.ref i1) (.ref i2)) (hO : ∃ a b, IsPair s.heap TO a b) (c1 : IsIt b s.heap i1 l1 k) (c2 : IsIt b s.heap i2 l2 k) (d1 : IsSq b s.heap l1 xs) (d2 : IsSq b s.heap l2 ys)
    (hx : xs[k]? = some x) (hy : ys[k]? = some y)
    (q : ∀ h', ZipS h' z TI TO → (∃ a b, IsPair h' TO a b) → IsIt b h' i1 l1 (k + 1) → IsIt b h' i2 l2 (k + 1) → IsPair h' s.heap.objs.size x y → h'.objs.size = s.heap.objs.size + 1 → Kp [z, TO, i1, i2] s.heap h' → Q (.ref s.heap.objs.size) { s with heap := h' }) :
    wpAny (model prog w) A (Builtin.SmallTypes.nextOf (.ref z)) Q E s := by
  have T : s.TypeIs (.ref z) "zip" := by
    obtain ⟨f0, f1, g, _⟩ := hz
    exact ⟨_, g, rfl⟩
  unfold Builtin.SmallTypes.nextOf
  refine wpAny_bind (wpAny_callSpecial?_slot (name := Str.ofString "__next__") T F.slot_zip_next (wpAny_call_entry F.slot_zip_next T F.entry_zip_next ?_ (F.args_zip_next_1 _)))
  exact ez_item (Q := fun v s' => wpAny _ _ (pure v) _ _ s') D hz hI hO c1 c2 d1 d2 hx hy fun h' u1 u2 u3 u4 u5 u6 u7 => wpAny_pure (q h' u1 u2 u3 u4 u5 u6 u7)
theorem zz_end {Q : Value → Shared → Prop} (hh : A.handled = none) (D : ZipApart z TI TO i1 i2 l1 l2) (hz : ZipS s.heap z TI TO) (hI : IsPair s.heap TI (.ref i1) (.ref i2)) (hO : ∃ a b, IsPair s.heap TO a b) (c1 : IsIt b s.heap i1 l1 k) (c2 : IsIt b s.heap i2 l2 k) (d1 : IsSq b s.heap l1 xs) (d2 : IsSq b s.heap l2 ys)
    (hn : xs[k]? = none ∨ ys[k]? = none) (q : ∀ h' e, Kp [z, TO, i1, i2] s.heap h' → (∃ o, h'.get? e = some o ∧ o.cls = .type "StopIteration") → E (.ref e) { s with heap := h' }) :
    wpAny (model prog w) A (Builtin.SmallTypes.nextOf (.ref z)) Q E s := by
  have T : s.TypeIs (.ref z) "zip" := by
    obtain ⟨f0, f1, g, _⟩ := hz
    exact ⟨_, g, rfl⟩
  unfold Builtin.SmallTypes.nextOf
  refine wpAny_bind (wpAny_callSpecial?_slot (name := Str.ofString "__next__") T F.slot_zip_next (wpAny_call_entry F.slot_zip_next T F.entry_zip_next ?_ (F.args_zip_next_1 _)))
  exact ez_end hh D hz hI hO c1 c2 d1 d2 hn q
/-! an enumerate over it -/
theorem en_item {e : Addr} {old : Value} {Q : Value → Shared → Prop} (De : e ≠ z ∧ e ≠ TO ∧ e ≠ i1 ∧ e ≠ i2) (he : IsEnum s.heap e z (k : Nat) old) (D : ZipApart z TI TO i1 i2 l1 l2) (hz : ZipS s.heap z TI TO) (hI : IsPair s.heap TI (.ref i1) (.ref i2)) (hO : ∃ a b, IsPair s.heap TO a b) (c1 : IsIt b s.heap i1 l1 k) (c2 : IsIt b s.heap i2 l2 k) (d1 : IsSq b s.heap l1 xs) (d2 : IsSq b s.heap l2 ys)
    (hx : xs[k]? = some x) (hy : ys[k]? = some y)
    (q : ∀ h1 h', IsPair h1 s.heap.objs.size x y → h1.objs.size = s.heap.objs.size + 1 → Kp [z, TO, i1, i2] s.heap h1 → IsEnumOut h' e z ((k : Nat) + 1) (.ref s.heap.objs.size) (s.heap.objs.size + 1) → ZipS h' z TI TO → (∃ a b, IsPair h' TO a b) → IsIt b h' i1 l1 (k + 1) → IsIt b h' i2 l2 (k + 1) → IsPair h' s.heap.objs.size x y → h'.get? (s.heap.objs.size + 1) = some { cls := .type "tuple", data := .seq #[.int (k : Nat) s.toks, .ref s.heap.objs.size] } →
      Kp [e] h1 h' → Q (.ref (s.heap.objs.size + 1)) { s with heap := h', toks := s.toks + 1 }) :
    wpAny (model prog w) A (Builtin.«enumerate.__next__» ⟨[.ref e], []⟩) (fun r s' => ∃ v, r = .done (.ret v) ∧ Q v s') E s := by
  obtain ⟨n1, n2, n3, n4⟩ := De
  have le : e < s.heap.objs.size := Heap.lt_size he
  have lTO : TO < s.heap.objs.size := by
    obtain ⟨a, b, g⟩ := hO
    exact Heap.lt_size g
  refine bF he rfl (i := 2) (v := .ref z) rfl ?_
  refine wpAny_bind (m := Builtin.SmallTypes.nextOf (.ref z)) (zz_item D hz hI hO c1 c2 d1 d2 hx hy fun h1 z1 O1 e1 f1 p1 m1 k1 => ?_)
  have he1 : IsEnum h1 e z (k : Nat) old := k1 _ _ (by simp [n1, n2, n3, n4]) he
  refine bF (s := { s with heap := h1 }) he1 rfl (i := 3) (v := rawInt (k : Nat)) rfl ?_
  refine bF (s := { s with heap := h1 }) he1 rfl (i := 4) (v := .none) rfl ?_
  refine wpAny_bind (m := mkInt (k : Nat)) (wpAny_mkInt ?_)
  refine wpAny_bind (m := setField (.ref e) 3 (rawInt ((k : Nat) + 1))) (wpAny_setField_rec (s := { s with heap := h1, toks := s.toks + 1 }) he1 (by simp) fun h2 he2 s2 => ?_)
  replace he2 : IsEnum h2 e z ((k : Nat) + 1) old := he2
  refine wpAny_bind (m := setField (.ref e) 4 .none) (wpAny_setField_rec (s := { s with heap := h2, toks := s.toks + 1 }) he2 (by simp) fun h3 he3 s3 => ?_)
  replace he3 : IsEnum h3 e z ((k : Nat) + 1) old := he3
  have m3 : h3.objs.size = s.heap.objs.size + 1 := by rw [s3.1, s2.1, m1]
  refine wpAny_bind (m := newTuple [.int (k : Nat) s.toks, .ref s.heap.objs.size]) (wpAny_newTuple (s := { s with heap := h3, toks := s.toks + 1 }) ?_)
  generalize hh4 : h3.push { cls := .type "tuple", data := .seq [Value.int (k : Nat) s.toks, Value.ref s.heap.objs.size].toArray } = h4
  have t4 : h4.get? (s.heap.objs.size + 1) = some { cls := .type "tuple", data := .seq #[.int (k : Nat) s.toks, .ref s.heap.objs.size] } := by
    rw [← hh4, ← m3]
    exact Heap.get?_push_size _ rfl
  have kp : Kp [] h3 h4 := by rw [← hh4]; exact .ps
  have he4 : IsEnum h4 e z ((k : Nat) + 1) old := kp _ _ (by simp) he3
  refine wpAny_bind (m := Builtin.SmallTypes.ownedTupleIsFree (.ref e)) ?_
  unfold Builtin.SmallTypes.ownedTupleIsFree
  refine bF (s := { s with heap := h4, toks := s.toks + 1 }) he4 rfl (v := .none) rfl (wpAny_pure ?_)
  simp only [if_true]
  refine wpAny_bind (wpAny_rule ?_)
  refine bF (s := { s with heap := h4, toks := s.toks + 1 }) he4 rfl (i := 5) (v := old) rfl ?_
  refine wpAny_bind (wpAny_setField_rec (s := { s with heap := h4, toks := s.toks + 1 }) he4 (by simp) fun h5 he5 s5 => ?_)
  replace he5 : IsEnum h5 e z ((k : Nat) + 1) (.ref s.heap.objs.size) := he5
  rw [show ({ s with heap := h3, toks := s.toks + 1 } : Shared).heap.objs.size = s.heap.objs.size + 1 from m3]
  refine wpAny_bind (m := Builtin.SmallTypes.ownedTupleHandOut (.ref e) (.ref (s.heap.objs.size + 1))) ?_
  unfold Builtin.SmallTypes.ownedTupleHandOut
  refine wpAny_bind (wpAny_setField_rec (s := { s with heap := h5, toks := s.toks + 1 }) he5 (by simp) fun h6 he6 s6 => ?_)
  replace he6 : IsEnumOut h6 e z ((k : Nat) + 1) (.ref s.heap.objs.size) (s.heap.objs.size + 1) := he6
  refine wpAny_setField_rec (s := { s with heap := h6, toks := s.toks + 1 }) he6 (by simp) fun h7 he7 s7 => ?_
  replace he7 : IsEnumOut h7 e z ((k : Nat) + 1) (.ref s.heap.objs.size) (s.heap.objs.size + 1) := he7
  have ka : Kp [e, e, e] h4 h7 := ((Kp.sb s5).tr (.sb s6)).tr (.sb s7)
  have kb : Kp [e, e, e, e, e] h1 h7 := (((Kp.sb s2).tr (.sb s3)).tr kp).tr ka
  have nn : ∀ a, a ≠ e → ∀ o, h1.get? a = some o → h7.get? a = some o := fun a n o g => kb a o (by simp [n]) g
  obtain ⟨g0, g1, gz, gk⟩ := z1
  obtain ⟨a, c, go⟩ := O1
  refine wpAny_bind (wpAny_letGo (wpAny_pure ⟨_, rfl, q h1 h7 p1 m1 k1 he7 ⟨g0, g1, nn _ n1.symm _ gz, gk⟩ ⟨a, c, nn _ n2.symm _ go⟩ (e1.bt (nn _ n3.symm)) (f1.bt (nn _ n4.symm)) (nn _ (Nat.ne_of_gt le) _ p1) (ka _ _ (by simp [Nat.ne_of_gt (Nat.lt_succ_of_lt le)]) t4) (kb.less (by simp))⟩))
theorem en_end {e : Addr} {old : Value} {Q : Fin → Shared → Prop} (hh : A.handled = none) (he : IsEnum s.heap e z (k : Nat) old) (D : ZipApart z TI TO i1 i2 l1 l2) (hz : ZipS s.heap z TI TO) (hI : IsPair s.heap TI (.ref i1) (.ref i2)) (hO : ∃ a b, IsPair s.heap TO a b) (c1 : IsIt b s.heap i1 l1 k) (c2 : IsIt b s.heap i2 l2 k) (d1 : IsSq b s.heap l1 xs) (d2 : IsSq b s.heap l2 ys)
    (hn : xs[k]? = none ∨ ys[k]? = none) (q : ∀ h' e, Kp [z, TO, i1, i2] s.heap h' → (∃ o, h'.get? e = some o ∧ o.cls = .type "StopIteration") → E (.ref e) { s with heap := h' }) :
    wpAny (model prog w) A (Builtin.«enumerate.__next__» ⟨[.ref e], []⟩) Q E s := by
  refine bF he rfl (i := 2) (v := .ref z) rfl ?_
  exact wpAny_bind (m := Builtin.SmallTypes.nextOf (.ref z)) (zz_end hh D hz hI hO c1 c2 d1 d2 hn q)
theorem pn_item {e : Addr} {old : Value} {Q : Option Value → Shared → Prop} (De : e ≠ z ∧ e ≠ TO ∧ e ≠ i1 ∧ e ≠ i2) (he : IsEnum s.heap e z (k : Nat) old) (D : ZipApart z TI TO i1 i2 l1 l2) (hz : ZipS s.heap z TI TO) (hI : IsPair s.heap TI (.ref i1) (.ref i2)) (hO : ∃ a b, IsPair s.heap TO a b) (c1 : IsIt b s.heap i1 l1 k) (c2 : IsIt b s.heap i2 l2 k) (d1 : IsSq b s.heap l1 xs) (d2 : IsSq b s.heap l2 ys)
    (hx : xs[k]? = some x) (hy : ys[k]? = some y)
    (q : ∀ h1 h', IsPair h1 s.heap.objs.size x y → h1.objs.size = s.heap.objs.size + 1 → Kp [z, TO, i1, i2] s.heap h1 → IsEnumOut h' e z ((k : Nat) + 1) (.ref s.heap.objs.size) (s.heap.objs.size + 1) → ZipS h' z TI TO → (∃ a b, IsPair h' TO a b) → IsIt b h' i1 l1 (k + 1) → IsIt b h' i2 l2 (k + 1) → IsPair h' s.heap.objs.size x y → h'.get? (s.heap.objs.size + 1) = some { cls := .type "tuple", data := .seq #[.int (k : Nat) s.toks, .ref s.heap.objs.size] } →
      Kp [e] h1 h' → Q (some (.ref (s.heap.objs.size + 1))) { s with heap := h', toks := s.toks + 1 }) :
    wpAny (model prog w) A (pyNext (.ref e)) Q E s := by
  have T : s.TypeIs (.ref e) "enumerate" := ⟨_, he, rfl⟩
  unfold pyNext
  refine wpAny_bind (wpAny_attempt (wpAny_callSpecial?_slot (name := Str.ofString "__next__") T F.slot_enumerate_next (wpAny_call_entry F.slot_enumerate_next T F.entry_enumerate_next ?_ (F.args_enumerate_next_1 _))))
  exact en_item (Q := fun v s' => wpAny _ _ (pure _) _ _ s') De he D hz hI hO c1 c2 d1 d2 hx hy fun h1 h' w1 w2 w3 u1 u2 u3 u4 u5 u6 u7 u8 => wpAny_pure (q h1 h' w1 w2 w3 u1 u2 u3 u4 u5 u6 u7 u8)
theorem pn_end {e : Addr} {old : Value} {Q : Option Value → Shared → Prop} (hh : A.handled = none) (he : IsEnum s.heap e z (k : Nat) old) (D : ZipApart z TI TO i1 i2 l1 l2) (hz : ZipS s.heap z TI TO) (hI : IsPair s.heap TI (.ref i1) (.ref i2)) (hO : ∃ a b, IsPair s.heap TO a b) (c1 : IsIt b s.heap i1 l1 k) (c2 : IsIt b s.heap i2 l2 k) (d1 : IsSq b s.heap l1 xs) (d2 : IsSq b s.heap l2 ys)
    (hn : xs[k]? = none ∨ ys[k]? = none) (q : ∀ h', Kp [z, TO, i1, i2] s.heap h' → Q none { s with heap := h' }) : wpAny (model prog w) A (pyNext (.ref e)) Q E s := by
  have T : s.TypeIs (.ref e) "enumerate" := ⟨_, he, rfl⟩
  unfold pyNext
  refine wpAny_bind (wpAny_attempt (wpAny_callSpecial?_slot (name := Str.ofString "__next__") T F.slot_enumerate_next (wpAny_call_entry F.slot_enumerate_next T F.entry_enumerate_next ?_ (F.args_enumerate_next_1 _))))
  refine en_end hh he D hz hI hO c1 c2 d1 d2 hn fun h' u ku hu => ?_
  obtain ⟨o, g, c⟩ := hu
  exact wpAny_bind (wpAny_isInstance (T := "StopIteration") (b := true) ⟨o, g, c⟩ isSubtype_stop (wpAny_pure (q _ ku)))
end
/-! as a loop's iterator -/
def Sqb (b : Bool) (K : PySem.W.Frag) (H : Hp) (a : Addr) (xs : List V) : Prop := match b with
  | true => SqL K H a xs
  | false => SqT K H a xs
def Itez (b : Bool) (K : PySem.W.Frag) (a c : Addr) : It :=
  ⟨fun i H => ∃ (xs ys : List V) (x y : V), Sqb b K H a xs ∧ Sqb b K H c ys ∧ xs[i]? = some x ∧ ys[i]? = some y,
    fun i H v H' => ∃ T U x y, v = .ref T ∧ U ≠ T ∧ H U = none ∧ H T = none ∧ H' = upd (upd H U (.tup [x, y])) T (.tup [.int (i : Nat), .ref U]) ∧ (∀ xs, Sqb b K H a xs → xs[i]? = some x) ∧ ∀ ys, Sqb b K H c ys → ys[i]? = some y,
    fun i H => ∃ xs ys : List V, Sqb b K H a xs ∧ Sqb b K H c ys ∧ (xs.length ≤ i ∨ ys.length ≤ i)⟩
section
variable {X : Cx} {pins : List (Addr × Obj)} {σ : L2.St} {H : Hp} {s : Shared} {b : Bool} {a : Addr} {xs ys : List V}
theorem inv_sq (I : Inv X pins σ H s) (h : Sqb b X.K H a xs) : ∃ its : List Value, Vals xs its ∧ IsSq b s.heap a its.toArray := by
  cases b with
  | true =>
    obtain ⟨its, r, p, _⟩ := I.list h
    exact ⟨its, r, p.isList⟩
  | false =>
    obtain ⟨its, r, p, _⟩ := I.tuple h
    exact ⟨its, r, p⟩
theorem inv_inj (I : Inv X pins σ H s) (h : Sqb b X.K H a xs) (h2 : Sqb b X.K H a ys) : xs = ys := by
  cases b with
  | true => exact I.list_inj h h2
  | false => exact I.tuple_inj h h2
end
def EzS (b : Bool) (e z TI TO i1 i2 l1 l2 : Addr) (i : Nat) (h : Heap) : Prop := (∃ old, IsEnum h e z (i : Nat) old) ∧ ZipS h z TI TO ∧ IsPair h TI (.ref i1) (.ref i2) ∧ (∃ a b, IsPair h TO a b) ∧ IsIt b h i1 l1 i ∧ IsIt b h i2 l2 i
theorem it_obj {b : Bool} {h : Heap} {it l : Addr} {k : Nat} (c : IsIt b h it l k) : ∃ o, h.get? it = some o ∧ ∀ v, o.data ≠ .cell v := by
  cases b
  · obtain ⟨o, g, _, d⟩ := (show h.IsTupleIter it l k from c)
    exact ⟨o, g, fun v q => by rw [d] at q; cases q⟩
  · obtain ⟨o, g, _, d⟩ := (show h.IsListIter it l k from c)
    exact ⟨o, g, fun v q => by rw [d] at q; cases q⟩
theorem turn_ez {P : Program} {w : World} {K : PySem.W.Frag} {elts : List Expr} {kk : Nat} {tpos : Pos} {b : Bool} {e z TI TO i1 i2 l1 l2 : Addr} (D : ZipApart z TI TO i1 i2 l1 l2) (De : e ≠ z ∧ e ≠ TO ∧ e ≠ i1 ∧ e ≠ i2) (DI : TI ≠ e) :
    Turn P w K (.Tuple elts kk tpos) (Itez b K l1 l2) [e, z, TI, TO, i1, i2] e (EzS b e z TI TO i1 i2 l1 l2) where
  mem := List.mem_cons_self
  obj := fun i h st c hc => by
    obtain ⟨⟨old, he⟩, ⟨g0, g1, gz, _⟩, hI, ⟨p, q, hO⟩, c1, c2⟩ := st
    simp only [List.mem_cons, List.not_mem_nil, or_false] at hc
    rcases hc with rfl | rfl | rfl | rfl | rfl | rfl
    · exact ⟨_, he, fun v u => nomatch u⟩
    · exact ⟨_, gz, fun v u => nomatch u⟩
    · exact ⟨_, hI, fun v u => nomatch u⟩
    · exact ⟨_, hO, fun v u => nomatch u⟩
    · exact it_obj c1
    · exact it_obj c2
  keep := fun i h h' st k => by
    obtain ⟨⟨old, he⟩, ⟨g0, g1, gz, gk⟩, hI, ⟨p, q, hO⟩, c1, c2⟩ := st
    exact ⟨⟨old, k e (by simp) _ he⟩, ⟨g0, g1, k z (by simp) _ gz, gk⟩, k TI (by simp) _ hI, ⟨p, q, k TO (by simp) _ hO⟩, c1.bt (k i1 (by simp)), c2.bt (k i2 (by simp))⟩
  item := by
    intro X hP hw hK hc i pins s σ H E I hf st hg
    subst hP hw hK
    obtain ⟨⟨old, he⟩, hz, hI, hO, c1, c2⟩ := st
    obtain ⟨xs, ys, x, y, q1, q2, hx, hy⟩ := hg
    obtain ⟨us, r1, d1⟩ := inv_sq I q1
    obtain ⟨vs, r2, d2⟩ := inv_sq I q2
    obtain ⟨u, hu, ru⟩ := r1.get hx
    obtain ⟨v, hv, rv⟩ := r2.get hy
    have le : e < s.heap.objs.size := Heap.lt_size he
    have lz : z < s.heap.objs.size := by
      obtain ⟨_, _, g, _⟩ := hz
      exact Heap.lt_size g
    have lI : TI < s.heap.objs.size := Heap.lt_size hI
    have lO : TO < s.heap.objs.size := by
      obtain ⟨_, _, g⟩ := hO
      exact Heap.lt_size g
    have li1 : i1 < s.heap.objs.size := by
      obtain ⟨o, g, _⟩ := it_obj c1
      exact Heap.lt_size g
    have li2 : i2 < s.heap.objs.size := by
      obtain ⟨o, g, _⟩ := it_obj c2
      exact Heap.lt_size g
    refine pn_item De he D hz hI hO c1 c2 d1 d2 (x := u) (y := v) (by simpa using hu) (by simpa using hv) fun h1 h2 p1 m1 k1 he2 hz2 hO2 e2 f2 p2 t2 k2 => ?_
    refine ⟨_, rfl, wpAny_letOwnedTupleGo_enum (s := { s with heap := h2, toks := s.toks + 1 }) he2 fun h3 he3 s3 => ?_⟩
    have k3 : Kp [e] h2 h3 := .sb s3
    have k13 : Kp [e] h1 h3 := (k2.tr k3).less (by simp)
    have hN : H s.heap.objs.size = none := I.hok.fresh (Nat.le_refl _)
    have hM : H (s.heap.objs.size + 1) = none := I.hok.fresh (Nat.le_succ _)
    have new1 : ObjOk X.prog X.w (upd H s.heap.objs.size (.tup [x, y])) h1 s.heap.objs.size (.tup [x, y]) := ⟨by show 2 ≤ sizeLine; decide, [u, v], .cons ru (.cons rv .nil), ⟨_, p1, rfl, _, rfl⟩⟩
    have I1 : Inv X pins σ (upd H s.heap.objs.size (.tup [x, y])) { s with heap := h1, toks := s.toks } := I.turnedNew (ch := [z, TO, i1, i2]) (fun c o n g => k1 c o n g) (fun c m => hf c (by simp only [List.mem_cons, List.not_mem_nil, or_false] at m ⊢; rcases m with m | m | m | m <;> simp [m])) (Nat.le_refl _) new1
    have t3 : h3.get? (s.heap.objs.size + 1) = some { cls := .type "tuple", data := .seq #[.int (i : Nat) s.toks, .ref s.heap.objs.size] } := k3 _ _ (by simp [Nat.ne_of_gt (Nat.lt_succ_of_lt le)]) t2
    have new2 : ObjOk X.prog X.w (upd (upd H s.heap.objs.size (.tup [x, y])) (s.heap.objs.size + 1) (.tup [.int (i : Nat), .ref s.heap.objs.size])) h3 (s.heap.objs.size + 1) (.tup [.int (i : Nat), .ref s.heap.objs.size]) :=
      ⟨by show 2 ≤ sizeLine; decide, [.int (i : Nat) s.toks, .ref s.heap.objs.size], .cons ⟨_, rfl⟩ (.cons rfl .nil), ⟨_, t3, rfl, _, rfl⟩⟩
    have fe : FpOk X pins (upd H s.heap.objs.size (.tup [x, y])) e := by
      obtain ⟨a1, a2⟩ := hf e (by simp)
      exact ⟨by rw [upd_ne (Nat.ne_of_lt le)]; exact a1, a2⟩
    have I2 : Inv X pins σ _ { s with heap := h3, toks := s.toks + 1 } := I1.turnedNew (ch := [e]) (t' := s.toks + 1) (fun c o n g => k13 c o n g) (fun c m => by rw [List.mem_singleton.mp m]; exact fe) (by show h1.objs.size ≤ _; omega) new2
    obtain ⟨g0, g1, gz, gk⟩ := hz2
    obtain ⟨a0, b0, gO⟩ := hO2
    have nn : ∀ c, c ≠ e → ∀ o, h2.get? c = some o → h3.get? c = some o := fun c n o g => k3 c o (by simp [n]) g
    refine ⟨.ref (s.heap.objs.size + 1), _, I2, rfl, ⟨_, s.heap.objs.size, x, y, rfl, Nat.ne_of_lt (Nat.lt_succ_self _), hN, hM, rfl, fun l hl => by rw [inv_inj I hl q1]; exact hx, fun l hl => by rw [inv_inj I hl q2]; exact hy⟩, ⟨⟨.ref s.heap.objs.size, ?_⟩, ⟨g0, g1, nn _ De.1.symm _ gz, gk⟩, ?_, ⟨a0, b0, nn _ De.2.1.symm _ gO⟩, e2.bt (nn _ De.2.2.1.symm), f2.bt (nn _ De.2.2.2.symm)⟩, fun c m => ?_⟩
    · rw [show ((i + 1 : Nat) : Int) = (i : Nat) + 1 by omega]
      exact he3
    · exact k13 _ _ (by simp [DI]) (k1 _ _ (by simp [D.TIz, D.TITO, D.TIi1, D.TIi2]) hI)
    · have lc : c < s.heap.objs.size := by
        simp only [List.mem_cons, List.not_mem_nil, or_false] at m
        rcases m with rfl | rfl | rfl | rfl | rfl | rfl <;> assumption
      rw [upd_ne (Nat.ne_of_lt (Nat.lt_succ_of_lt lc)), upd_ne (Nat.ne_of_lt lc)]
      exact (hf c m).1
  done := by
    intro X hP hw hK hc i pins s σ H E I hf st hg
    subst hP hw hK
    obtain ⟨⟨old, he⟩, hz, hI, hO, c1, c2⟩ := st
    obtain ⟨xs, ys, q1, q2, hn⟩ := hg
    obtain ⟨us, r1, d1⟩ := inv_sq I q1
    obtain ⟨vs, r2, d2⟩ := inv_sq I q2
    have n1 := r1.length
    have n2 := r2.length
    refine pn_end (I.ok.hd hc) he D hz hI hO c1 c2 d1 d2 ?_ fun h' k => ⟨rfl, I.turnedL (t' := s.toks) (ch := [z, TO, i1, i2]) (fun c o n g => k c o n g) (fun c m => hf c (by simp only [List.mem_cons, List.not_mem_nil, or_false] at m ⊢; rcases m with m | m | m | m <;> simp [m]))⟩
    rcases hn with h | h
    · exact .inl (by simp; omega)
    · exact .inr (by simp; omega)
  self := fun A i s Q E st h => by
    obtain ⟨⟨old, he⟩, _⟩ := st
    exact wpAny_pyIter_enum he h
/-! made of a zip -/
theorem meets_enumZ (z TI TO : Addr) : Meets (Builtin.«enumerate.__new__» ⟨[.type "enumerate", .ref z], []⟩) (fun _ R s => IsZip s.heap z TI TO .none ∧ R (.ok (.ret (.ref s.heap.objs.size))) { s with heap := s.heap.push { cls := .type "enumerate", data := .fields #[.none, .bool false, .ref z, rawInt 0, .none, .none] } }) :=
  .of_wp fun prog w A R s h => by
    obtain ⟨hp, g, d, tk, os⟩ := s
    obtain ⟨hz, h⟩ := h
    have u := sub_enumerate
    have hz : IsZip (Shared.heap ⟨hp, g, d, tk, os⟩) z TI TO .none := hz
    wp_walk using wpAny_pyIter_zip hz
    refine wpAny_stack_any fun st => wpAny_pure ?_
    split
    · rename_i c _ _ _ _ _
      cases (c == Value.type "enumerate") <;> (wp_walk using wpAny_pyIter_zip hz; exact ⟨_, rfl, h⟩)
    · wp_walk using wpAny_pyIter_zip hz
      exact ⟨_, rfl, h⟩
section
variable {prog : Program} {w : World} {A : Around} {E : Value → Shared → Prop} {s : Shared} {b : Bool} {z TI TO a c : Addr} {xs ys : Array Value}
theorem call_enumZ {Q : Value → Shared → Prop} (hz : IsZip s.heap z TI TO .none) (q : ∀ h', IsEnum h' s.heap.objs.size z 0 .none → Kp [] s.heap h' → Q (.ref s.heap.objs.size) { s with heap := h' }) : wpAny (model prog w) A (call (.type "enumerate") [.ref z]) Q E s := by
  refine callType_new F.called_enumerate (by decide) (F.typeCall_enumerate_1 _) (F.newCall_enumerate_1 _) (fun obj => F.args_object_init_2 obj _) F.entry_enumerate_new (meets_enumZ z TI TO) ⟨hz, ?_⟩
  have g : IsEnum (s.heap.push { cls := .type "enumerate", data := .fields #[.none, .bool false, .ref z, rawInt 0, .none, .none] }) s.heap.objs.size z 0 .none := Heap.get?_push_size _ rfl
  exact ⟨⟨_, g, rfl⟩, q _ g .ps⟩
theorem call_zipB {Q : Value → Shared → Prop} (d1 : IsSq b s.heap a xs) (d2 : IsSq b s.heap c ys)
    (q : ∀ h', IsZip h' (s.heap.objs.size + 4) (s.heap.objs.size + 2) (s.heap.objs.size + 3) .none → IsPair h' (s.heap.objs.size + 2) (.ref s.heap.objs.size) (.ref (s.heap.objs.size + 1)) → IsPair h' (s.heap.objs.size + 3) .none .none → IsIt b h' s.heap.objs.size a 0 → IsIt b h' (s.heap.objs.size + 1) c 0 →
      h'.objs.size = s.heap.objs.size + 5 → Kp [] s.heap h' → Q (.ref (s.heap.objs.size + 4)) { s with heap := h' }) : wpAny (model prog w) A (call (.type "zip") [.ref a, .ref c]) Q E s := by
  cases b
  · exact RZ.call_zipT d1 d2 fun h' u1 u2 u3 u4 u5 u6 u7 => q h' u1 u2 u3 u4 u5 u6 fun c o _ e => u7 c o e
  · exact call_zip_2 d1 d2 fun h' u1 u2 u3 u4 u5 u6 u7 => q h' u1 u2 u3 u4 u5 u6 fun c o _ e => u7 c o e
theorem sq_lt (d : IsSq b s.heap a xs) : a < s.heap.objs.size := by
  cases b
  · obtain ⟨o, g, _⟩ := (show s.heap.IsTuple a xs from d)
    exact Heap.lt_size g
  · obtain ⟨o, g, _⟩ := (show s.heap.IsList a xs from d)
    exact Heap.lt_size g
end
def iEz (K : PySem.W.Frag) (ta : TA) : TI := fun σ H R => ta σ H fun vs H1 => ∃ a c b xs ys, vs = [V.ref a, V.ref c] ∧ Sqb b K H1 a xs ∧ Sqb b K H1 c ys ∧ R (Itez b K a c) H1
theorem pi_ez {X : Cx} {e1 e2 : Expr} {ta : TA} {p pz posz pos tpos : Pos} {elts : List Expr} {kk : Nat} (K : PySem.W.Frag) (hK : X.K = K) (hg : Gl X "enumerate") (hm : X.mg "enumerate" = none) (hg2 : Gl X "zip") (hm2 : X.mg "zip" = none) (ha : PA X [e1, e2] ta)
    (hs : starEach [Expr.Call (.Name "zip" pz) [e1, e2] [] posz] X.env = [(false, eval (.Call (.Name "zip" pz) [e1, e2] [] posz) X.env)] := by rfl)
    (hs2 : starEach [e1, e2] X.env = (false, eval e1 X.env) :: starEach [e2] X.env := by rfl) (hpl : (backTo posz (starEach [e2] X.env)).any (·.1) = false := by rfl) :
    PI X (.Tuple elts kk tpos) (.Call (.Name "enumerate" p) [.Call (.Name "zip" pz) [e1, e2] [] posz] [] pos) (iEz K ta) := by
  subst hK
  refine ⟨fun pins s σ H R I h => ?_⟩
  refine Call_ (ld_blt I hg hm boot_enumerate (PyProof.Rows.callWith_type1 ?_ hs rfl))
  rw [hs]
  refine Calls.spliced_cons (Call_ (ld_blt I hg2 hm2 PyProof.Rows.boot_zip (PyProof.Rows.callWith_type1 (thn (ha.run posz pins s σ H _ I h) fun us s1 ⟨vs, H1, I1, r1, q1⟩ => ?_) hs2 hpl)))
  obtain ⟨a, c, b, xs, ys, ev, q1, q2, q⟩ := q1
  subst ev
  cases r1 with
  | cons r rr =>
    cases rr with
    | cons r' rr =>
      cases rr
      cases r
      cases r'
      obtain ⟨us, _, d1⟩ := inv_sq I1 q1
      obtain ⟨vs, _, d2⟩ := inv_sq I1 q2
      refine call_zipB d1 d2 fun h1 gz gI gO t1 t2 sz k1 => Calls.spliced_nil ?_
      refine call_enumZ (s := { s1 with heap := h1 }) gz fun h2 ge k2 => wpAny_pyIter_enum ge ?_
      have I2 : Inv X pins σ H1 { s1 with heap := h2 } := I1.kept (t' := s1.toks) fun b u g => k2 b u (by simp) (k1 b u (by simp) g)
      have nn : ∀ c o, h1.get? c = some o → h2.get? c = some o := fun c o g => k2 c o (by simp) g
      have es : ({ s1 with heap := h1 } : Shared).heap.objs.size = s1.heap.objs.size + 5 := sz
      rw [es] at ge ⊢
      have D := PySem.W.ktu_apart s1.heap.objs.size a c (sq_lt d1) (sq_lt d2)
      refine ⟨s1.heap.objs.size + 5, [s1.heap.objs.size + 5, s1.heap.objs.size + 4, s1.heap.objs.size + 2, s1.heap.objs.size + 3, s1.heap.objs.size, s1.heap.objs.size + 1], _, _, H1, rfl, I2, turn_ez D ⟨by simp, by simp, by simp, by simp⟩ (by simp), ⟨⟨.none, ge⟩, ⟨.none, .bool false, nn _ _ gz, .inl ⟨rfl, rfl⟩⟩, nn _ _ gI, ⟨.none, .none, nn _ _ gO⟩, t1.bt (nn _), t2.bt (nn _)⟩, fun x hx => ?_, q⟩
      have hle : s1.heap.objs.size ≤ x := by
        simp only [List.mem_cons, List.not_mem_nil, or_false] at hx
        rcases hx with z | z | z | z | z | z <;> (rw [z]; first | exact Nat.le_refl _ | exact Nat.le_add_right _ _)
      exact I1.fpOk hle (I1.hok.fresh hle)
end Ls
-- own part: S12
namespace Ls
open PySem PySem.Spec PyProof.Rows L2
/-! ### enumerate(zip(a, b)): walked -/
section
variable {K : PySem.W.Frag} {L : List (As K)} {H : Hp} {a c : Addr} {ds es : List PyData} {σ : L2.St} {t : TA}
theorem k_ez {R : It → Hp → Prop} (h : t σ H fun vs H1 => ∃ a c b xs ys, vs = [V.ref a, V.ref c] ∧ Sqb b K H1 a xs ∧ Sqb b K H1 c ys ∧ R (Itez b K a c) H1) : iEz K t σ H R := h
theorem k_ezI {R : Bool → Addr → Addr → Prop} (h : Sep L H) (m1 : im (.ref a) (.tuple ds) ∈ L) (m2 : im (.ref c) (.tuple es) ∈ L) (q : R false a c) : ∃ a' c' b xs ys, [V.ref a, V.ref c] = [V.ref a', V.ref c'] ∧ Sqb b K H a' xs ∧ Sqb b K H c' ys ∧ R b a' c' := by
  obtain ⟨a', xs, e, h1, _⟩ := im_tup (h.imm m1)
  cases e
  obtain ⟨c', ys, e, h2, _⟩ := im_tup (h.imm m2)
  cases e
  exact ⟨a, c, false, xs, ys, rfl, h1, h2, q⟩
theorem wk_ezI {α β : Type} {zs : List α} {us : List β} {f : α → PyData} {g : β → PyData} {n : Nat} (m1 : im (.ref a) (.tuple (zs.map f)) ∈ L) (m2 : im (.ref c) (.tuple (us.map g)) ∈ L) (l1 : zs.length = n) (l2 : us.length = n) :
    Wk (Itez false K a c) L n fun i q => ∀ z u T, zs[i]? = some z → us[i]? = some u → q (.ref T) [im (.ref T) (.tuple [.int (i : Nat), .tuple [f z, g u]])] where
  go := fun i H hi h => by
    obtain ⟨a', xs, e, h1, k1⟩ := im_tup (h.imm m1)
    cases e
    obtain ⟨c', ys, e, h2, k2⟩ := im_tup (h.imm m2)
    cases e
    have b1 : i < xs.length := by rw [k1.length, List.length_map]; omega
    have b2 : i < ys.length := by rw [k2.length, List.length_map]; omega
    exact ⟨xs, ys, xs[i], ys[i], h1, h2, List.getElem?_eq_getElem b1, List.getElem?_eq_getElem b2⟩
  yl := fun i H x H' R hi h ⟨T, U, v, w, e, nUT, hU, hT, e2, y1, y2⟩ q => by
    subst e e2
    obtain ⟨a', xs, e, h1, k1⟩ := im_tup (h.imm m1)
    cases e
    obtain ⟨c', ys, e, h2, k2⟩ := im_tup (h.imm m2)
    cases e
    obtain ⟨d, hd, hm⟩ := k1.get (y1 xs h1)
    rw [List.getElem?_map] at hd
    obtain ⟨z, hz, rfl⟩ := Option.map_eq_some_iff.mp hd
    obtain ⟨d2, hd2, hm2⟩ := k2.get (y2 ys h2)
    rw [List.getElem?_map] at hd2
    obtain ⟨u, hu, rfl⟩ := Option.map_eq_some_iff.mp hd2
    have hT2 : upd H U (.tup [v, w]) T = none := by rw [upd_ne nUT.symm]; exact hT
    have hS1 : Sep (im (.ref U) (.tuple [f z, g u]) :: L) (upd H U (.tup [v, w])) := Sep.im_iff.mpr ⟨.tup (sqt_of upd_same) (.cons (hm.mono (Tp.new hU)) (.cons (hm2.mono (Tp.new hU)) .nil)), h.same (same_new hU)⟩
    have imU := hS1.imm List.mem_cons_self
    have hS : Sep L (upd H U (.tup [v, w])) := h.same (same_new hU)
    refine q z u T hz hu _ (Sep.im_iff.mpr ⟨?_, hS.same (same_new hT2)⟩)
    exact .tup (sqt_of upd_same) (.cons (.int _) (.cons (imU.mono (Tp.new hT2)) .nil))
  st := fun H h => by
    obtain ⟨a', xs, e, h1, k1⟩ := im_tup (h.imm m1)
    cases e
    obtain ⟨c', ys, e, h2, k2⟩ := im_tup (h.imm m2)
    cases e
    exact ⟨xs, ys, h1, h2, .inl (by rw [k1.length, List.length_map]; omega)⟩
end
end Ls
-- own part: U18
namespace Ls
open PySem PySem.Spec PyProof.Rows L2
/-! ### an item of a dict as a target -/
def rSetK : V → V → V → Hp → (Hp → Prop) → Prop := fun o i v H Q => ∃ a H', o = .ref a ∧ DPut H a i v H' ∧ Q H'
theorem set_dictU {X : Cx} (hu : X.A.units + 1 < cLine) : PSet X rSetK := by
  intro pins s σ H o i v ov iv u Q I ro ri rv h
  obtain ⟨a, H4, rfl, g, q⟩ := h
  cases ro
  exact d_setItem hu I g ri rv fun s4 I4 => ⟨H4, I4, q⟩
end Ls
-- own part: S13
namespace Ls
open PySem PySem.Spec PyProof.Rows L2
/-! ### dicts by written keys -/
section
variable {K : PySem.W.Frag} {L M : List (As K)} {H : Hp} {a : Addr} {kvs kws : List (Key × V)} {k : Str} {v w : V} {xs : List V} {ds es : List PyData} {i : Int} {j : Nat}
theorem k_getD {R : V → Prop} (h : Sep L H) (m : ob a (.dK kvs) ∈ L) (e : valV kvs (.inr k) = some v) (q : R v) : ∃ b w, V.ref a = .ref b ∧ DGet H b (.str k) (some w) ∧ R w := k_getS (h.obm m) e q
theorem k_putD {R : Hp → Prop} (h : Sep L H) (r : Rep L (ob a (.dK kvs)) (ob a (.dK kws)) M) (hl : kvs.length < sizeLine) (e : putK kvs (.inr k) v = kws) (q : ∀ H', Sep M H' → R H') : ∃ b H4, V.ref a = .ref b ∧ DPut H b (.str k) v H4 ∧ R H4 := by
  subst e
  exact ⟨a, _, rfl, DPut.k (k := .inr k) (h.obm r.mem) hl, q _ (h.setR r rfl)⟩
theorem ImAll.put {d : PyData} : ∀ {xs : List V} {ds : List PyData} {j : Nat}, ImAll K H xs ds → Im K H v d → ImAll K H (xs.set j v) (ds.set j d)
  | _, _, _, .nil, _ => .nil
  | _, _, 0, .cons _ b, t => .cons t b
  | _, _, _ + 1, .cons a b, t => .cons a (ImAll.put b t)
theorem ImAll.eraseD : ∀ {xs : List V} {ds : List PyData} {j : Nat}, ImAll K H xs ds → ImAll K H (xs.eraseIdx j) (ds.eraseIdx j)
  | _, _, _, .nil => .nil
  | _, _, 0, .cons _ b => b
  | _, _, _ + 1, .cons a b => .cons a (ImAll.eraseD b)
theorem erase_map {α β : Type} (f : α → β) : ∀ (ns : List α) (j : Nat), (ns.eraseIdx j).map f = (ns.map f).eraseIdx j
  | [], _ => rfl
  | _ :: _, 0 => rfl
  | n :: ns, j + 1 => congrArg (f n :: ·) (erase_map f ns j)
theorem put_new {k : Key} {v : V} {kvs : List (Key × V)} (h : (kvs.any fun kv => decide (kv.1 = k)) = false) : putK kvs k v = kvs ++ [(k, v)] := by
  unfold putK
  rw [h]
  exact if_neg Bool.false_ne_true
theorem put_hit {k : Key} {v : V} {kvs : List (Key × V)} (h : (kvs.any fun kv => decide (kv.1 = k)) = true) : putK kvs k v = kvs.map fun kv => if kv.1 = k then (kv.1, v) else kv := by
  unfold putK
  rw [h]
  exact if_pos rfl
/-- a display's end: the dict that stood empty while its pairs were made -/
theorem Sep.disp {p : Addr} (kvs : List (Key × V)) (h : Sep L H) (r : Rep L (ob p (.dK [])) (ob p (.dK (mergeK [] kvs))) M) : Sep M (upd H p (.dK (mergeK [] kvs))) := h.setR r rfl
theorem k_setK {R : Hp → Prop} (h : Sep L H) (r : Rep L (ob a (.dK kvs)) (ob a (.dK kws)) M) (hl : kvs.length < sizeLine) (e : putK kvs (.inr k) v = kws) (q : ∀ H', Sep M H' → R H') : rSetK (.ref a) (.str k) v H R := k_putD h r hl e q
/-- the first of a list's ints like one goes -/
theorem k_remD {Q : VK} {ns : List Int} {n : Int} (h : Sep L H) (r : Rep L (ld a (ns.map PyData.int)) (ld a ((ns.eraseIdx j).map PyData.int)) M) (e : ns[j]? = some n) (e2 : ∀ m : Nat, m < j → ns[m]? ≠ some n) (q : ∀ H', Sep M H' → Q .non H') : rRemI (.ref a) [.int n] H Q := by
  obtain ⟨xs, h1, h2⟩ := h.ldm r.mem
  have e3 := ims_int h2
  subst e3
  exact ⟨a, ns, n, j, rfl, rfl, h1, e, e2, q _ (h.setDR r (by rw [erase_map V.int, erase_map PyData.int]; exact ImAll.eraseD h2))⟩
/-- an item of a list of data -/
theorem k_setD {R : Hp → Prop} {d : PyData} (h : Sep L H) (r : Rep L (ld a ds) (ld a (ds.set j d)) M) (t : Dat L v d) (e : ixN ds.length i = some j) (q : ∀ H', Sep M H' → R H') : rSetL (.ref a) (.int i) v H R := by
  obtain ⟨xs, h1, h2⟩ := h.ldm r.mem
  exact ⟨a, xs, i, j, rfl, rfl, h1, by rw [h2.length]; exact e, q _ (h.setDR r (h2.put (t.is h)))⟩
end
end Ls
-- own part: U30
namespace LNe
open PySem PySem.W
/-- what a class with __eq__ and no __ne__ is known by -/
def neB (K : Frag) (C : Addr) : Bool := findIn K (.ref C) "__ne__" == some (some (.builtin "object.__ne__")) && subIn K (.ref C) (.type "object") == some true
end LNe
namespace Ls
open PySem PySem.Spec PyProof.Rows L2 C8
/-- what isinstance asks of an own class, by looking -/
def insB (K : PySem.W.Frag) (C : Addr) : Bool := PySem.W.findIn K (.ref C) "__class__" == some (some (.builtin "object.__class__")) && (PySem.W.specialIn K (.builtin "object.__class__") "__get__" == some (some (.builtin "getset_descriptor.__get__")) && (PySem.W.takesIn K (.builtin "object.__class__") == some true && (PySem.W.mroIn K C (.type "object") == some true && PySem.W.kitOne K (.ref C) (.ref C) == some true)))
theorem insB_ok {K : PySem.W.Frag} {C : Addr} (c : Cls K C) (h : insB K C = true) : InsC K C := by
  obtain ⟨h1, h⟩ := Bool.and_eq_true_iff.mp h
  obtain ⟨h2, h⟩ := Bool.and_eq_true_iff.mp h
  obtain ⟨h3, h⟩ := Bool.and_eq_true_iff.mp h
  obtain ⟨h4, h5⟩ := Bool.and_eq_true_iff.mp h
  exact ⟨c, beq_iff_eq.mp h1, beq_iff_eq.mp h2, beq_iff_eq.mp h3, beq_iff_eq.mp h4, beq_iff_eq.mp h5⟩
/-- a default that is the empty tuple -/
def emtB (K : PySem.W.Frag) (a : Addr) : Bool := match K.lookup a with
  | some ⟨.type n, _, .seq its _, _⟩ => n == ("tuple" : String) && its.size == 0
  | _ => false
theorem emtB_ok {K : PySem.W.Frag} {a : Addr} (h : emtB K a = true) (H : Hp) : SqT K H a [] := by
  unfold emtB at h
  split at h
  · rename_i n d its m os e
    obtain ⟨h1, h2⟩ := Bool.and_eq_true_iff.mp h
    have e1 := beq_iff_eq.mp h1
    have e2 : its.size = 0 := beq_iff_eq.mp h2
    refine .inr ⟨_, its, m, e, by rw [e1], rfl, by rw [e2]; exact Nat.zero_le _, ?_⟩
    have : its.toList = [] := by
      have := Array.size_eq_zero_iff.mp e2
      rw [this]
    rw [this]
    exact .nil
  · cases h
end Ls
-- own part: S14
namespace Ls
open PySem PySem.Spec PyProof.Rows L2
/-! ### repr(x) of an own class; f-strings -/
section
variable {X : Cx} {CX : CXT} {n : Nat} {C f : Addr} {fd : FuncData} {ps : List Str} {sp : Sp} {E : XK} {K : PySem.W.Frag}
def rReprC (C : Addr) (sp : Sp) (E : XK) : List V → Hp → VK → Prop := fun xs H Q => ∃ a dx fs, xs = [.ref a] ∧ H a = some (.ins C dx fs) ∧ sp [.ref a] H (fun v H' => ∃ z : Str, v = .str z ∧ Q (.str z) H') E
theorem call_reprC (hm : Meth X.K C "__repr__" f) (F : FnOk X.prog X.w X.K X.mg X.base CX n f fd ps sp) (hr : Room (n + 1) X.A) (hb : L2.Binds X.K fd ps []) (hx : Passes CX X E) : CallR X (.builtin "repr") (rReprC C sp E) := by
  intro pins s σ H xs us Q I r h
  obtain ⟨a, dx, fs, rfl, ha, hsp⟩ := h
  obtain ⟨u, rfl, ru⟩ := vals1 r
  obtain rfl : u = Value.ref a := ru
  obtain ⟨mA, J, _⟩ := ins_get I.hok ha
  obtain ⟨od, J, _⟩ := J.look
  obtain ⟨m, hF⟩ := I.fr
  have sb : L2.Sub X n X.A.in1 := ⟨hr.in1, rfl⟩
  have hun := huOf hr.in1
  refine PySem.W.repr_K (by omega) hF I.ok.mod.kin J hm.at_ hm.fn ?_
  have e0 : Env0 X.prog X.w X.K X.mg X.base X.A.in1 X.stack s H := by
    have e := I.env0
    exact ⟨by rw [sb.fr]; exact e.frames, e.mod, e.bs, e.bsz, e.funs, e.frf, e.hok, e.bare⟩
  have hl := F.len _ _ _ _ hsp
  have r2 : Vals [V.ref a] [Value.ref a] := .cons rfl .nil
  refine wpAny_call (codeAny_mono (F.run X.A.in1 X.stack s H ⟨[.ref a], []⟩ [.ref a] [.ref a] _ E sb.room e0 (by
    have := hb s [.ref a] I.kIn (by simpa using hl)
    simpa using this) r2 hsp) fun r s' hq => ?_)
  cases r with
  | error e => exact hx pins σ H s e s' I hq
  | ok fl =>
    cases fl with
    | ret w =>
      obtain ⟨z, H', I', rz, y, ez, q⟩ := I.after hq
      subst ez
      obtain ⟨t, rfl⟩ := rz
      exact ⟨.str y, H', I', ⟨_, rfl⟩, q⟩
    | next => exact False.elim hq
    | brk => exact False.elim hq
    | cont => exact False.elim hq
end
section
variable {K : PySem.W.Frag} {L : List (As K)} {H : Hp} {Q : VK} {a C : Addr} {sp : Sp} {E : XK} {fs : List (Str × V)} {σ : L2.St} {t te : TE} {ts : List TE} {acc z : Str} {i : Int} {n : Nat}
theorem k_reprC (h : Sep L H) (m : inst a C fs ∈ L) (q : sp [.ref a] H (fun v H' => ∃ z : Str, v = .str z ∧ Q (.str z) H') E) : rReprC C sp E [.ref a] H Q := by
  obtain ⟨dx, hx⟩ := h.insm m
  exact ⟨a, dx, fs, rfl, hx, q⟩
theorem k_js0 {R : Str → Hp → Prop} (q : R acc H) : tJs [] acc σ H R := q
theorem k_js {R : Str → Hp → Prop} (q : t σ H fun x H1 => ∃ y : Str, x = .str y ∧ (acc ++ y).length ≤ sizeLine ∧ tJs ts (acc ++ y) σ H1 R) : tJs (t :: ts) acc σ H R := q
theorem k_jst {R : Str → Prop} (h : (acc ++ z).length ≤ sizeLine) (q : R z) : ∃ y : Str, V.str z = .str y ∧ (acc ++ y).length ≤ sizeLine ∧ R y := ⟨z, rfl, h, q⟩
def rFmt (x : V) (H1 : Hp) (Q : VK) : Prop := (∃ y : Str, x = .str y ∧ y.length ≤ sizeLine ∧ Q (.str y) H1) ∨ ∃ i : Int, x = .int i ∧ i.natAbs.log2 < 1920 ∧ Q (.str (toString i)) H1
theorem k_fmt (h : te σ H fun x H1 => rFmt x H1 Q) : tFmt te σ H Q := h
theorem log_lt {n : Nat} (h : n < 10 ^ 100) : n.log2 < 1920 := by
  by_cases e : n = 0
  · subst e
    decide
  · rw [Nat.log2_lt e]
    exact Nat.lt_of_lt_of_le h (by decide)
theorem k_fmtI (h : i.natAbs < 10 ^ 100) (q : Q (.str (toString i)) H) : rFmt (.int i) H Q := .inr ⟨i, rfl, log_lt h, q⟩
theorem k_fmtS (h : z.length ≤ sizeLine) (q : Q (.str z) H) : rFmt (.str z) H Q := .inl ⟨z, rfl, h, q⟩
theorem num_len {k : Nat} (hk : 0 < k) (h : i.natAbs < 10 ^ k) : (Str.ofString (toString i)).length ≤ k + 1 := by
  have := int_text_length_le10 hk h
  rw [PySem.ofString_length]
  exact this
theorem str_ext {x y : Str} (h : x.cps = y.cps) : x = y := by
  cases x
  cases y
  cases h
  rfl
theorem str_nil (x : Str) : Str.empty ++ x = x := by
  refine str_ext ?_
  rw [Str.cps_append]
  exact Array.empty_append
end
end Ls
-- own part: S15
namespace Ls
open PySem PySem.Spec PyProof.Rows L2 LamX
/-! ### tables of code objects, by what stands -/
section
variable {K : PySem.W.Frag}
/-- the tables of T are one's own; what they tell bears its name -/
def tabsA (T : List (Addr × Str)) : As K := ⟨fun _ s H => (∀ a, s a ↔ ∃ p ∈ T, p.1 = a) ∧ Tabs T H, fun ⟨e, t⟩ k q => ⟨e, fun p hp => by
  obtain ⟨ps, h1, h2, h3⟩ := t p hp
  refine ⟨ps, (k p.1 ((e p.1).mpr ⟨p, hp, rfl⟩)).trans h1, h2, fun pos cv hc => ?_⟩
  obtain ⟨c, e1, e2⟩ := h3 pos cv hc
  exact ⟨c, e1, q.2 _ _ e2⟩⟩, fun ⟨e, t⟩ a z => by
  obtain ⟨p, hp, rfl⟩ := (e a).mp z
  obtain ⟨ps, h1, _⟩ := t p hp
  exact ⟨_, h1, rfl⟩, fun h _ => h⟩
/-- it owns no table -/
class NoTb (A : As K) : Prop where
  no : ∀ {W : Fz} {s : Addr → Prop} {H : Hp}, A.ok W s H → ∀ a, s a → ∀ ps, H a ≠ some (.tbl ps)
variable {A B : As K} {L L' M N : List (As K)} {H H' : Hp} {a p l d c C : Addr} {v x y : V} {e : PyData} {vs xs ys : List V} {ds es : List PyData} {T : List (Addr × Str)}
instance {P : Fz → Hp → Prop} {h k} : NoTb (persW (K := K) P h k) := ⟨fun z a q => (z.1 a q).elim⟩
instance {v d} : NoTb (im (K := K) v d) := ⟨fun z a q => (z.1 a q).elim⟩
instance {v d} : NoTb (ims (K := K) v d) := ⟨fun z a q => (z.1 a q).elim⟩
instance {v d} : NoTb (tu (K := K) v d) := ⟨fun z a q => (z.1 a q).elim⟩
instance {P} : NoTb (pr (K := K) P) := ⟨fun z a q => (z.1 a q).elim⟩
theorem notb_ob {o : HO} (n : ∀ ps, o ≠ .tbl ps) : NoTb (ob (K := K) a o) := ⟨fun ⟨e, h, _⟩ b q ps z => by
  obtain rfl := (e b).mp q
  rw [h] at z
  exact n ps (Option.some.inj z)⟩
instance {xs} : NoTb (ob (K := K) a (.lst xs)) := notb_ob fun ps z => by cases z
instance {kvs} : NoTb (ob (K := K) a (.dK kvs)) := notb_ob fun ps z => by cases z
instance {kvs} : NoTb (ob (K := K) a (.xd kvs)) := notb_ob fun ps z => by cases z
instance {ds} : NoTb (ld (K := K) a ds) := ⟨fun ⟨e, xs, h, _⟩ b q ps z => by
  obtain rfl := (e b).mp q
  rw [h] at z
  cases z⟩
instance {fs} : NoTb (inst (K := K) a C fs) := ⟨fun ⟨dx, e, h1, h2⟩ b q ps z => by
  rcases (e b).mp q with rfl | rfl
  · rw [h1] at z
    cases z
  · rw [h2] at z
    cases z⟩
instance : NoTb (dr (K := K) d) := ⟨fun ⟨c, e, n, r, s, ns, h1, h2, h3⟩ b q ps z => by
  rcases (e b).mp q with rfl | rfl
  · rw [h1] at z
    cases z
  · rw [h2] at z
    cases z⟩
instance {α : Type} {f : α → As K} [h : ∀ x, NoTb (f x)] : NoTb (ex f) := ⟨fun ⟨x, z⟩ => (h x).no z⟩
/-- none of them owns a table -/
class NoTbs (L : List (As K)) : Prop where
  no : ∀ {W : Fz} {s : Addr → Prop} {H : Hp}, Hld W L s H → ∀ a, s a → ∀ ps, H a ≠ some (.tbl ps)
instance : NoTbs ([] : List (As K)) := ⟨fun z a q => (z a q).elim⟩
instance [i : NoTb A] [j : NoTbs L] : NoTbs (A :: L) := ⟨fun ⟨s1, s2, d, u, h1, h2⟩ a z => ((u a).mp z).elim (i.no h1 a) (j.no h2 a)⟩
instance [i : NoTbs L] : NoTb (all L) := ⟨fun z => i.no z⟩
instance {α : Type} {f : V → α → As K} [i : ∀ v z, NoTb (f v z)] {zs : List α} : NoTb (al2 f vs zs) := by
  have : ∀ (vs : List V) (zs : List α), NoTbs (List.zipWith f vs zs) := by
    intro vs
    induction vs with
    | nil => intro zs; exact inferInstanceAs (NoTbs [])
    | cons v vs ih =>
      intro zs
      cases zs with
      | nil => exact inferInstanceAs (NoTbs [])
      | cons z zs =>
        have := ih zs
        exact inferInstanceAs (NoTbs (f v z :: List.zipWith f vs zs))
  have := this vs zs
  exact inferInstanceAs (NoTb (all (pr _ :: List.zipWith f vs zs)))
theorem Sep.tabs (h : Sep (tabsA T :: L) H) : Tabs T H := by
  obtain ⟨W, s, ⟨_, h1⟩, _⟩ := h.the List.mem_cons_self
  exact h1
/-- what is frozen is no table -/
theorem fz_tb {W : Fz} {s : Addr → Prop} (f : FzOk W s H) (a : Addr) (o : HO) (z : W a o) (n : ∀ ps, o ≠ .tbl ps) (e : ExtN H H') : H' a = some o := e _ _ (f a o z).1 n
theorem sqt_extN (e : ExtN H H') : Tp K H H' := fun a xs q => by
  rcases q with (q | ⟨z, q⟩) | q
  · exact .inl (.inl (e _ _ q (fun ps z => by cases z)))
  · exact .inl (.inr ⟨z, e _ _ q (fun ps z => by cases z)⟩)
  · exact .inr q
end
end Ls
namespace Ls
open PySem PySem.Spec PyProof.Rows L2 LamX
section
variable {K : PySem.W.Frag} {L M : List (As K)} {H H' H1 : Hp} {T : List (Addr × Str)} {σ : L2.St} {Q : VK}
/-- a lambda was made: the tables of T have grown, all else stands -/
theorem Sep.tabsN [i : NoTbs L] (h : Sep (tabsA T :: L) H) (e : ExtN H H1) (t : Tabs T H1) : Sep (tabsA T :: L) H1 := by
  obtain ⟨W, s, f, s1, s2, d, u, ⟨e1, t1⟩, h2⟩ := h
  have no := i.no h2
  refine ⟨W, s, fun a o z => ⟨e _ _ (f a o z).1 fun ps q => ?_, (f a o z).2⟩, s1, s2, d, u, ⟨e1, t⟩, h2.st (fun a z => ?_) ⟨sqt_extN e, fun a g z => e _ _ z fun ps q => by cases q⟩⟩
  · have := (f a o z).2.1
    rw [q] at this
    cases this
  · obtain ⟨o, ho, _⟩ := h2.al a z
    rw [ho]
    exact e _ _ ho fun ps q => no a z ps (by rw [ho, q])
theorem k_lamS {TT : (XK → Hp → VK → Prop) → Hp → VK → Prop} {t : XK → TE} [NoTbs M] (h : Sep L H) (r : Rem L (tabsA T) M) (q : ∀ H1, Sep (tabsA T :: M) H1 → TT (fun E H' Q' => t E σ H' Q') H1 Q) : tLam T TT t σ H Q :=
  ⟨(h.rem r).tabs, fun H1 e tb => q H1 ((h.rem r).tabsN e tb)⟩
/-- the law's start: the tables stand empty -/
theorem Sep.tabs0 (h : ∀ p ∈ T, H p.1 = some (.tbl #[])) : Sep [tabsA (K := K) T] H := by
  refine ⟨fun _ _ => False, fun a => ∃ p ∈ T, p.1 = a, fun a o z => z.elim, fun a => ∃ p ∈ T, p.1 = a, fun _ => False, fun a x y => y, fun a => ⟨.inl, fun z => z.elim id False.elim⟩, ⟨fun a => Iff.rfl, fun p hp => ?_⟩, fun a z => z⟩
  exact ⟨#[], h p hp, trivial, fun pos cv e => by cases e⟩
end
end Ls
namespace Ls
open PySem PySem.Spec PyProof.Rows L2 LamX
section
variable {K : PySem.W.Frag} {L M : List (As K)} {H H' H1 : Hp} {σ : L2.St} {d C : Addr} {o : HO} {w : Str} {E : XK}
theorem Sep.newAt (h : Sep L H) (hn : H d = none) (s : Same H H') (hd : H' d = some o) (n : Nt o = true) : Sep (ob d o :: L) H' := by
  obtain ⟨W, q, f, h⟩ := h
  have ne : ∀ b, q b → b ≠ d := fun b z y => by
    obtain ⟨x, hx, _⟩ := h.al b z
    rw [y, hn] at hx
    cases hx
  have nw : ∀ b x, W b x → b ≠ d := fun b x z y => by
    have := (f b x z).1
    rw [y, hn] at this
    cases this
  exact ⟨W, fun b => b = d ∨ q b, fun b x z => ⟨s _ _ (f b x z).1, (f b x z).2.1, fun y => y.elim (nw b x z) (f b x z).2.2⟩, fun b => b = d, q, fun b x y => ne b y x, fun b => Iff.rfl, ⟨fun b => Iff.rfl, hd, n⟩, h.st (fun b z => by
    obtain ⟨x, hx, _⟩ := h.al b z
    rw [s _ _ hx, hx]) (Tq.same s)⟩
/-- raise C(): what is let out -/
theorem raise_lets (T : OexC K C) (no : PySem.W.findIn K (.ref C) "word" = some none) (h : Sep L H) (q : Lets L C w E) : tMkO C (spInit0 K w) [] tNil σ H fun cls d H' => E cls d H' :=
  k_raise T no fun d H2 hn s hd => q d H2 (h.newAt hn s hd rfl)
theorem Lets.sub (q : Lets M C w E) (s : Sub L M) : Lets L C w E := fun d H' h => q d H' (Sub.ok (Sub.cons s) h)
end
end Ls
-- own part: S16
namespace LNe
open PySem PySem.W
/-! ### x != y of an own class that has __eq__ and no __ne__ -/
section
variable {prog : Program} {w : World} {A : Around} {E : Value → Shared → Prop} {s : Shared} {K : Frag} {x y C f : Addr} {ox : Obj} {od : Option Obj} {name : Str} {B : String} {id : String}
theorem ifBound_slot {M : Model} {args : List Value} {Q : Option Value → Shared → Prop} (X : K.In s.heap) (I : InstAt s.heap x ox C od) (hs : findIn K (.ref C) name = some (some (.builtin id))) (S : Slot B name id)
    (h : wpAny M A (call (.builtin id) (.ref x :: args)) (fun v => Q (some v)) E s) : wpAny M A (callSpecialIfBound? (.ref x) name args) Q E s := by
  simp only [callSpecialIfBound?, bindSpecialIfBound?]
  refine wpAny_holding (wpAny_bind (wpAny_bind (wpAny_bind (I.type.here ((looks_findIn X hs).here ?_)))))
  simp only [S.bind]
  refine wpAny_bind (wpAny_askSetting (wpAny_ite ?_))
  have fin : wpAny M A (call (.builtin id) ([.ref x] ++ args) >>= fun v => pure (some v)) Q E s := wpAny_bind (wpAny_mono h (fun v s' h' => wpAny_pure h') fun _ _ h' => h')
  split
  · exact wpAny_bind (wpAny_pure (wpAny_pure fin))
  · exact wpAny_tryCatch (wpAny_bind (wpAny_pure (wpAny_pure fin)))
theorem objNe_K (X : K.In s.heap) (I : InstAt s.heap x ox C od) (hs : findIn K (.ref C) "__eq__" = some (some (.ref f))) (hf : isFn K (.ref f) = true) (hu : A.units < cLine) {Q : Fin → Shared → Prop}
    (hcall : wpAny (model prog w) A (call (.ref f) [.ref x, .ref y]) (fun v s' => ∃ b, v = .bool b ∧ Q (.done (.ret (.bool (!b)))) s') E s) :
    wpAny (model prog w) A (Builtin.«object.__ne__» ⟨[.ref x, .ref y], []⟩) Q E s := by
  unfold Builtin.«object.__ne__»
  obtain ⟨h, g, d, t, os⟩ := s
  repeat (first
    | with_reducible refine wpAny_cRoomFor hu ?_
    | (refine wpAny_bind (m := callSpecialIfBound? (.ref x) (Str.ofString "__eq__") [.ref y])
        (ifBound_K X I hs hf (wpAny_mono hcall (fun r s' hr => by
          obtain ⟨b, rfl, hq⟩ := hr
          repeat (first | exact hq | exact wpAny_pure hq | exact wpAny_truthy_bool hq | (refine wpAny_bind (m := truthy (.bool _)) (wpAny_truthy_bool ?_)) | wp_step)) fun _ _ e => e)))
    | wp_step)
theorem ne_K {L : Addr} {h₀ : Heap} {m : Str → Option Value} {tb : Value} {Q : Value → Shared → Prop} (hu : A.units + 2 < cLine) (F : Fr h₀ L s.heap m) (X₀ : K.In h₀) (I : InstAt s.heap x ox C od) (hb : Looks (model prog w) s.heap (typeOf (.ref y)) tb) (hn : notFirst K C tb = true)
    (hne : neB K C = true) (hs : findIn K (.ref C) "__eq__" = some (some (.ref f))) (hf : isFn K (.ref f) = true)
    (h : wpAny (model prog w) A.in1 (call (.ref f) [.ref x, .ref y]) (fun v s' => ∃ b, v = .bool b ∧ Q (.bool (!b)) s') E s) : wpAny (model prog w) A (richCompare .NotEq (.ref x) (.ref y)) Q E s := by
  have X := X₀.keeps F.keep
  obtain ⟨n1, n2⟩ := Bool.and_eq_true_iff.mp hne
  have one : wpAny (model prog w) A (tryCompare (.ref x) "__ne__" (.ref y)) (fun r s' => ∃ v, r = some v ∧ Q v s') E s := by
    unfold tryCompare
    refine wpAny_bind (ifBound_slot X I (beq_iff_eq.mp n1) PySem.F.cmp_object.ne (wpAny_call (codeAny_call_builtin PySem.F.cmp_object.ne.plain PySem.F.cmpEntry_ne
      (check_slot PySem.F.cmpKind_ne PySem.F.cmpSplit_ne (I.type.andThen (looks_subIn X (beq_iff_eq.mp n2))) (PySem.F.cmpArgs_ne _ _)
        (objNe_K (A := A.in1) X I hs hf (Nat.lt_of_succ_lt hu : A.units + 1 < cLine) (wpAny_mono h (fun v s' hv => ?_) fun _ _ e => e))))))
    obtain ⟨b, rfl, hq⟩ := hv
    first | exact ⟨b, rfl, wpAny_pure ⟨_, rfl, hq⟩⟩ | exact ⟨b, rfl, wpAny_pure (wpAny_pure ⟨_, rfl, hq⟩)⟩
  unfold richCompare
  simp only [oneThing_ref]
  refine wpAny_holding (wpAny_bind (wpAny_cRoomFor (by omega) ?_))
  refine wpAny_bind (I.type.here (wpAny_bind (hb.here ?_)))
  split
  · rename_i q
    have e : subIn K tb (.ref C) = some false := by
      rcases Bool.or_eq_true_iff.mp hn with e | e
      · rw [beq_iff_eq.mp e] at q; simp at q
      · exact beq_iff_eq.mp e
    refine wpAny_bind ((looks_subIn X e).here ?_)
    simp only [Bool.false_eq_true, if_false]
    refine wpAny_bind (wpAny_mono one (fun r s' z => ?_) fun _ _ e => e)
    obtain ⟨v, rfl, hq⟩ := z
    exact wpAny_pure hq
  · refine wpAny_bind (wpAny_pure ?_)
    simp only [Bool.false_eq_true, if_false]
    refine wpAny_bind (wpAny_mono one (fun r s' z => ?_) fun _ _ e => e)
    obtain ⟨v, rfl, hq⟩ := z
    exact wpAny_pure hq
end
end LNe
namespace Ls
open PySem PySem.Spec PyProof.Rows L2
section
variable {X : Cx} {CX : CXT} {n : Nat} {C f : Addr} {fd : FuncData} {ps : List Str} {sp : Sp} {E : XK} {K : PySem.W.Frag}
def rEqC (C : Addr) (sp : Sp) (E : XK) : R2 := fun x y H Q => ∃ a b dx dy fs gs, x = .ref a ∧ y = .ref b ∧ H a = some (.ins C dx fs) ∧ H b = some (.ins C dy gs) ∧ sp [.ref a, .ref b] H (fun v H' => ∃ z : Bool, v = .bl z ∧ Q (.bl z) H') E
def rNeC (C : Addr) (sp : Sp) (E : XK) : R2 := fun x y H Q => ∃ a b dx dy fs gs, x = .ref a ∧ y = .ref b ∧ H a = some (.ins C dx fs) ∧ H b = some (.ins C dy gs) ∧ sp [.ref a, .ref b] H (fun v H' => ∃ z : Bool, v = .bl z ∧ Q (.bl (!z)) H') E
theorem op_eqC (hm : Meth X.K C "__eq__" f) (F : FnOk X.prog X.w X.K X.mg X.base CX n f fd ps sp) (hr : Room n X.A) (hb : L2.Binds X.K fd ps []) (hx : Passes CX X E) : OpR X (compareOp .Eq) (rEqC C sp E) := by
  intro pins s σ H x y v u Q I rx ry h
  obtain ⟨a, b, dx, dy, fs, gs, rfl, rfl, ha, hb', hsp⟩ := h
  cases rx
  cases ry
  obtain ⟨mA, J, _⟩ := ins_get I.hok ha
  obtain ⟨mB, J', _⟩ := ins_get I.hok hb'
  obtain ⟨od, J, _⟩ := J.look
  obtain ⟨od', J', _⟩ := J'.look
  obtain ⟨m, hF⟩ := I.fr
  show wpAny (model X.prog X.w) X.A (richCompare .Eq (.ref a) (.ref b)) (EP X pins σ Q) X.xe s
  refine PySem.W.cmp_K (op := .Eq) (tb := .ref C) hr.units0 hF I.ok.mod.kin J J'.type (by simp [PySem.W.notFirst]) hm.at_ hm.fn ?_
  have e0 : Env0 X.prog X.w X.K X.mg X.base X.A X.stack s H := I.env0
  have hl := F.len _ _ _ _ hsp
  have r2 : Vals [V.ref a, V.ref b] [Value.ref a, Value.ref b] := .cons rfl (.cons rfl .nil)
  refine wpAny_call (codeAny_mono (F.run X.A X.stack s H ⟨[.ref a, .ref b], []⟩ [.ref a, .ref b] [.ref a, .ref b] _ E hr e0 (by
    have := hb s [.ref a, .ref b] I.kIn (by simpa using hl)
    simpa using this) r2 hsp) fun r s' hq => ?_)
  cases r with
  | error e => exact hx pins σ H s e s' I hq
  | ok fl =>
    cases fl with
    | ret w =>
      obtain ⟨z, H', I', rz, ⟨c, ez, q⟩⟩ := I.after hq
      subst ez
      cases rz
      exact ⟨.bl c, H', I', rfl, q⟩
    | next => exact False.elim hq
    | brk => exact False.elim hq
    | cont => exact False.elim hq
theorem op_neC (hne : LNe.neB X.K C = true) (hm : Meth X.K C "__eq__" f) (F : FnOk X.prog X.w X.K X.mg X.base CX n f fd ps sp) (hr : Room (n + 1) X.A) (hb : L2.Binds X.K fd ps []) (hx : Passes CX X E) : OpR X (compareOp .NotEq) (rNeC C sp E) := by
  intro pins s σ H x y v u Q I rx ry h
  obtain ⟨a, b, dx, dy, fs, gs, rfl, rfl, ha, hb', hsp⟩ := h
  cases rx
  cases ry
  obtain ⟨mA, J, _⟩ := ins_get I.hok ha
  obtain ⟨mB, J', _⟩ := ins_get I.hok hb'
  obtain ⟨od, J, _⟩ := J.look
  obtain ⟨od', J', _⟩ := J'.look
  obtain ⟨m, hF⟩ := I.fr
  have sb : L2.Sub X n X.A.in1 := ⟨hr.in1, rfl⟩
  have hun := huOf hr.in1
  have hu2 := huOf hr
  show wpAny (model X.prog X.w) X.A (richCompare .NotEq (.ref a) (.ref b)) (EP X pins σ Q) X.xe s
  refine LNe.ne_K (tb := .ref C) (by omega) hF I.ok.mod.kin J J'.type (by simp [PySem.W.notFirst]) hne hm.at_ hm.fn ?_
  have e0 : Env0 X.prog X.w X.K X.mg X.base X.A.in1 X.stack s H := by
    have e := I.env0
    exact ⟨by rw [sb.fr]; exact e.frames, e.mod, e.bs, e.bsz, e.funs, e.frf, e.hok, e.bare⟩
  have hl := F.len _ _ _ _ hsp
  have r2 : Vals [V.ref a, V.ref b] [Value.ref a, Value.ref b] := .cons rfl (.cons rfl .nil)
  refine wpAny_call (codeAny_mono (F.run X.A.in1 X.stack s H ⟨[.ref a, .ref b], []⟩ [.ref a, .ref b] [.ref a, .ref b] _ E sb.room e0 (by
    have := hb s [.ref a, .ref b] I.kIn (by simpa using hl)
    simpa using this) r2 hsp) fun r s' hq => ?_)
  cases r with
  | error e => exact hx pins σ H s e s' I hq
  | ok fl =>
    cases fl with
    | ret w =>
      obtain ⟨z, H', I', rz, ⟨c, ez, q⟩⟩ := I.after hq
      subst ez
      cases rz
      exact ⟨c, rfl, .bl (!c), H', I', rfl, q⟩
    | next => exact False.elim hq
    | brk => exact False.elim hq
    | cont => exact False.elim hq
end
end Ls
-- own part: S17
namespace Ls
open PySem PySem.Spec PyProof.Rows L2
/-! ### raise C(y): an exception with a field f beside its word -/
def spInitA (K : PySem.W.Frag) (f w : Str) : Sp := fun vs H Q _ => ∃ (a C : Addr) (y : V), vs = [.ref a, y] ∧ OexC K C ∧ PySem.W.findIn K (.ref C) "word" = some none ∧ PySem.W.findIn K (.ref C) f = some none ∧ H a = some (exo a C none) ∧ ∀ dx, H dx = none → dx ≠ a → Q .non (upd (upd (upd H dx (exd dx [("word", .str w)])) a (exo a C (some dx))) dx (exd dx [(f, y), ("word", .str w)]))
section
variable {K : PySem.W.Frag} {L M : List (As K)} {H : Hp} {C : Addr} {f w : Str} {y : V} {E : XK}
theorem k_raiseA {Q : XK} (T : OexC K C) (no : PySem.W.findIn K (.ref C) "word" = some none) (nf : PySem.W.findIn K (.ref C) f = some none) (q : ∀ d H', H d = none → Same H H' → H' d = some (.xd [(f, y), ("word", .str w)]) → Q (.ref C) (some d) H') :
    [y].length ≤ 1000 ∧ ∀ a, H a = none → spInitA K f w (.ref a :: ([y] ++ [])) (upd H a (exo a C none)) (fun v H2 => v = .non ∧ ∃ (d : Addr) (fs : List (Str × V)), H2 a = some (exo a C (some d)) ∧ H2 d = some (exd d fs) ∧ H d = none ∧ Q (.ref C) (some d) (upd (del H2 a) d (.xd fs))) (fun _ _ _ => False) := by
  refine ⟨by show 1 ≤ 1000; decide, fun a ha => ⟨a, C, y, rfl, T, no, nf, upd_same, fun dx hdx na => ⟨rfl, dx, [(f, y), ("word", .str w)], ?_, upd_same, ?_, ?_⟩⟩⟩
  · rw [upd_ne (Ne.symm na)]
    exact upd_same
  · rw [upd_ne na] at hdx
    exact hdx
  · have hd : H dx = none := by
      rw [upd_ne na] at hdx
      exact hdx
    refine q dx _ hd (fun b o hb => ?_) upd_same
    have b1 : b ≠ dx := ne_of_none hb hd
    have b2 : b ≠ a := ne_of_none hb ha
    rw [upd_ne b1, del_ne b2, upd_ne b1, upd_ne b2, upd_ne b1, upd_ne b2]
    exact hb
theorem k_mk {sp : Sp} {ta : TA} {σ : L2.St} {Q : XK} (h : ta σ H fun vs H1 => vs.length ≤ 1000 ∧ ∀ a, H1 a = none → sp (.ref a :: (vs ++ [])) (upd H1 a (exo a C none)) (fun v H2 => v = .non ∧ ∃ (d : Addr) (fs : List (Str × V)), H2 a = some (exo a C (some d)) ∧ H2 d = some (exd d fs) ∧ H1 d = none ∧ Q (.ref C) (some d) (upd (del H2 a) d (.xd fs))) (fun _ _ _ => False)) : tMkO C sp [] ta σ H Q := h
/-- what is let out of a raise C(y) -/
def LetsA (L : List (As K)) (C : Addr) (f w : Str) (y : V) (E : XK) : Prop := ∀ d H', Ls.Sep (ob d (.xd [(f, y), ("word", .str w)]) :: L) H' → E (.ref C) (some d) H'
theorem LetsA.sub (q : LetsA M C f w y E) (s : Sub L M) : LetsA L C f w y E := fun d H' h => q d H' (Sub.ok (Sub.cons s) h)
theorem raise_letsA {i : Int} (T : OexC K C) (no : PySem.W.findIn K (.ref C) "word" = some none) (nf : PySem.W.findIn K (.ref C) f = some none) (h : Sep L H) (q : LetsA L C f w (.int i) E) :
    [V.int i].length ≤ 1000 ∧ ∀ a, H a = none → spInitA K f w (.ref a :: ([V.int i] ++ [])) (upd H a (exo a C none)) (fun v H2 => v = .non ∧ ∃ (d : Addr) (fs : List (Str × V)), H2 a = some (exo a C (some d)) ∧ H2 d = some (exd d fs) ∧ H d = none ∧ E (.ref C) (some d) (upd (del H2 a) d (.xd fs))) (fun _ _ _ => False) :=
  k_raiseA T no nf fun d H2 hn s hd => q d H2 (h.newAt hn s hd rfl)
end
section
variable {K : PySem.W.Frag} {L : List (As K)} {a c : Addr}
/-- enumerate(zip(a, b)) of two tuples of any lengths -/
theorem wk_ezM {α β : Type} {zs : List α} {us : List β} {f : α → PyData} {g : β → PyData} (m1 : im (.ref a) (.tuple (zs.map f)) ∈ L) (m2 : im (.ref c) (.tuple (us.map g)) ∈ L) :
    Wk (Itez false K a c) L (min zs.length us.length) fun i q => ∀ z u T, zs[i]? = some z → us[i]? = some u → q (.ref T) [im (.ref T) (.tuple [.int (i : Nat), .tuple [f z, g u]])] where
  go := fun i H hi h => by
    obtain ⟨a', xs, e, h1, k1⟩ := im_tup (h.imm m1)
    cases e
    obtain ⟨c', ys, e, h2, k2⟩ := im_tup (h.imm m2)
    cases e
    have b1 : i < xs.length := by rw [k1.length, List.length_map]; omega
    have b2 : i < ys.length := by rw [k2.length, List.length_map]; omega
    exact ⟨xs, ys, xs[i], ys[i], h1, h2, List.getElem?_eq_getElem b1, List.getElem?_eq_getElem b2⟩
  yl := fun i H x H' R hi h ⟨T, U, v, w, e, nUT, hU, hT, e2, y1, y2⟩ q => by
    subst e e2
    obtain ⟨a', xs, e, h1, k1⟩ := im_tup (h.imm m1)
    cases e
    obtain ⟨c', ys, e, h2, k2⟩ := im_tup (h.imm m2)
    cases e
    obtain ⟨d, hd, hm⟩ := k1.get (y1 xs h1)
    rw [List.getElem?_map] at hd
    obtain ⟨z, hz, rfl⟩ := Option.map_eq_some_iff.mp hd
    obtain ⟨d2, hd2, hm2⟩ := k2.get (y2 ys h2)
    rw [List.getElem?_map] at hd2
    obtain ⟨u, hu, rfl⟩ := Option.map_eq_some_iff.mp hd2
    have hT2 : upd H U (.tup [v, w]) T = none := by rw [upd_ne nUT.symm]; exact hT
    have hS1 : Sep (im (.ref U) (.tuple [f z, g u]) :: L) (upd H U (.tup [v, w])) := Sep.im_iff.mpr ⟨.tup (sqt_of upd_same) (.cons (hm.mono (Tp.new hU)) (.cons (hm2.mono (Tp.new hU)) .nil)), h.same (same_new hU)⟩
    have imU := hS1.imm List.mem_cons_self
    have hS : Sep L (upd H U (.tup [v, w])) := h.same (same_new hU)
    refine q z u T hz hu _ (Sep.im_iff.mpr ⟨?_, hS.same (same_new hT2)⟩)
    exact .tup (sqt_of upd_same) (.cons (.int _) (.cons (imU.mono (Tp.new hT2)) .nil))
  st := fun H h => by
    obtain ⟨a', xs, e, h1, k1⟩ := im_tup (h.imm m1)
    cases e
    obtain ⟨c', ys, e, h2, k2⟩ := im_tup (h.imm m2)
    cases e
    refine ⟨xs, ys, h1, h2, ?_⟩
    rw [k1.length, k2.length, List.length_map, List.length_map]
    omega
end
end Ls
-- own part: S18
namespace Ls
open PySem PySem.Spec PyProof.Rows L2
section
variable {K : PySem.W.Frag} {L M : List (As K)} {H : Hp} {a : Addr} {y : V} {d e : PyData} {ds : List PyData} {Q : VK} {i : Int} {j : Nat}
def rInsU : V → List V → Hp → VK → Prop := fun x vs H Q => ∃ (l : Addr) (xs : List V) (i : Int) (y : V), x = .ref l ∧ vs = [.int i, y] ∧ H l = some (.lst xs) ∧ xs.length < sizeLine ∧ 0 ≤ i ∧ i < 2 ^ 63 ∧
    Q .non (upd H l (.lst (xs.take i.toNat ++ [y] ++ xs.drop i.toNat)))
theorem mt_insU {X : Cx} : MtR X "list.insert" rInsU := mt_insert
/-- xs.insert(i, y) -/
theorem k_insD (h : Sep L H) (r : Rep L (ld a ds) (ld a (ds.take i.toNat ++ [d] ++ ds.drop i.toNat)) M) (t : Dat L y d) (h0 : 0 ≤ i) (hi : i < 2 ^ 63) (hl : ds.length < sizeLine) (q : ∀ H', Sep M H' → Q .non H') :
    rInsU (.ref a) [.int i, y] H Q := by
  obtain ⟨xs, h1, h2⟩ := h.ldm r.mem
  exact ⟨a, xs, i, y, rfl, rfl, h1, by rw [h2.length]; exact hl, h0, hi, q _ (h.setDR r (((ImAll.take _ h2).app (.cons (t.is h) .nil)).app (ImAll.drop _ h2)))⟩
/-- xs.pop(i), what comes out left aside -/
theorem k_popAtD (h : Sep L H) (r : Rep L (ld a ds) (ld a (ds.eraseIdx j)) M) (e : ds[j]? = some d) (hb : j < 1000000) (q : ∀ v H', Sep M H' → Q v H') : rPopAt (.ref a) [.int (j : Nat)] H Q := by
  obtain ⟨xs, h1, h2⟩ := h.ldm r.mem
  obtain ⟨v, hv, _⟩ := h2.getD e
  have hi := (List.getElem?_eq_some_iff.mp hv).1
  refine ⟨a, xs, (j : Nat), j, v, rfl, rfl, h1, by omega, by omega, ?_, hv, q _ _ (h.setDR r (ImAll.eraseD h2))⟩
  have := (ixN_seq (n := xs.length) (i := (j : Int)) (j := j) ?_).1
  · exact this
  · unfold ixN
    rw [if_pos (by omega), if_pos (by omega)]
    rfl
/-- list(t) of a tuple of data -/
theorem k_listI (h : Sep L H) (m : im (.ref a) (.tuple ds) ∈ L) (q : ∀ p H', Sep (ld p ds :: L) H' → Q (.ref p) H') : rListU K [.ref a] H Q := by
  obtain ⟨a', xs, e', h1, h2⟩ := im_tup (h.imm m)
  cases e'
  refine ⟨a, xs, rfl, .inr h1, fun p hp => q p _ ?_⟩
  have z := (h.newD (p := p) (xs := []) (ds := []) hp .nil).setD (xs := xs) (es := ds) (h2.mono (Tp.new hp))
  have e : upd (upd H p (.lst [])) p (.lst xs) = upd H p (.lst xs) := by
    funext b
    by_cases hb : b = p
    · rw [hb, upd_same, upd_same]
    · rw [upd_ne hb, upd_ne hb, upd_ne hb]
  rw [e] at z
  exact z
/-! x == y, x != y of two instances of an own class -/
theorem k_eqC {C b : Addr} {fs gs : List (Str × V)} {sp : Sp} {E : XK} {dx dy : Addr} (h1 : H a = some (.ins C dx fs)) (h2 : H b = some (.ins C dy gs)) (q : sp [.ref a, .ref b] H (fun v H' => ∃ z : Bool, v = .bl z ∧ Q (.bl z) H') E) : rEqC C sp E (.ref a) (.ref b) H Q := ⟨a, b, dx, dy, fs, gs, rfl, rfl, h1, h2, q⟩
theorem k_neC {C b : Addr} {fs gs : List (Str × V)} {sp : Sp} {E : XK} {dx dy : Addr} (h1 : H a = some (.ins C dx fs)) (h2 : H b = some (.ins C dy gs)) (q : sp [.ref a, .ref b] H (fun v H' => ∃ z : Bool, v = .bl z ∧ Q (.bl (!z)) H') E) : rNeC C sp E (.ref a) (.ref b) H Q := ⟨a, b, dx, dy, fs, gs, rfl, rfl, h1, h2, q⟩
end
theorem use_sameD {K : PySem.W.Frag} {L : List (As K)} {H : Hp} {x y : V} {d : PyData} {n : Nat} {Q : VK} {E : XK} (h : Ls.Sep L H) (a : Dl L x d) (b : Dl L y d) (o : OkD n d) (q : ∀ H', Ls.Sep L H' → Q (.bl true) H') : spSame K n [x, y] H Q E := ⟨x, y, d, rfl, a.is h, b.is h, o, fun H' s => q H' (h.same s)⟩
end Ls
-- own part: S19
namespace Ls
open PySem PySem.Spec PyProof.Rows L2
section
variable {K : PySem.W.Frag} {L M : List (As K)} {H : Hp} {a l : Addr} {ds es : List PyData} {Q : VK}
/-- the sum of two tuples of data, none of them empty -/
theorem k_addII (h : Sep L H) (m : im (.ref a) (.tuple ds) ∈ L) (m2 : im (.ref l) (.tuple es) ∈ L) (hl : ds.length + es.length ≤ sizeLine) (hx : ds ≠ []) (hd : es ≠ []) (q : ∀ p H', Sep (im (.ref p) (.tuple (ds ++ es)) :: L) H' → Q (.ref p) H') : rAddU K (.ref a) (.ref l) H Q := by
  obtain ⟨a', xs, e, h1, k1⟩ := im_tup (h.imm m)
  cases e
  obtain ⟨a', ys, e, h2, k2⟩ := im_tup (h.imm m2)
  cases e
  refine k_addT h1 h2 (by rw [k1.length, k2.length]; exact hl) (fun e => ?_) (fun _ e => ?_) fun p hp => q p _ (Sep.im_iff.mpr ⟨.tup (sqt_of upd_same) ((k1.app k2).mono (Tp.new hp)), h.same (same_new hp)⟩)
  · subst e
    cases k1
    exact (hx rfl).elim
  · subst e
    cases k2
    exact (hd rfl).elim
theorem k_slStr {z : Str} {lo hi : Option Int} (hz : z.length ≤ sizeLine) (q : Q (.str (cutS z lo hi)) H) : rSlU K (.str z) lo hi H Q := .inr (.inr ⟨z, rfl, hz, q⟩)
end
end Ls
-- own part: S20
namespace Ls
open PySem PySem.Spec PyProof.Rows L2
section
variable {X : Cx} {n : Nat} {t : TGs} {e : Expr}
theorem kGLst (K : PySem.W.Frag) (hK : X.K = K) (h : PG X e (gLst X.K n t)) : PG X e (gLst K n t) := hK ▸ h
end
section
variable {K : PySem.W.Frag} {L M : List (As K)} {H : Hp} {a l : Addr} {xs : List V} {ds es : List PyData} {σ : L2.St} {Q : VK}
theorem k_glst {n : Nat} {tg : TGs} {R : L2.St → Hp → Prop} (h : Sep L H) (m : ob a (.lst xs) ∈ L) (hn : xs.length = n) (q : tg xs σ H R) : gLst K n tg (.ref a) σ H R := ⟨a, xs, rfl, sql_of (h.obm m), hn, q⟩
end
end Ls
-- own part: S21
namespace Ls
open PySem PySem.Spec PyProof.Rows L2
section
variable {K : PySem.W.Frag} {L M : List (As K)} {H : Hp} {a l : Addr} {xs : List V} {ds es : List PyData} {d : PyData} {σ : L2.St} {Q : VK} {i : Int}
/-- a list of data that never changes once made -/
def fzl (a : Addr) (ds : List PyData) : As K := persW (fun W H => ∃ xs, W a (.lst xs) ∧ ImAll K H xs ds) (fun _ _ _ t ⟨xs, h1, h2⟩ => ⟨xs, h1, h2.mono t.1⟩) fun _ _ _ e ⟨xs, h1, h2⟩ => ⟨xs, e _ _ h1, h2⟩
instance : Dup (fzl (K := K) a ds) := ⟨fun z => z.1⟩
theorem Sep.fzl (h : Sep L H) (m : Ls.fzl a ds ∈ L) : ∃ xs, H a = some (.lst xs) ∧ ImAll K H xs ds := by
  obtain ⟨W, s, ⟨_, xs, h1, h2⟩, z⟩ := h.the m
  exact ⟨xs, (z _ _ h1).1, h2⟩
theorem Sep.freezeD (h : Sep (ld a ds :: L) H) : Sep (Ls.fzl a ds :: L) H := by
  obtain ⟨W, s, f, s1, s2, d, u, ⟨e, xs, h1, hi⟩, h2⟩ := h
  refine ⟨fun b x => W b x ∨ (b = a ∧ x = .lst xs), s2, fun b x z => ?_, fun _ => False, s2, fun _ z => z.elim, fun b => ⟨.inr, fun z => z.elim False.elim id⟩, ⟨fun _ z => z, xs, .inr ⟨rfl, rfl⟩, hi⟩, h2.mo fun b x z => .inl z⟩
  rcases z with z | ⟨rfl, rfl⟩
  · exact ⟨(f b x z).1, (f b x z).2.1, fun y => (f b x z).2.2 ((u b).mpr (.inr y))⟩
  · exact ⟨h1, rfl, fun y => d b ((e b).mpr rfl) y⟩
theorem k_ixF (h : Sep L H) (m : fzl a ds ∈ L) (e : atI ds i = some d) (q : Gv (K := K) d fun v M => Sep (M ++ L) H → Q v H) : rIx K (.ref a) (.int i) H Q := by
  obtain ⟨xs, h1, h2⟩ := h.fzl m
  obtain ⟨v, hv, hd⟩ := atI_all h2 e
  exact k_ixL (sql_of h1) hv (Gv.go hd h q)
theorem k_glstF {n : Nat} {tg : TGs} {R : L2.St → Hp → Prop} (h : Sep L H) (m : fzl a ds ∈ L) (hn : ds.length = n) (q : GvAll (K := K) ds fun vs M => Sep (M ++ L) H → tg vs σ H R) : gLst K n tg (.ref a) σ H R := by
  obtain ⟨xs, h1, h2⟩ := h.fzl m
  obtain ⟨M, h3, h4⟩ := q.go h2 h
  exact ⟨a, xs, rfl, sql_of h1, h2.length.trans hn, h3 h4⟩
/-! lists of ints and Nones -/
def oD : Option Int → PyData
  | none => .none
  | some i => .int i
def oV : Option Int → V
  | none => .non
  | some i => .int i
theorem ims_oi : ∀ {os : List (Option Int)} {xs : List V}, ImAll K H xs (os.map oD) → xs = os.map oV
  | [], _, h => by cases h; rfl
  | o :: os, _, h => by
    cases h with
    | cons a r =>
      rw [ims_oi r]
      cases o with
      | none => cases im_non a; rfl
      | some i => cases im_int a; rfl
theorem flat_oi (os : List (Option Int)) : (os.map oV).all flatV = true := by
  rw [List.all_eq_true]
  intro v hv
  obtain ⟨o, _, rfl⟩ := List.mem_map.mp hv
  cases o <;> rfl
theorem eq_oi (o : Option Int) : eqV (oV o) .non = o.isNone := by cases o <;> rfl
theorem k_inN {os : List (Option Int)} (h : Sep L H) (m : ld a (os.map oD) ∈ L) (q : Q (.bl (os.any Option.isNone)) H) : rInU K .non (.ref a) H Q := by
  obtain ⟨xs, h1, h2⟩ := h.ldm m
  cases ims_oi h2
  refine .inl ⟨a, _, rfl, .inl (sql_of h1), rfl, flat_oi os, ?_⟩
  rw [if_neg (by decide)]
  have e : inV .non (os.map oV) = os.any Option.isNone := by
    unfold inV
    rw [List.any_map]
    congr 1
    funext o
    exact eq_oi o
  rw [e]
  exact q
theorem k_indexN {ns : List Int} {R : List (Option Int)} (h : Sep L H) (m : ld a ((ns.map some ++ none :: R).map oD) ∈ L) (q : Q (.int ns.length) H) : rIndex K (.ref a) [.non] H Q := by
  obtain ⟨xs, h1, h2⟩ := h.ldm m
  cases ims_oi h2
  refine ⟨a, _, .non, ns.length, .non, rfl, rfl, sql_of h1, rfl, flat_oi _, ?_, rfl, fun j z hj hz => ?_, q⟩
  · rw [List.getElem?_map, List.getElem?_append_right (by rw [List.length_map]; exact Nat.le_refl _), List.length_map, Nat.sub_self]
    rfl
  · rw [List.getElem?_map, List.getElem?_append_left (by rw [List.length_map]; exact hj), List.getElem?_map] at hz
    cases e : ns[j]? with
    | none => rw [e] at hz; cases hz
    | some n =>
      rw [e] at hz
      cases hz
      rfl
end
end Ls
-- own part: S22
namespace Ls
open PySem PySem.Spec PyProof.Rows L2
section
variable {X : Cx} {e : Expr} {te : TE}
theorem kRevL (K : PySem.W.Frag) (hK : X.K = K) (h : PE X e (tRevL X.K te)) : PE X e (tRevL K te) := hK ▸ h
end
section
variable {K : PySem.W.Frag} {L M : List (As K)} {H : Hp} {a l : Addr} {ds : List PyData} {Q : VK}
theorem ImAll.rev {H : Hp} : ∀ {xs : List V} {ds : List PyData}, ImAll K H xs ds → ImAll K H xs.reverse ds.reverse
  | _, _, .nil => .nil
  | _, _, .cons a r => by
    rw [List.reverse_cons, List.reverse_cons]
    exact (ImAll.rev r).app (.cons a .nil)
end
end Ls
-- own part: env
namespace Lw
open PySem PySem.Spec PyProof.Rows L2 Ls
structure Env (K : PySem.W.Frag) (mg : Str → Option Value) where
  C_Lane : Addr
  g_Lane : mg "Lane" = some (.ref C_Lane)
  cl_Lane : Cls K C_Lane
  na_Lane_most : NoAttr K C_Lane "most"
  na_Lane_room : NoAttr K C_Lane "room"
  na_Lane_over : NoAttr K C_Lane "over"
  na_Lane_book : NoAttr K C_Lane "book"
  na_Lane_pile : NoAttr K C_Lane "pile"
  na_Lane_latest : NoAttr K C_Lane "latest"
  na_Lane_coming : NoAttr K C_Lane "coming"
  na_Lane_last_ticket : NoAttr K C_Lane "last_ticket"
  na_Lane_given : NoAttr K C_Lane "given"
  na_Lane_back_thrown : NoAttr K C_Lane "back_thrown"
  na_Lane_gone : NoAttr K C_Lane "gone"
  na_Lane_missed : NoAttr K C_Lane "missed"
  C_Kind : Addr
  g_Kind : mg "Kind" = some (.ref C_Kind)
  cl_Kind : Cls K C_Kind
  na_Kind_name : NoAttr K C_Kind "name"
  na_Kind_fields : NoAttr K C_Kind "fields"
  C_Page : Addr
  g_Page : mg "Page" = some (.ref C_Page)
  cl_Page : Cls K C_Page
  na_Page_ahead : NoAttr K C_Page "ahead"
  na_Page_claims : NoAttr K C_Page "claims"
  na_Page_held : NoAttr K C_Page "held"
  a_law : Addr
  fd_law : FuncData
  F_law : FunD K "law" "law" (defArgs s_law) (defBody s_law) (defScope s_law) [] [] a_law fd_law
  g_law : mg "law" = some (.ref a_law)
  a__law_begin : Addr
  fd__law_begin : FuncData
  F__law_begin : FunD K "_law_begin" "_law_begin" (defArgs s__law_begin) (defBody s__law_begin) (defScope s__law_begin) [] [] a__law_begin fd__law_begin
  g__law_begin : mg "_law_begin" = some (.ref a__law_begin)
  a__law_kinds_for : Addr
  fd__law_kinds_for : FuncData
  F__law_kinds_for : FunD K "_law_kinds_for" "_law_kinds_for" (defArgs s__law_kinds_for) (defBody s__law_kinds_for) (defScope s__law_kinds_for) [] [] a__law_kinds_for fd__law_kinds_for
  g__law_kinds_for : mg "_law_kinds_for" = some (.ref a__law_kinds_for)
  a_Lane___init__ : Addr
  fd_Lane___init__ : FuncData
  F_Lane___init__ : FunD K "__init__" "Lane.__init__" (defArgs s_Lane___init__) (defBody s_Lane___init__) (defScope s_Lane___init__) [] [("pages", .int 4), ("room", .int 8), ("over", .bl true)] a_Lane___init__ fd_Lane___init__
  mk_Lane : Mk K C_Lane a_Lane___init__
  a__law_emptied : Addr
  fd__law_emptied : FuncData
  F__law_emptied : FunD K "_law_emptied" "_law_emptied" (defArgs s__law_emptied) (defBody s__law_emptied) (defScope s__law_emptied) [] [] a__law_emptied fd__law_emptied
  g__law_emptied : mg "_law_emptied" = some (.ref a__law_emptied)
  a__law_pick : Addr
  fd__law_pick : FuncData
  F__law_pick : FunD K "_law_pick" "_law_pick" (defArgs s__law_pick) (defBody s__law_pick) (defScope s__law_pick) [] [] a__law_pick fd__law_pick
  g__law_pick : mg "_law_pick" = some (.ref a__law_pick)
  a_Lane_give : Addr
  fd_Lane_give : FuncData
  F_Lane_give : FunD K "give" "Lane.give" (defArgs s_Lane_give) (defBody s_Lane_give) (defScope s_Lane_give) [] [] a_Lane_give fd_Lane_give
  m_Lane_give : Meth K C_Lane "give" a_Lane_give
  a_Lane_claim : Addr
  fd_Lane_claim : FuncData
  F_Lane_claim : FunD K "claim" "Lane.claim" (defArgs s_Lane_claim) (defBody s_Lane_claim) (defScope s_Lane_claim) [] [] a_Lane_claim fd_Lane_claim
  m_Lane_claim : Meth K C_Lane "claim" a_Lane_claim
  do_Kind___init___0 : Addr
  a_Kind___init__ : Addr
  fd_Kind___init__ : FuncData
  F_Kind___init__ : FunD K "__init__" "Kind.__init__" (defArgs s_Kind___init__) (defBody s_Kind___init__) (defScope s_Kind___init__) [.ref do_Kind___init___0] [] a_Kind___init__ fd_Kind___init__
  mk_Kind : Mk K C_Kind a_Kind___init__
  a_Lane_throw : Addr
  fd_Lane_throw : FuncData
  F_Lane_throw : FunD K "throw" "Lane.throw" (defArgs s_Lane_throw) (defBody s_Lane_throw) (defScope s_Lane_throw) [] [] a_Lane_throw fd_Lane_throw
  m_Lane_throw : Meth K C_Lane "throw" a_Lane_throw
  a__law_told_next : Addr
  fd__law_told_next : FuncData
  F__law_told_next : FunD K "_law_told_next" "_law_told_next" (defArgs s__law_told_next) (defBody s__law_told_next) (defScope s__law_told_next) [] [] a__law_told_next fd__law_told_next
  g__law_told_next : mg "_law_told_next" = some (.ref a__law_told_next)
  a_Lane_take : Addr
  fd_Lane_take : FuncData
  F_Lane_take : FunD K "take" "Lane.take" (defArgs s_Lane_take) (defBody s_Lane_take) (defScope s_Lane_take) [] [] a_Lane_take fd_Lane_take
  m_Lane_take : Meth K C_Lane "take" a_Lane_take
  a_Lane___len__ : Addr
  fd_Lane___len__ : FuncData
  F_Lane___len__ : FunD K "__len__" "Lane.__len__" (defArgs s_Lane___len__) (defBody s_Lane___len__) (defScope s_Lane___len__) [] [] a_Lane___len__ fd_Lane___len__
  m_Lane___len__ : Meth K C_Lane "__len__" a_Lane___len__
  a__law_of : Addr
  fd__law_of : FuncData
  F__law_of : FunD K "_law_of" "_law_of" (defArgs s__law_of) (defBody s__law_of) (defScope s__law_of) [] [] a__law_of fd__law_of
  g__law_of : mg "_law_of" = some (.ref a__law_of)
  a__law_fields : Addr
  fd__law_fields : FuncData
  F__law_fields : FunD K "_law_fields" "_law_fields" (defArgs s__law_fields) (defBody s__law_fields) (defScope s__law_fields) [] [] a__law_fields fd__law_fields
  g__law_fields : mg "_law_fields" = some (.ref a__law_fields)
  a__law_words : Addr
  fd__law_words : FuncData
  F__law_words : FunD K "_law_words" "_law_words" (defArgs s__law_words) (defBody s__law_words) (defScope s__law_words) [] [] a__law_words fd__law_words
  g__law_words : mg "_law_words" = some (.ref a__law_words)
  a_look_pages : Addr
  fd_look_pages : FuncData
  F_look_pages : FunD K "look_pages" "look_pages" (defArgs s_look_pages) (defBody s_look_pages) (defScope s_look_pages) [] [] a_look_pages fd_look_pages
  g_look_pages : mg "look_pages" = some (.ref a_look_pages)
  a_Page___init__ : Addr
  fd_Page___init__ : FuncData
  F_Page___init__ : FunD K "__init__" "Page.__init__" (defArgs s_Page___init__) (defBody s_Page___init__) (defScope s_Page___init__) [] [] a_Page___init__ fd_Page___init__
  mk_Page : Mk K C_Page a_Page___init__
  a_Lane_counts : Addr
  fd_Lane_counts : FuncData
  F_Lane_counts : FunD K "counts" "Lane.counts" (defArgs s_Lane_counts) (defBody s_Lane_counts) (defScope s_Lane_counts) [] [] a_Lane_counts fd_Lane_counts
  m_Lane_counts : Meth K C_Lane "counts" a_Lane_counts
  a__law_same : Addr
  fd__law_same : FuncData
  F__law_same : FunD K "_law_same" "_law_same" (defArgs s__law_same) (defBody s__law_same) (defScope s__law_same) [] [] a__law_same fd__law_same
  g__law_same : mg "_law_same" = some (.ref a__law_same)
  a_Lane_look : Addr
  fd_Lane_look : FuncData
  F_Lane_look : FunD K "look" "Lane.look" (defArgs s_Lane_look) (defBody s_Lane_look) (defScope s_Lane_look) [] [] a_Lane_look fd_Lane_look
  m_Lane_look : Meth K C_Lane "look" a_Lane_look
  a_Lane_pending : Addr
  fd_Lane_pending : FuncData
  F_Lane_pending : FunD K "pending" "Lane.pending" (defArgs s_Lane_pending) (defBody s_Lane_pending) (defScope s_Lane_pending) [] [] a_Lane_pending fd_Lane_pending
  m_Lane_pending : Meth K C_Lane "pending" a_Lane_pending
  a_Lane_close : Addr
  fd_Lane_close : FuncData
  F_Lane_close : FunD K "close" "Lane.close" (defArgs s_Lane_close) (defBody s_Lane_close) (defScope s_Lane_close) [] [] a_Lane_close fd_Lane_close
  m_Lane_close : Meth K C_Lane "close" a_Lane_close
  a_Lane_turn_page : Addr
  fd_Lane_turn_page : FuncData
  F_Lane_turn_page : FunD K "turn_page" "Lane.turn_page" (defArgs s_Lane_turn_page) (defBody s_Lane_turn_page) (defScope s_Lane_turn_page) [] [] a_Lane_turn_page fd_Lane_turn_page
  m_Lane_turn_page : Meth K C_Lane "turn_page" a_Lane_turn_page
  a_Kind_lowest : Addr
  fd_Kind_lowest : FuncData
  F_Kind_lowest : FunD K "lowest" "Kind.lowest" (defArgs s_Kind_lowest) (defBody s_Kind_lowest) (defScope s_Kind_lowest) [] [] a_Kind_lowest fd_Kind_lowest
  m_Kind_lowest : Meth K C_Kind "lowest" a_Kind_lowest
  a_Page_used : Addr
  fd_Page_used : FuncData
  F_Page_used : FunD K "used" "Page.used" (defArgs s_Page_used) (defBody s_Page_used) (defScope s_Page_used) [] [] a_Page_used fd_Page_used
  m_Page_used : Meth K C_Page "used" a_Page_used
  a_Kind_cells : Addr
  fd_Kind_cells : FuncData
  F_Kind_cells : FunD K "cells" "Kind.cells" (defArgs s_Kind_cells) (defBody s_Kind_cells) (defScope s_Kind_cells) [] [] a_Kind_cells fd_Kind_cells
  m_Kind_cells : Meth K C_Kind "cells" a_Kind_cells
  a_is_name : Addr
  fd_is_name : FuncData
  F_is_name : FunD K "is_name" "is_name" (defArgs s_is_name) (defBody s_is_name) (defScope s_is_name) [] [] a_is_name fd_is_name
  g_is_name : mg "is_name" = some (.ref a_is_name)
  a_look_field : Addr
  fd_look_field : FuncData
  F_look_field : FunD K "look_field" "look_field" (defArgs s_look_field) (defBody s_look_field) (defScope s_look_field) [] [] a_look_field fd_look_field
  g_look_field : mg "look_field" = some (.ref a_look_field)
  a_told_event : Addr
  fd_told_event : FuncData
  F_told_event : FunD K "told_event" "told_event" (defArgs s_told_event) (defBody s_told_event) (defScope s_told_event) [] [] a_told_event fd_told_event
  g_told_event : mg "told_event" = some (.ref a_told_event)
  a_Lane_leave : Addr
  fd_Lane_leave : FuncData
  F_Lane_leave : FunD K "leave" "Lane.leave" (defArgs s_Lane_leave) (defBody s_Lane_leave) (defScope s_Lane_leave) [] [] a_Lane_leave fd_Lane_leave
  m_Lane_leave : Meth K C_Lane "leave" a_Lane_leave
  a_Lane_seen : Addr
  fd_Lane_seen : FuncData
  F_Lane_seen : FunD K "seen" "Lane.seen" (defArgs s_Lane_seen) (defBody s_Lane_seen) (defScope s_Lane_seen) [] [] a_Lane_seen fd_Lane_seen
  m_Lane_seen : Meth K C_Lane "seen" a_Lane_seen
  a__law_bound : Addr
  fd__law_bound : FuncData
  F__law_bound : FunD K "_law_bound" "_law_bound" (defArgs s__law_bound) (defBody s__law_bound) (defScope s__law_bound) [] [] a__law_bound fd__law_bound
  g__law_bound : mg "_law_bound" = some (.ref a__law_bound)
  a__law_word : Addr
  fd__law_word : FuncData
  F__law_word : FunD K "_law_word" "_law_word" (defArgs s__law_word) (defBody s__law_word) (defScope s__law_word) [] [] a__law_word fd__law_word
  g__law_word : mg "_law_word" = some (.ref a__law_word)
  a_told_from : Addr
  fd_told_from : FuncData
  F_told_from : FunD K "told_from" "told_from" (defArgs s_told_from) (defBody s_told_from) (defScope s_told_from) [] [] a_told_from fd_told_from
  g_told_from : mg "told_from" = some (.ref a_told_from)
  a_Lane_found : Addr
  fd_Lane_found : FuncData
  F_Lane_found : FunD K "found" "Lane.found" (defArgs s_Lane_found) (defBody s_Lane_found) (defScope s_Lane_found) [] [] a_Lane_found fd_Lane_found
  m_Lane_found : Meth K C_Lane "found" a_Lane_found
  a_Lane_free_pages : Addr
  fd_Lane_free_pages : FuncData
  F_Lane_free_pages : FunD K "free_pages" "Lane.free_pages" (defArgs s_Lane_free_pages) (defBody s_Lane_free_pages) (defScope s_Lane_free_pages) [] [] a_Lane_free_pages fd_Lane_free_pages
  m_Lane_free_pages : Meth K C_Lane "free_pages" a_Lane_free_pages
  a_Page_waits : Addr
  fd_Page_waits : FuncData
  F_Page_waits : FunD K "waits" "Page.waits" (defArgs s_Page_waits) (defBody s_Page_waits) (defScope s_Page_waits) [] [] a_Page_waits fd_Page_waits
  m_Page_waits : Meth K C_Page "waits" a_Page_waits
  a_Page_events : Addr
  fd_Page_events : FuncData
  F_Page_events : FunD K "events" "Page.events" (defArgs s_Page_events) (defBody s_Page_events) (defScope s_Page_events) [] [] a_Page_events fd_Page_events
  m_Page_events : Meth K C_Page "events" a_Page_events
  n_range : mg "range" = none
  n_int : mg "int" = none
  n_list : mg "list" = none
  n_len : mg "len" = none
  n_enumerate : mg "enumerate" = none
  n_tuple : mg "tuple" = none
  n_min : mg "min" = none
  n_isinstance : mg "isinstance" = none
  n_bool : mg "bool" = none
  n_str : mg "str" = none
  n_all : mg "all" = none
  n_sum : mg "sum" = none
  n_any : mg "any" = none
  c_PAGES : ∃ u, mg "PAGES" = some u ∧ RelV (.int 4) u
  c_ROOM : ∃ u, mg "ROOM" = some u ∧ RelV (.int 8) u
  c_LEAST_ROOM : ∃ u, mg "LEAST_ROOM" = some u ∧ RelV (.int 5) u
  c_MOST_ROOM : ∃ u, mg "MOST_ROOM" = some u ∧ RelV (.int 12) u
  c_MOST_FIELDS : ∃ u, mg "MOST_FIELDS" = some u ∧ RelV (.int 4) u
  c_LEAST_PAGES : ∃ u, mg "LEAST_PAGES" = some u ∧ RelV (.int 2) u
  c_MOST_PAGES : ∃ u, mg "MOST_PAGES" = some u ∧ RelV (.int 16) u
  c_LONGEST : ∃ u, mg "LONGEST" = some u ∧ RelV (.int 8) u
  c_LETTERS : ∃ u, mg "LETTERS" = some u ∧ RelV (.str "abcdefghijklmnopqrstuvwxyz") u
  c_LIMIT : ∃ u, mg "LIMIT" = some u ∧ RelV (.int 999999) u
section
variable {K : PySem.W.Frag} {mg : Str → Option Value}
theorem b_law (E : Env K mg) : Binds K E.fd_law ["_law_script"] [] := E.F_law.bindsN fun _ _ _ _ _ _ us hl => match us, hl with | [_], _ => rfl
theorem b__law_begin (E : Env K mg) : Binds K E.fd__law_begin ["_law_script"] [] := E.F__law_begin.bindsN fun _ _ _ _ _ _ us hl => match us, hl with | [_], _ => rfl
theorem b__law_kinds_for (E : Env K mg) : Binds K E.fd__law_kinds_for ["_law_d"] [] := E.F__law_kinds_for.bindsN fun _ _ _ _ _ _ us hl => match us, hl with | [_], _ => rfl
theorem b__law_emptied (E : Env K mg) : Binds K E.fd__law_emptied ["_law_lane", "_law_place", "_law_row", "_law_kind", "_law_told"] [] := E.F__law_emptied.bindsN fun _ _ _ _ _ _ us hl => match us, hl with | [_, _, _, _, _], _ => rfl
theorem b__law_pick (E : Env K mg) : Binds K E.fd__law_pick ["_law_d", "_law_many"] [] := E.F__law_pick.bindsN fun _ _ _ _ _ _ us hl => match us, hl with | [_, _], _ => rfl
theorem b_Lane_give (E : Env K mg) : Binds K E.fd_Lane_give ["self", "ticket"] [] := E.F_Lane_give.bindsN fun _ _ _ _ _ _ us hl => match us, hl with | [_, _], _ => rfl
theorem b_Lane_claim (E : Env K mg) : Binds K E.fd_Lane_claim ["self", "kind", "time"] [] := E.F_Lane_claim.bindsN fun _ _ _ _ _ _ us hl => match us, hl with | [_, _, _], _ => rfl
theorem b_Kind___init__ (E : Env K mg) : Binds K E.fd_Kind___init__ ["self", "name", "fields"] [] := by
  obtain ⟨ds, v, b⟩ := E.F_Kind___init__.binds1 (ps := ["self", "name", "fields"]) 3 1 (by simp) (by rfl) fun _ _ _ _ _ _ _ us its h1 h2 => match us, its, h1, h2 with | [_, _, _], [_], _, _ => ⟨_, rfl, rfl⟩
  cases v
  exact b
theorem b_Lane_throw (E : Env K mg) : Binds K E.fd_Lane_throw ["self", "ticket"] [] := E.F_Lane_throw.bindsN fun _ _ _ _ _ _ us hl => match us, hl with | [_, _], _ => rfl
theorem b__law_told_next (E : Env K mg) : Binds K E.fd__law_told_next ["_law_thing", "_law_place", "_law_row", "_law_kind"] [] := E.F__law_told_next.bindsN fun _ _ _ _ _ _ us hl => match us, hl with | [_, _, _, _], _ => rfl
theorem b_Lane_take (E : Env K mg) : Binds K E.fd_Lane_take ["self"] [] := E.F_Lane_take.bindsN fun _ _ _ _ _ _ us hl => match us, hl with | [_], _ => rfl
theorem b_Lane___len__ (E : Env K mg) : Binds K E.fd_Lane___len__ ["self"] [] := E.F_Lane___len__.bindsN fun _ _ _ _ _ _ us hl => match us, hl with | [_], _ => rfl
theorem b__law_of (E : Env K mg) : Binds K E.fd__law_of ["_law_d", "_law_things"] [] := E.F__law_of.bindsN fun _ _ _ _ _ _ us hl => match us, hl with | [_, _], _ => rfl
theorem b__law_fields (E : Env K mg) : Binds K E.fd__law_fields ["_law_d", "_law_many"] [] := E.F__law_fields.bindsN fun _ _ _ _ _ _ us hl => match us, hl with | [_, _], _ => rfl
theorem b__law_words (E : Env K mg) : Binds K E.fd__law_words ["_law_d", "_law_many"] [] := E.F__law_words.bindsN fun _ _ _ _ _ _ us hl => match us, hl with | [_, _], _ => rfl
theorem b_look_pages (E : Env K mg) : Binds K E.fd_look_pages ["pages"] [] := E.F_look_pages.bindsN fun _ _ _ _ _ _ us hl => match us, hl with | [_], _ => rfl
theorem b_Page___init__ (E : Env K mg) : Binds K E.fd_Page___init__ ["self"] [] := E.F_Page___init__.bindsN fun _ _ _ _ _ _ us hl => match us, hl with | [_], _ => rfl
theorem b_Lane_counts (E : Env K mg) : Binds K E.fd_Lane_counts ["self"] [] := E.F_Lane_counts.bindsN fun _ _ _ _ _ _ us hl => match us, hl with | [_], _ => rfl
theorem b__law_same (E : Env K mg) : Binds K E.fd__law_same ["_law_found", "_law_due"] [] := E.F__law_same.bindsN fun _ _ _ _ _ _ us hl => match us, hl with | [_, _], _ => rfl
theorem b_Lane_look (E : Env K mg) : Binds K E.fd_Lane_look ["self"] [] := E.F_Lane_look.bindsN fun _ _ _ _ _ _ us hl => match us, hl with | [_], _ => rfl
theorem b_Lane_pending (E : Env K mg) : Binds K E.fd_Lane_pending ["self"] [] := E.F_Lane_pending.bindsN fun _ _ _ _ _ _ us hl => match us, hl with | [_], _ => rfl
theorem b_Lane_close (E : Env K mg) : Binds K E.fd_Lane_close ["self", "ticket", "mark"] [] := E.F_Lane_close.bindsN fun _ _ _ _ _ _ us hl => match us, hl with | [_, _, _], _ => rfl
theorem b_Lane_turn_page (E : Env K mg) : Binds K E.fd_Lane_turn_page ["self"] [] := E.F_Lane_turn_page.bindsN fun _ _ _ _ _ _ us hl => match us, hl with | [_], _ => rfl
theorem b_Kind_lowest (E : Env K mg) : Binds K E.fd_Kind_lowest ["self"] [] := E.F_Kind_lowest.bindsN fun _ _ _ _ _ _ us hl => match us, hl with | [_], _ => rfl
theorem b_Page_used (E : Env K mg) : Binds K E.fd_Page_used ["self"] [] := E.F_Page_used.bindsN fun _ _ _ _ _ _ us hl => match us, hl with | [_], _ => rfl
theorem b_Kind_cells (E : Env K mg) : Binds K E.fd_Kind_cells ["self"] [] := E.F_Kind_cells.bindsN fun _ _ _ _ _ _ us hl => match us, hl with | [_], _ => rfl
theorem b_is_name (E : Env K mg) : Binds K E.fd_is_name ["text"] [] := E.F_is_name.bindsN fun _ _ _ _ _ _ us hl => match us, hl with | [_], _ => rfl
theorem b_look_field (E : Env K mg) : Binds K E.fd_look_field ["field", "names"] [] := E.F_look_field.bindsN fun _ _ _ _ _ _ us hl => match us, hl with | [_, _], _ => rfl
theorem b_told_event (E : Env K mg) : Binds K E.fd_told_event ["place", "claim"] [] := E.F_told_event.bindsN fun _ _ _ _ _ _ us hl => match us, hl with | [_, _], _ => rfl
theorem b_Lane_seen (E : Env K mg) : Binds K E.fd_Lane_seen ["self"] [] := E.F_Lane_seen.bindsN fun _ _ _ _ _ _ us hl => match us, hl with | [_], _ => rfl
theorem b__law_bound (E : Env K mg) : Binds K E.fd__law_bound ["_law_d"] [] := E.F__law_bound.bindsN fun _ _ _ _ _ _ us hl => match us, hl with | [_], _ => rfl
theorem b__law_word (E : Env K mg) : Binds K E.fd__law_word ["_law_d"] [] := E.F__law_word.bindsN fun _ _ _ _ _ _ us hl => match us, hl with | [_], _ => rfl
theorem b_told_from (E : Env K mg) : Binds K E.fd_told_from ["lane", "place"] [] := E.F_told_from.bindsN fun _ _ _ _ _ _ us hl => match us, hl with | [_, _], _ => rfl
theorem b_Lane_found (E : Env K mg) : Binds K E.fd_Lane_found ["self", "ticket"] [] := E.F_Lane_found.bindsN fun _ _ _ _ _ _ us hl => match us, hl with | [_, _], _ => rfl
theorem b_Lane_free_pages (E : Env K mg) : Binds K E.fd_Lane_free_pages ["self"] [] := E.F_Lane_free_pages.bindsN fun _ _ _ _ _ _ us hl => match us, hl with | [_], _ => rfl
theorem b_Page_waits (E : Env K mg) : Binds K E.fd_Page_waits ["self"] [] := E.F_Page_waits.bindsN fun _ _ _ _ _ _ us hl => match us, hl with | [_], _ => rfl
theorem b_Page_events (E : Env K mg) : Binds K E.fd_Page_events ["self"] [] := E.F_Page_events.bindsN fun _ _ _ _ _ _ us hl => match us, hl with | [_], _ => rfl
def g_kb_Lane___init____pages_room {α : Type} (us ms ws : List α) : List α := match us, ms, ws with | [u0], [m0], [w0, w1] => [u0, w0, w1, m0] | _, _, _ => []
theorem rel_kb_Lane___init____pages_room {vs mz zs : List V} {us mv ws : List Value} (r1 : Vals vs us) (r2 : Vals mz mv) (r3 : Vals zs ws) : Vals (g_kb_Lane___init____pages_room vs mz zs) (g_kb_Lane___init____pages_room us mv ws) := by
  cases r1 with
  | nil => exact .nil
  | cons a0 r1_1 =>
    cases r1_1 with
    | cons _ _ => exact .nil
    | nil =>
      cases r2 with
      | nil => exact .nil
      | cons b0 r2_1 =>
        cases r2_1 with
        | cons _ _ => exact .nil
        | nil =>
          cases r3 with
          | nil => exact .nil
          | cons c0 r3_1 =>
            cases r3_1 with
            | nil => exact .nil
            | cons c1 r3_2 =>
              cases r3_2 with
              | cons _ _ => exact .nil
              | nil =>
                exact (.cons a0 (.cons c0 (.cons c1 (.cons b0 .nil))))
theorem kb_Lane___init____pages_room0 (E : Env K mg) : ∃ mv : List Value, KBn K E.fd_Lane___init__ ["self", "pages", "room", "over"] 1 ["pages", "room"] (fun us ws => g_kb_Lane___init____pages_room us mv ws) (fun vs zs => g_kb_Lane___init____pages_room vs ([("over", .bl true)].map (·.2)) zs) := by
  refine E.F_Lane___init__.kbinds0 (ps := ["self", "pages", "room", "over"]) 1 ["pages", "room"] [("over", .bl true)] (fun us ms ws => g_kb_Lane___init____pages_room us ms ws) (by simp) (by simp) (fun r1 r2 r3 => ?_) (fun D _ _ _ _ _ us mv ws h1 h2 h3 => ?_)
  · exact rel_kb_Lane___init____pages_room r1 r2 r3
  · exact match us, mv, ws, h1, h2, h3 with | [_], [_], [_, _], _, _, _ => ⟨_, _, _, _, _, _, rfl, rfl, rfl⟩
def g_kb_Lane_leave__lost {α : Type} (us ws : List α) : List α := match us, ws with | [u0, u1], [w0] => [u0, u1, w0] | _, _ => []
theorem rel_kb_Lane_leave__lost {vs zs : List V} {us ws : List Value} (r1 : Vals vs us) (r3 : Vals zs ws) : Vals (g_kb_Lane_leave__lost vs zs) (g_kb_Lane_leave__lost us ws) := by
  cases r1 with
  | nil => exact .nil
  | cons a0 r1_1 =>
    cases r1_1 with
    | nil => exact .nil
    | cons a1 r1_2 =>
      cases r1_2 with
      | cons _ _ => exact .nil
      | nil =>
        cases r3 with
        | nil => exact .nil
        | cons c0 r3_1 =>
          cases r3_1 with
          | cons _ _ => exact .nil
          | nil =>
            exact (.cons a0 (.cons a1 (.cons c0 .nil)))
theorem kb_Lane_leave__lost (E : Env K mg) : KBn K E.fd_Lane_leave ["self", "at", "lost"] 2 ["lost"] (fun us ws => g_kb_Lane_leave__lost us ws) (fun vs zs => g_kb_Lane_leave__lost vs zs) := kbindsN E.F_Lane_leave (ps := ["self", "at", "lost"]) 2 ["lost"] (fun us ws => g_kb_Lane_leave__lost us ws) (fun r1 r2 => rel_kb_Lane_leave__lost r1 r2) (fun _ _ _ _ _ _ us ws h1 h2 => match us, ws, h1, h2 with | [u0, u1], [w0], _, _ => rfl)
end
end Lw
namespace Ls
open PySem PySem.Spec PyProof.Rows L2
def spLaw (K : PySem.W.Frag) : Sp := fun vs H Q _ => ∃ (a : Addr) (ns : List Int), vs = [.ref a] ∧ SqL K H a (ns.map V.int) ∧ ns.length ≤ 63 ∧ ∀ H', Q (.bl true) H'
end Ls
namespace Lw
open PySem PySem.Spec PyProof.Rows L2 Ls
abbrev OkLaw : Prop := ∀ {P : Program} {w : World} {K : PySem.W.Frag} {mg : Str → Option Value} {base : Heap} (E : Env K mg), FnOk P w K mg base CX0 9 E.a_law E.fd_law ["_law_script"] (spLaw K)
end Lw
-- own part: head
section
namespace Lw
open PySem PySem.Spec PyProof.Rows L2 Ls
theorem facts {K : PySem.W.Frag} {h : Heap} {mg : Str → Option Value} (X : K.In h) (G : h.Ns mainGlobals mg) (c : He.SaysD Lh.fa Lh.fn K) : ∃ E : Env K mg, E.a_law = He.ga K "law" := by
  obtain ⟨fd_law, F_law⟩ := c.def_ 0 (d := Lh.d_law) rfl
  obtain ⟨fd__law_begin, F__law_begin⟩ := c.def_ 1 (d := Lh.d__law_begin) rfl
  obtain ⟨fd__law_kinds_for, F__law_kinds_for⟩ := c.def_ 2 (d := Lh.d__law_kinds_for) rfl
  obtain ⟨fd_Lane___init__, F_Lane___init__⟩ := c.def_ 3 (d := Lh.d_Lane___init__) rfl
  obtain ⟨fd__law_emptied, F__law_emptied⟩ := c.def_ 4 (d := Lh.d__law_emptied) rfl
  obtain ⟨fd__law_pick, F__law_pick⟩ := c.def_ 5 (d := Lh.d__law_pick) rfl
  obtain ⟨fd_Lane_give, F_Lane_give⟩ := c.def_ 6 (d := Lh.d_Lane_give) rfl
  obtain ⟨fd_Lane_claim, F_Lane_claim⟩ := c.def_ 7 (d := Lh.d_Lane_claim) rfl
  obtain ⟨fd_Kind___init__, F_Kind___init__⟩ := c.def_ 8 (d := Lh.d_Kind___init__) rfl
  obtain ⟨fd_Lane_throw, F_Lane_throw⟩ := c.def_ 9 (d := Lh.d_Lane_throw) rfl
  obtain ⟨fd__law_told_next, F__law_told_next⟩ := c.def_ 10 (d := Lh.d__law_told_next) rfl
  obtain ⟨fd_Lane_take, F_Lane_take⟩ := c.def_ 11 (d := Lh.d_Lane_take) rfl
  obtain ⟨fd_Lane___len__, F_Lane___len__⟩ := c.def_ 12 (d := Lh.d_Lane___len__) rfl
  obtain ⟨fd__law_of, F__law_of⟩ := c.def_ 13 (d := Lh.d__law_of) rfl
  obtain ⟨fd__law_fields, F__law_fields⟩ := c.def_ 14 (d := Lh.d__law_fields) rfl
  obtain ⟨fd__law_words, F__law_words⟩ := c.def_ 15 (d := Lh.d__law_words) rfl
  obtain ⟨fd_look_pages, F_look_pages⟩ := c.def_ 16 (d := Lh.d_look_pages) rfl
  obtain ⟨fd_Page___init__, F_Page___init__⟩ := c.def_ 17 (d := Lh.d_Page___init__) rfl
  obtain ⟨fd_Lane_counts, F_Lane_counts⟩ := c.def_ 18 (d := Lh.d_Lane_counts) rfl
  obtain ⟨fd__law_same, F__law_same⟩ := c.def_ 19 (d := Lh.d__law_same) rfl
  obtain ⟨fd_Lane_look, F_Lane_look⟩ := c.def_ 20 (d := Lh.d_Lane_look) rfl
  obtain ⟨fd_Lane_pending, F_Lane_pending⟩ := c.def_ 21 (d := Lh.d_Lane_pending) rfl
  obtain ⟨fd_Lane_close, F_Lane_close⟩ := c.def_ 22 (d := Lh.d_Lane_close) rfl
  obtain ⟨fd_Lane_turn_page, F_Lane_turn_page⟩ := c.def_ 23 (d := Lh.d_Lane_turn_page) rfl
  obtain ⟨fd_Kind_lowest, F_Kind_lowest⟩ := c.def_ 24 (d := Lh.d_Kind_lowest) rfl
  obtain ⟨fd_Page_used, F_Page_used⟩ := c.def_ 25 (d := Lh.d_Page_used) rfl
  obtain ⟨fd_Kind_cells, F_Kind_cells⟩ := c.def_ 26 (d := Lh.d_Kind_cells) rfl
  obtain ⟨fd_is_name, F_is_name⟩ := c.def_ 27 (d := Lh.d_is_name) rfl
  obtain ⟨fd_look_field, F_look_field⟩ := c.def_ 28 (d := Lh.d_look_field) rfl
  obtain ⟨fd_told_event, F_told_event⟩ := c.def_ 29 (d := Lh.d_told_event) rfl
  obtain ⟨fd_Lane_leave, F_Lane_leave⟩ := c.def_ 30 (d := Lh.d_Lane_leave) rfl
  obtain ⟨fd_Lane_seen, F_Lane_seen⟩ := c.def_ 31 (d := Lh.d_Lane_seen) rfl
  obtain ⟨fd__law_bound, F__law_bound⟩ := c.def_ 32 (d := Lh.d__law_bound) rfl
  obtain ⟨fd__law_word, F__law_word⟩ := c.def_ 33 (d := Lh.d__law_word) rfl
  obtain ⟨fd_told_from, F_told_from⟩ := c.def_ 34 (d := Lh.d_told_from) rfl
  obtain ⟨fd_Lane_found, F_Lane_found⟩ := c.def_ 35 (d := Lh.d_Lane_found) rfl
  obtain ⟨fd_Lane_free_pages, F_Lane_free_pages⟩ := c.def_ 36 (d := Lh.d_Lane_free_pages) rfl
  obtain ⟨fd_Page_waits, F_Page_waits⟩ := c.def_ 37 (d := Lh.d_Page_waits) rfl
  obtain ⟨fd_Page_events, F_Page_events⟩ := c.def_ 38 (d := Lh.d_Page_events) rfl
  refine ⟨{
    do_Kind___init___0 := He.dflAt ("Kind", some "__init__") 0 K
    C_Lane := He.ga K "Lane", g_Lane := He.glo_ok X G (c.fact 0 (f := .glo "Lane") rfl), cl_Lane := He.cls_ok (c.fact 1 (f := .cls "Lane") rfl)
    na_Lane_most := He.noat_ok (c.fact 2 (f := .noat "Lane" "most") rfl)
    na_Lane_room := He.noat_ok (c.fact 3 (f := .noat "Lane" "room") rfl)
    na_Lane_over := He.noat_ok (c.fact 4 (f := .noat "Lane" "over") rfl)
    na_Lane_book := He.noat_ok (c.fact 5 (f := .noat "Lane" "book") rfl)
    na_Lane_pile := He.noat_ok (c.fact 6 (f := .noat "Lane" "pile") rfl)
    na_Lane_latest := He.noat_ok (c.fact 7 (f := .noat "Lane" "latest") rfl)
    na_Lane_coming := He.noat_ok (c.fact 8 (f := .noat "Lane" "coming") rfl)
    na_Lane_last_ticket := He.noat_ok (c.fact 9 (f := .noat "Lane" "last_ticket") rfl)
    na_Lane_given := He.noat_ok (c.fact 10 (f := .noat "Lane" "given") rfl)
    na_Lane_back_thrown := He.noat_ok (c.fact 11 (f := .noat "Lane" "back_thrown") rfl)
    na_Lane_gone := He.noat_ok (c.fact 12 (f := .noat "Lane" "gone") rfl)
    na_Lane_missed := He.noat_ok (c.fact 13 (f := .noat "Lane" "missed") rfl)
    C_Kind := He.ga K "Kind", g_Kind := He.glo_ok X G (c.fact 14 (f := .glo "Kind") rfl), cl_Kind := He.cls_ok (c.fact 15 (f := .cls "Kind") rfl)
    na_Kind_name := He.noat_ok (c.fact 16 (f := .noat "Kind" "name") rfl)
    na_Kind_fields := He.noat_ok (c.fact 17 (f := .noat "Kind" "fields") rfl)
    C_Page := He.ga K "Page", g_Page := He.glo_ok X G (c.fact 18 (f := .glo "Page") rfl), cl_Page := He.cls_ok (c.fact 19 (f := .cls "Page") rfl)
    na_Page_ahead := He.noat_ok (c.fact 20 (f := .noat "Page" "ahead") rfl)
    na_Page_claims := He.noat_ok (c.fact 21 (f := .noat "Page" "claims") rfl)
    na_Page_held := He.noat_ok (c.fact 22 (f := .noat "Page" "held") rfl)
    a_law := He.ga K "law", fd_law := fd_law, F_law := F_law, g_law := He.glo_ok X G (c.fact 23 (f := .glo "law") rfl)
    a__law_begin := He.ga K "_law_begin", fd__law_begin := fd__law_begin, F__law_begin := F__law_begin, g__law_begin := He.glo_ok X G (c.fact 24 (f := .glo "_law_begin") rfl)
    a__law_kinds_for := He.ga K "_law_kinds_for", fd__law_kinds_for := fd__law_kinds_for, F__law_kinds_for := F__law_kinds_for, g__law_kinds_for := He.glo_ok X G (c.fact 25 (f := .glo "_law_kinds_for") rfl)
    a_Lane___init__ := He.ma K (He.ga K "Lane") "__init__", fd_Lane___init__ := fd_Lane___init__, F_Lane___init__ := F_Lane___init__
    mk_Lane := He.mkr_ok (c.fact 26 (f := .mkr "Lane") rfl)
    a__law_emptied := He.ga K "_law_emptied", fd__law_emptied := fd__law_emptied, F__law_emptied := F__law_emptied, g__law_emptied := He.glo_ok X G (c.fact 27 (f := .glo "_law_emptied") rfl)
    a__law_pick := He.ga K "_law_pick", fd__law_pick := fd__law_pick, F__law_pick := F__law_pick, g__law_pick := He.glo_ok X G (c.fact 28 (f := .glo "_law_pick") rfl)
    a_Lane_give := He.ma K (He.ga K "Lane") "give", fd_Lane_give := fd_Lane_give, F_Lane_give := F_Lane_give
    m_Lane_give := He.meth_ok (c.fact 29 (f := .meth "Lane" "give") rfl)
    a_Lane_claim := He.ma K (He.ga K "Lane") "claim", fd_Lane_claim := fd_Lane_claim, F_Lane_claim := F_Lane_claim
    m_Lane_claim := He.meth_ok (c.fact 30 (f := .meth "Lane" "claim") rfl)
    a_Kind___init__ := He.ma K (He.ga K "Kind") "__init__", fd_Kind___init__ := fd_Kind___init__, F_Kind___init__ := F_Kind___init__
    mk_Kind := He.mkr_ok (c.fact 31 (f := .mkr "Kind") rfl)
    a_Lane_throw := He.ma K (He.ga K "Lane") "throw", fd_Lane_throw := fd_Lane_throw, F_Lane_throw := F_Lane_throw
    m_Lane_throw := He.meth_ok (c.fact 32 (f := .meth "Lane" "throw") rfl)
    a__law_told_next := He.ga K "_law_told_next", fd__law_told_next := fd__law_told_next, F__law_told_next := F__law_told_next, g__law_told_next := He.glo_ok X G (c.fact 33 (f := .glo "_law_told_next") rfl)
    a_Lane_take := He.ma K (He.ga K "Lane") "take", fd_Lane_take := fd_Lane_take, F_Lane_take := F_Lane_take
    m_Lane_take := He.meth_ok (c.fact 34 (f := .meth "Lane" "take") rfl)
    a_Lane___len__ := He.ma K (He.ga K "Lane") "__len__", fd_Lane___len__ := fd_Lane___len__, F_Lane___len__ := F_Lane___len__
    m_Lane___len__ := He.meth_ok (c.fact 35 (f := .meth "Lane" "__len__") rfl)
    a__law_of := He.ga K "_law_of", fd__law_of := fd__law_of, F__law_of := F__law_of, g__law_of := He.glo_ok X G (c.fact 36 (f := .glo "_law_of") rfl)
    a__law_fields := He.ga K "_law_fields", fd__law_fields := fd__law_fields, F__law_fields := F__law_fields, g__law_fields := He.glo_ok X G (c.fact 37 (f := .glo "_law_fields") rfl)
    a__law_words := He.ga K "_law_words", fd__law_words := fd__law_words, F__law_words := F__law_words, g__law_words := He.glo_ok X G (c.fact 38 (f := .glo "_law_words") rfl)
    a_look_pages := He.ga K "look_pages", fd_look_pages := fd_look_pages, F_look_pages := F_look_pages, g_look_pages := He.glo_ok X G (c.fact 39 (f := .glo "look_pages") rfl)
    a_Page___init__ := He.ma K (He.ga K "Page") "__init__", fd_Page___init__ := fd_Page___init__, F_Page___init__ := F_Page___init__
    mk_Page := He.mkr_ok (c.fact 40 (f := .mkr "Page") rfl)
    a_Lane_counts := He.ma K (He.ga K "Lane") "counts", fd_Lane_counts := fd_Lane_counts, F_Lane_counts := F_Lane_counts
    m_Lane_counts := He.meth_ok (c.fact 41 (f := .meth "Lane" "counts") rfl)
    a__law_same := He.ga K "_law_same", fd__law_same := fd__law_same, F__law_same := F__law_same, g__law_same := He.glo_ok X G (c.fact 42 (f := .glo "_law_same") rfl)
    a_Lane_look := He.ma K (He.ga K "Lane") "look", fd_Lane_look := fd_Lane_look, F_Lane_look := F_Lane_look
    m_Lane_look := He.meth_ok (c.fact 43 (f := .meth "Lane" "look") rfl)
    a_Lane_pending := He.ma K (He.ga K "Lane") "pending", fd_Lane_pending := fd_Lane_pending, F_Lane_pending := F_Lane_pending
    m_Lane_pending := He.meth_ok (c.fact 44 (f := .meth "Lane" "pending") rfl)
    a_Lane_close := He.ma K (He.ga K "Lane") "close", fd_Lane_close := fd_Lane_close, F_Lane_close := F_Lane_close
    m_Lane_close := He.meth_ok (c.fact 45 (f := .meth "Lane" "close") rfl)
    a_Lane_turn_page := He.ma K (He.ga K "Lane") "turn_page", fd_Lane_turn_page := fd_Lane_turn_page, F_Lane_turn_page := F_Lane_turn_page
    m_Lane_turn_page := He.meth_ok (c.fact 46 (f := .meth "Lane" "turn_page") rfl)
    a_Kind_lowest := He.ma K (He.ga K "Kind") "lowest", fd_Kind_lowest := fd_Kind_lowest, F_Kind_lowest := F_Kind_lowest
    m_Kind_lowest := He.meth_ok (c.fact 47 (f := .meth "Kind" "lowest") rfl)
    a_Page_used := He.ma K (He.ga K "Page") "used", fd_Page_used := fd_Page_used, F_Page_used := F_Page_used
    m_Page_used := He.meth_ok (c.fact 48 (f := .meth "Page" "used") rfl)
    a_Kind_cells := He.ma K (He.ga K "Kind") "cells", fd_Kind_cells := fd_Kind_cells, F_Kind_cells := F_Kind_cells
    m_Kind_cells := He.meth_ok (c.fact 49 (f := .meth "Kind" "cells") rfl)
    a_is_name := He.ga K "is_name", fd_is_name := fd_is_name, F_is_name := F_is_name, g_is_name := He.glo_ok X G (c.fact 50 (f := .glo "is_name") rfl)
    a_look_field := He.ga K "look_field", fd_look_field := fd_look_field, F_look_field := F_look_field, g_look_field := He.glo_ok X G (c.fact 51 (f := .glo "look_field") rfl)
    a_told_event := He.ga K "told_event", fd_told_event := fd_told_event, F_told_event := F_told_event, g_told_event := He.glo_ok X G (c.fact 52 (f := .glo "told_event") rfl)
    a_Lane_leave := He.ma K (He.ga K "Lane") "leave", fd_Lane_leave := fd_Lane_leave, F_Lane_leave := F_Lane_leave
    m_Lane_leave := He.meth_ok (c.fact 53 (f := .meth "Lane" "leave") rfl)
    a_Lane_seen := He.ma K (He.ga K "Lane") "seen", fd_Lane_seen := fd_Lane_seen, F_Lane_seen := F_Lane_seen
    m_Lane_seen := He.meth_ok (c.fact 54 (f := .meth "Lane" "seen") rfl)
    a__law_bound := He.ga K "_law_bound", fd__law_bound := fd__law_bound, F__law_bound := F__law_bound, g__law_bound := He.glo_ok X G (c.fact 55 (f := .glo "_law_bound") rfl)
    a__law_word := He.ga K "_law_word", fd__law_word := fd__law_word, F__law_word := F__law_word, g__law_word := He.glo_ok X G (c.fact 56 (f := .glo "_law_word") rfl)
    a_told_from := He.ga K "told_from", fd_told_from := fd_told_from, F_told_from := F_told_from, g_told_from := He.glo_ok X G (c.fact 57 (f := .glo "told_from") rfl)
    a_Lane_found := He.ma K (He.ga K "Lane") "found", fd_Lane_found := fd_Lane_found, F_Lane_found := F_Lane_found
    m_Lane_found := He.meth_ok (c.fact 58 (f := .meth "Lane" "found") rfl)
    a_Lane_free_pages := He.ma K (He.ga K "Lane") "free_pages", fd_Lane_free_pages := fd_Lane_free_pages, F_Lane_free_pages := F_Lane_free_pages
    m_Lane_free_pages := He.meth_ok (c.fact 59 (f := .meth "Lane" "free_pages") rfl)
    a_Page_waits := He.ma K (He.ga K "Page") "waits", fd_Page_waits := fd_Page_waits, F_Page_waits := F_Page_waits
    m_Page_waits := He.meth_ok (c.fact 60 (f := .meth "Page" "waits") rfl)
    a_Page_events := He.ma K (He.ga K "Page") "events", fd_Page_events := fd_Page_events, F_Page_events := F_Page_events
    m_Page_events := He.meth_ok (c.fact 61 (f := .meth "Page" "events") rfl)
    n_range := He.free_ok X G (c.fact 62 (f := .free "range") rfl)
    n_int := He.free_ok X G (c.fact 63 (f := .free "int") rfl)
    n_list := He.free_ok X G (c.fact 64 (f := .free "list") rfl)
    n_len := He.free_ok X G (c.fact 65 (f := .free "len") rfl)
    n_enumerate := He.free_ok X G (c.fact 66 (f := .free "enumerate") rfl)
    n_tuple := He.free_ok X G (c.fact 67 (f := .free "tuple") rfl)
    n_min := He.free_ok X G (c.fact 68 (f := .free "min") rfl)
    n_isinstance := He.free_ok X G (c.fact 69 (f := .free "isinstance") rfl)
    n_bool := He.free_ok X G (c.fact 70 (f := .free "bool") rfl)
    n_str := He.free_ok X G (c.fact 71 (f := .free "str") rfl)
    n_all := He.free_ok X G (c.fact 72 (f := .free "all") rfl)
    n_sum := He.free_ok X G (c.fact 73 (f := .free "sum") rfl)
    n_any := He.free_ok X G (c.fact 74 (f := .free "any") rfl)
    c_PAGES := by
      obtain ⟨t, e⟩ := He.int_ok X G (c.fact 75 (f := .int "PAGES" 4) rfl)
      exact ⟨_, e, ⟨t, rfl⟩⟩
    c_ROOM := by
      obtain ⟨t, e⟩ := He.int_ok X G (c.fact 76 (f := .int "ROOM" 8) rfl)
      exact ⟨_, e, ⟨t, rfl⟩⟩
    c_LEAST_ROOM := by
      obtain ⟨t, e⟩ := He.int_ok X G (c.fact 77 (f := .int "LEAST_ROOM" 5) rfl)
      exact ⟨_, e, ⟨t, rfl⟩⟩
    c_MOST_ROOM := by
      obtain ⟨t, e⟩ := He.int_ok X G (c.fact 78 (f := .int "MOST_ROOM" 12) rfl)
      exact ⟨_, e, ⟨t, rfl⟩⟩
    c_MOST_FIELDS := by
      obtain ⟨t, e⟩ := He.int_ok X G (c.fact 79 (f := .int "MOST_FIELDS" 4) rfl)
      exact ⟨_, e, ⟨t, rfl⟩⟩
    c_LEAST_PAGES := by
      obtain ⟨t, e⟩ := He.int_ok X G (c.fact 80 (f := .int "LEAST_PAGES" 2) rfl)
      exact ⟨_, e, ⟨t, rfl⟩⟩
    c_MOST_PAGES := by
      obtain ⟨t, e⟩ := He.int_ok X G (c.fact 81 (f := .int "MOST_PAGES" 16) rfl)
      exact ⟨_, e, ⟨t, rfl⟩⟩
    c_LONGEST := by
      obtain ⟨t, e⟩ := He.int_ok X G (c.fact 82 (f := .int "LONGEST" 8) rfl)
      exact ⟨_, e, ⟨t, rfl⟩⟩
    c_LETTERS := by
      obtain ⟨t, e⟩ := He.str_ok X G (c.fact 83 (f := .str "LETTERS" "abcdefghijklmnopqrstuvwxyz") rfl)
      exact ⟨_, e, ⟨t, rfl⟩⟩
    c_LIMIT := by
      obtain ⟨t, e⟩ := He.int_ok X G (c.fact 84 (f := .int "LIMIT" 999999) rfl)
      exact ⟨_, e, ⟨t, rfl⟩⟩
    }, rfl⟩
end Lw
open PySem PySem.W PySem.Calls PyProof.Rows
theorem Lw.head_of (ok : Lw.OkLaw) : PySem.Challenge.rw_lanescribe_k16_whole_takers_are_told_the.Holds := by
  w_on; o_law
  refine HandSHeadRun.head_any (r := OpenLaw.row PySem.Challenge.rw_lanescribe_k16_whole_takers_are_told_the) (q := view (OpenLaw.row PySem.Challenge.rw_lanescribe_k16_whole_takers_are_told_the).prog [44]) (H := Lh.hk) (ob := Lh.ob) (M := 20000) (loose := Lh.loose) (d := HandSHeadRun.topDef (OpenLaw.row PySem.Challenge.rw_lanescribe_k16_whole_takers_are_told_the).prog 44) (kwd := []) Lh.ob_eq
    (by kernel_rfl) (fun s => by kernel_rfl) Lh.run (by kernel_rfl) (by kernel_rfl) (by kernel_rfl) (by rfl) (by first | assumption | decide +kernel) (by decide +kernel) ⟨rfl, rfl, rfl, rfl, rfl, by decide +kernel⟩ ?hw ?hc
  case hw => w_witness2
  case hc =>
    refine L2.walk_ofE (l := PySem.Challenge.rw_lanescribe_k16_whole_takers_are_told_the) (n := 63) (k := 9) (x := "_law_script") (CX := L2.CX0) rfl (by decide) (by kernel_rfl) ⟨rfl, by decide, by decide⟩ ?F (fun _ _ _ _ z => z)
    intro w mg fa h Y G hmg0
    obtain ⟨K, KX, c⟩ := Y
    have hmg : mg ("law" : PySem.Str) = some (.ref fa) := by
      have e : (HandSHeadRun.topDef (OpenLaw.row PySem.Challenge.rw_lanescribe_k16_whole_takers_are_told_the).prog 44).name = ("law" : PySem.Str) := by kernel_rfl
      rw [← e]
      exact hmg0
    obtain ⟨E, ea⟩ := Lw.facts KX G c
    have e := hmg.symm.trans E.g_law
    cases e
    have b := L2.FunD.bindsA (ps := ["_law_script"]) E.F_law fun _ _ _ _ _ _ us hl => match us, hl with | [_], _ => rfl
    exact ⟨K, E.fd_law, Ls.spLaw K, KX, fun s v => b s [v] rfl, fun H a ns hl _ hS => ⟨a, ns, rfl, hS, hl, fun _ => rfl⟩, fun base _ _ => ok E⟩
end
local macro_rules | `(tactic| walk_at "hg") => `(tactic| first
  | assumption
  | exact upd_same
  | (refine up_new (by assumption) ?_; walk_at "hg")
  | (refine up_ne ?n ?_; (case n => walk_at "ne"); walk_at "hg")
  | (refine Keep.at (by assumption) ?n ?_; (case n => walk_at "ne"); walk_at "hg"))
local macro_rules | `(tactic| walk_at "ne") => `(tactic| first
  | assumption
  | (refine Ne.symm ?_; assumption)
  | (refine ne_of_none ?a ?b; (case b => assumption); (case a => walk_at "hg"))
  | (refine Ne.symm (ne_of_none ?a ?b); (case b => assumption); (case a => walk_at "hg"))
  | (refine ne_of ?a ?b ?c; (case a => assumption); (case b => assumption); (case c => (intro z; cases z))))
local macro_rules | `(tactic| walk_at "sz") => `(tactic| first | omega | decide | (simp only [List.length_cons, List.length_nil, List.length_append, List.length_map, List.length_take, List.length_drop, sizeLine_eq] <;> omega) | (rw [sizeLine_eq]; simp <;> omega))
local macro_rules | `(tactic| walk_at "w1") => `(tactic| first
  | (with_reducible first | refine k_v0 ?_ | refine k_v1 ?_ | refine k_v2 ?_ | refine k_v3 ?_ | refine k_v4 ?_ | refine k_v5 ?_ | refine k_v6 ?_ | refine k_v7 ?_ | refine k_v8 ?_ | refine k_v9 ?_ | refine k_v10 ?_ | refine k_v11 ?_ | refine k_v12 ?_ | refine k_v13 ?_ | refine k_v14 ?_ | refine k_v15 ?_ | refine k_v16 ?_ | refine k_v17 ?_ | refine k_v18 ?_ | refine k_v19 ?_ | refine k_v20 ?_ | refine k_v21 ?_ | refine k_v22 ?_ | refine k_v23 ?_ | refine k_v24 ?_ | refine k_v25 ?_ | refine k_v26 ?_ | refine k_v27 ?_ | refine k_v28 ?_ | refine k_v29 ?_ | refine k_v30 ?_ | refine k_v31 ?_ | refine k_v32 ?_ | refine k_v33 ?_ | refine k_v34 ?_ | refine k_v35 ?_ | refine k_v36 ?_ | refine k_v37 ?_ | refine k_v38 ?_ | refine k_v39 ?_ | refine k_v40 ?_ | refine k_v41 ?_ | refine k_v42 ?_ | refine k_v43 ?_)
  | (with_reducible first
    | refine k_seq ?_ | refine k_c ?_ | refine k_op ?_ | refine k_cons ?_ | refine k_nil ?_ | refine k_call ?_ | refine k_cb ?_ | refine k_ret ?_ | refine k_if ?_ | refine k_test ?_ | refine k_bl ?_
    | refine k_tup ?_ | refine k_lst ?_ | refine k_dget ?_ | refine k_dput ?_ | refine k_drop ?_ | refine k_next ?_ | refine k_B ?_ | refine k_and ?_ | refine k_or ?_ | refine k_not ?_ | refine k_un ?_
    | refine k_bm ?_ | refine k_bm0 ?_ | refine k_sl ?_ | refine k_nop ?_ | refine k_part ?_ | refine k_partI ?_ | refine k_par ?_ | refine k_par2 ?_ | refine k_gcons ?_ | refine k_gnil ?_
    | refine k_andV ?_ | refine k_orV ?_ | refine k_notV ?_ | refine k_ifE ?_ | refine k_chain ?_ | refine k_din ?_ | refine k_dnotin ?_ | refine k_brk ?_ | refine k_cont ?_ | refine k_retN ?_ | refine k_callN ?_ | refine k_yes ?_ | refine k_vei ?_ | refine k_ost ?_ | refine k_cfn ?_ | refine k_step ?_ | refine k_lenset ?_ | refine k_sortset ?_ | refine k_listrg ?_ | refine k_rg1 ?_ | refine k_lc ?_ | refine k_dc ?_
    | refine k_addI ?_ | refine k_sub ?_ | refine k_lt ?_ | refine k_le ?_ | refine k_gt ?_ | refine k_ge ?_ | refine k_eqI ?_ | refine k_neI ?_ | refine k_eqS ?_ | refine k_neS ?_ | refine k_eqB ?_ | refine k_neB ?_ | refine k_neg ?_ | refine k_isN ?_ | refine k_isnotN ?_
    | refine k_for ?_ | refine k_itL ?_ | refine k_itT ?_ | refine k_itR1 ?_ | refine k_itR2 ?_ | refine k_tt ?_ | refine k_ff ?_ | refine k_nt ?_ | refine k_nf ?_)
  | (with_reducible first | refine k_s0 ?_ | refine k_s1 ?_ | refine k_s2 ?_ | refine k_s3 ?_ | refine k_s4 ?_ | refine k_s5 ?_ | refine k_s6 ?_ | refine k_s7 ?_ | refine k_s8 ?_ | refine k_s9 ?_ | refine k_s10 ?_ | refine k_s11 ?_ | refine k_s12 ?_ | refine k_s13 ?_ | refine k_s14 ?_ | refine k_s15 ?_ | refine k_s16 ?_ | refine k_s17 ?_ | refine k_s18 ?_ | refine k_s19 ?_ | refine k_s20 ?_ | refine k_s21 ?_ | refine k_s22 ?_ | refine k_s23 ?_ | refine k_s24 ?_ | refine k_s25 ?_ | refine k_s26 ?_ | refine k_s27 ?_ | refine k_s28 ?_ | refine k_s29 ?_ | refine k_s30 ?_ | refine k_s31 ?_ | refine k_s32 ?_ | refine k_s33 ?_ | refine k_s34 ?_ | refine k_s35 ?_ | refine k_s36 ?_ | refine k_s37 ?_ | refine k_s38 ?_ | refine k_s39 ?_ | refine k_s40 ?_ | refine k_s41 ?_ | refine k_s42 ?_ | refine k_s43 ?_)
  | (with_reducible first | refine k_g0 ?_ | refine k_g1 ?_ | refine k_g2 ?_ | refine k_g3 ?_ | refine k_g4 ?_ | refine k_g5 ?_ | refine k_g6 ?_ | refine k_g7 ?_ | refine k_g8 ?_ | refine k_g9 ?_ | refine k_g10 ?_ | refine k_g11 ?_ | refine k_g12 ?_ | refine k_g13 ?_ | refine k_g14 ?_ | refine k_g15 ?_ | refine k_g16 ?_ | refine k_g17 ?_ | refine k_g18 ?_ | refine k_g19 ?_ | refine k_g20 ?_ | refine k_g21 ?_ | refine k_g22 ?_ | refine k_g23 ?_ | refine k_g24 ?_ | refine k_g25 ?_ | refine k_g26 ?_ | refine k_g27 ?_ | refine k_g28 ?_ | refine k_g29 ?_ | refine k_g30 ?_ | refine k_g31 ?_ | refine k_g32 ?_ | refine k_g33 ?_ | refine k_g34 ?_ | refine k_g35 ?_ | refine k_g36 ?_ | refine k_g37 ?_ | refine k_g38 ?_ | refine k_g39 ?_ | refine k_g40 ?_ | refine k_g41 ?_ | refine k_g42 ?_ | refine k_g43 ?_)
  | (with_reducible refine k_asg ?_)
  | (with_reducible refine k_mod ?e ?_; (case e => first | omega | decide))
  | (with_reducible refine k_mulR ?e ?_; (case e => decide))
  | (with_reducible refine k_mulL ?e ?_; (case e => decide))
  | (with_reducible refine k_new ?e ?_; (case e => walk_at "sz")))
local macro_rules | `(tactic| walk_at "w") => `(tactic| repeat walk_at "w1")
local macro_rules | `(tactic| walk_at "lc") => `(tactic| (simp only [wipe, List.map, List.set_cons_succ, List.set_cons_zero]; walk_at "w"; refine ⟨rfl, ?_⟩; walk_at "w"))
local macro_rules | `(tactic| walk_at "fr") => `(tactic| first | assumption | (refine Same.free ?s (by assumption); (case s => walk_at "sm")) | (refine Keep.free ?k ?d (by assumption); (case k => walk_at "kp"); (case d => walk_at "hg")))
local macro_rules | `(tactic| walk_at "sm") => `(tactic| first
  | assumption
  | exact Same.refl _
  | (refine Same.wr ?s ?f; (case s => walk_at "sm"); (case f => walk_at "fr"))
  | (refine Same.trans ?a (by assumption); (case a => walk_at "sm")))
local macro_rules | `(tactic| walk_at "kp") => `(tactic| first
  | assumption
  | exact Keep.refl
  | (refine Keep.put ?s; (case s => walk_at "kp"))
  | (refine Keep.wr ?s ?f; (case s => walk_at "kp"); (case f => walk_at "fr"))
  | (refine Keep.trans ?a (by assumption); (case a => walk_at "kp"))
  | (refine Keep.same ?s; (case s => walk_at "sm")))
local macro_rules | `(tactic| walk_at "ar") => `(tactic| first
  | (refine k_pos ?h ?_; (case h => omega))
  | (refine k_neg' ?h ?_; (case h => omega))
  | (refine k_npos ?h ?_; (case h => omega))
  | (refine k_nneg ?h ?_; (case h => omega)))
local macro_rules | `(tactic| walk_at "wa") => `(tactic| repeat first | walk_at "w1" | walk_at "ar")
local macro_rules | `(tactic| walk_at "lc1") => `(tactic| simp only [wipe, List.map, List.set_cons_succ, List.set_cons_zero])
local macro_rules | `(tactic| walk_at "lc2") => `(tactic| (walk_at "w"; refine ⟨rfl, ?_⟩; walk_at "w"))
-- own part: lw1
namespace Lw
open PySem PySem.Spec PyProof.Rows L2 Ls
section
variable {P : Program} {w : World} {K : PySem.W.Frag} {mg : Str → Option Value} {base : Heap}
theorem ok__law_pick (E : Env K mg) : FnOk P w K mg base CX0 1 E.a__law_pick E.fd__law_pick ["_law_d", "_law_many"] (spPick K) := by
  refine E.F__law_pick.ok sc__law_pick (fun vs H Q E h => ?_) (fun cdv A outer s H vs Q E' hr h => ?_)
  · obtain ⟨d, c, m, rfl, _⟩ := h
    rfl
  · obtain ⟨d, c, many, rfl, ⟨n, r, s, ns, h1, h2, h3, h4, h5, h6⟩, m1, m2, q⟩ := h
    have hu := huOf hr
    refine ⟨_, PSs.nox (pss_cut (ps_if (PW.pt (pw_and (pt_cmpR (op_eqU K rfl hu) (pe_dget (hu1 hu) (pv 0) pe_str (fun _ _ => rfl)) pe_int (nomark _)) (pw_and1 (pt_cmpR (op_lt) (pe_dget (hu1 hu) (pv 0) pe_str (fun _ _ => rfl)) (pe_callB (call_lenU K rfl) (by rfl) E.n_len boot_len (pa_cons (pe_dget (hu1 hu) (pv 0) pe_str (fun _ _ => rfl)) pa_nil)) (nomark _))))) (pss_cons (ps_set (i := 2) sc__law_pick.nd rfl (Or.inl rfl) (pe_ix (ix_U K rfl) (pe_dget (hu1 hu) (pv 0) pe_str (fun _ _ => rfl)) (pe_dget (hu1 hu) (pv 0) pe_str (fun _ _ => rfl)) (fun _ _ => rfl)))
(pss_cons (ps_dput (hu1 hu) (pv 0) pe_str (pe_op (op_addU K rfl) (pe_dget (hu1 hu) (pv 0) pe_str (fun _ _ => rfl)) pe_int) rfl)
(pss_one (ps_if (pt_cmpR (op_ge) (pv 2) (pe_op op_pow pe_int pe_int) (nomark _)) (pss_one (ps_dput (hu1 hu) (pv 0) pe_str (pv 2) rfl)) (pss_one (ps_dput (hu1 hu) (pv 0) pe_str (pe_op op_mod (pe_op (op_addU K rfl) (pe_op (op_addU K rfl) (pe_op op_mul (pe_dget (hu1 hu) (pv 0) pe_str (fun _ _ => rfl)) pe_int) (pe_op op_mul (pv 2) pe_int)) pe_int) pe_int) rfl)))))) pss_nil)
(pss_cons (ps_if (pt_cmpR (op_gt) (pe_dget (hu1 hu) (pv 0) pe_str (fun _ _ => rfl)) pe_int (nomark _)) (pss_cons (ps_set (i := 3) sc__law_pick.nd rfl (Or.inl rfl) (pe_op op_mod (pe_dget (hu1 hu) (pv 0) pe_str (fun _ _ => rfl)) (pv 1)))
(pss_cons (ps_dput (hu1 hu) (pv 0) pe_str (pe_op op_fdivW (pe_dget (hu1 hu) (pv 0) pe_str (fun _ _ => rfl)) (pv 1)) rfl)
(pss_one (ps_ret (pv 3))))) pss_nil)
(pss_cons (ps_set (i := 4) sc__law_pick.nd rfl (Or.inl rfl) (pe_op op_mod (pe_op op_mul (pe_dget (hu1 hu) (pv 0) pe_str (fun _ _ => rfl)) (pe_dget (hu1 hu) (pv 0) pe_str (fun _ _ => rfl))) pe_int))
(pss_cons (ps_dput (hu1 hu) (pv 0) pe_str (pe_op op_mod (pe_op (op_addU K rfl) (pe_op (op_addU K rfl) (pe_op op_mul (pv 4) pe_int) (pe_op op_mul (pe_dget (hu1 hu) (pv 0) pe_str (fun _ _ => rfl)) pe_int)) pe_int) pe_int) rfl)
(pss_one (ps_ret (pe_op op_mod (pe_op op_fdivW (pe_dget (hu1 hu) (pv 0) pe_str (fun _ _ => rfl)) pe_int) (pv 1)))))))), ?_⟩
    refine k_body (s1 := [some (.ref d), some (.int many), none, none, none]) rfl ?_
    refine k_cut (fun σ H' => ∃ (n r s : Int) (v : Option V), σ = [some (.ref d), some (.int many), v, none, none] ∧ Keep d H H' ∧ H' d = some (.dK (dd c n r s)) ∧ H' c = some (.lst (ns.map V.int)) ∧ 0 ≤ n ∧ 0 ≤ r ∧ 0 ≤ s ∧ s < 2305843009213693951) ?_ ?_
    · walk_at "w"
      refine k_getS h1 dd_rest ?_
      walk_at "w"
      refine k_itd (fun hr0 => ?_) (fun hr0 => ?_)
      · walk_at "w"
        refine k_getS h1 dd_at ?_
        walk_at "w"
        refine k_getS h1 dd_cells ?_
        walk_at "w"
        refine k_lenL (sql_of h2) ?_
        walk_at "w"
        refine k_itd (fun hl => ?_) (fun hl => ?_)
        · rw [List.length_map] at hl
          obtain ⟨k, rfl⟩ : ∃ k : Nat, n = (k : Int) := ⟨n.toNat, by omega⟩
          have hk : k < ns.length := by omega
          walk_at "w"
          refine k_getS h1 dd_cells ?_
          walk_at "w"
          refine k_getS h1 dd_at ?_
          walk_at "w"
          refine k_ixL (sql_of h2) (atI_nat (v := .int ns[k]) (by rw [List.getElem?_map, List.getElem?_eq_getElem hk]; rfl)) ?_
          walk_at "w"
          refine k_getS h1 dd_at ?_
          walk_at "w"
          refine k_putS h1 dd_len ?_
          rw [dd_put_at]
          have g1 : Keep d H (upd H d (.dK (dd c (k + 1) r s))) := Keep.put Keep.refl
          have nc : c ≠ d := ne_of h2 h1 (by intro z; cases z)
          have g2 : upd H d (.dK (dd c (k + 1) r s)) c = some (.lst (ns.map V.int)) := g1.at nc h2
          walk_at "w"
          refine k_powL (v := 1000000000000000000) (by decide) (by decide) (by decide) ?_
          walk_at "w"
          refine k_itd (fun hb => ?_) (fun hb => ?_)
          · walk_at "w"
            refine k_putS upd_same dd_len ?_
            rw [dd_put_rest]
            exact ⟨_, _, _, _, rfl, Keep.put g1, upd_same, (Keep.put Keep.refl : Keep d _ _).at nc g2, by omega, by omega, h5, h6⟩
          · walk_at "w"
            refine k_getS upd_same dd_seed ?_
            walk_at "w"
            refine k_putS upd_same dd_len ?_
            rw [dd_put_seed]
            exact ⟨_, _, _, _, rfl, Keep.put g1, upd_same, (Keep.put Keep.refl : Keep d _ _).at nc g2, by omega, by omega, by omega, by omega⟩
        · walk_at "w"
          exact ⟨_, _, _, _, rfl, Keep.refl, h1, h2, h3, h4, h5, h6⟩
      · walk_at "w"
        exact ⟨_, _, _, _, rfl, Keep.refl, h1, h2, h3, h4, h5, h6⟩
    · rintro σ' H' ⟨n, r, s, v, rfl, k, h1, h2, h3, h4, h5, h6⟩
      walk_at "w"
      refine k_getS h1 dd_rest ?_
      walk_at "w"
      refine k_itd (fun hr0 => ?_) (fun hr0 => ?_)
      · walk_at "w"
        refine k_getS h1 dd_rest ?_
        walk_at "w"
        refine k_getS h1 dd_rest ?_
        walk_at "w"
        refine k_fdiv m1 m2 ?_
        walk_at "w"
        refine k_putS h1 dd_len ?_
        rw [dd_put_rest]
        walk_at "w"
        exact q _ _ (Keep.put k) ⟨n, _, s, ns, upd_same, (Keep.put Keep.refl : Keep d _ _).at (ne_of h2 h1 (by intro z; cases z)) h2, h3, Int.ediv_nonneg h4 (by omega), h5, h6⟩ (Int.emod_nonneg _ (by omega)) (Int.emod_lt_of_pos _ m1)
      · walk_at "w"
        refine k_getS h1 dd_seed ?_
        walk_at "w"
        refine k_getS h1 dd_seed ?_
        refine k_mulR (by omega) ?_
        walk_at "w"
        refine k_getS h1 dd_seed ?_
        walk_at "w"
        refine k_putS h1 dd_len ?_
        rw [dd_put_seed]
        walk_at "w"
        refine k_getS upd_same dd_seed ?_
        walk_at "w"
        refine k_fdiv (by decide) (by decide) ?_
        walk_at "w"
        exact q _ _ (Keep.put k) ⟨n, r, _, ns, upd_same, (Keep.put Keep.refl : Keep d _ _).at (ne_of h2 h1 (by intro z; cases z)) h2, h3, h4, Int.emod_nonneg _ (by omega), Int.emod_lt_of_pos _ (by omega)⟩ (Int.emod_nonneg _ (by omega)) (Int.emod_lt_of_pos _ m1)
end
end Lw
-- own part: lw5
namespace Lw
open PySem PySem.Spec PyProof.Rows L2 Ls
section
variable {P : Program} {w : World} {K : PySem.W.Frag} {mg : Str → Option Value} {base : Heap}
theorem ok__law_begin (E : Env K mg) : FnOk P w K mg base CX0 1 E.a__law_begin E.fd__law_begin ["_law_script"] (spBegin K) := by
  refine E.F__law_begin.ok sc__law_begin (fun vs H Q E h => ?_) (fun cdv A outer s H vs Q E' hr h => ?_)
  · obtain ⟨d, m, rfl, _⟩ := h
    rfl
  · obtain ⟨a, ns, rfl, h1, h2, q⟩ := h
    have hu := huOf hr
    refine ⟨_, PSs.nox (pss_cons (ps_set (i := 1) sc__law_begin.nd rfl (Or.inl rfl) pe_int)
(pss_cons (ps_for PassesOwn.never rfl (kIL K rfl (pi_list (pe_slice (sl_U K rfl) (pv 0) po_none (po_some pe_int)))) (pg_name (i := 2) sc__law_begin.nd rfl (Or.inl rfl))
(pss_one (ps_set (i := 1) sc__law_begin.nd rfl (Or.inl rfl) (pe_op op_mod (pe_op (op_addU K rfl) (pe_op (op_addU K rfl) (pe_op op_mul (pv 1) pe_int) (pe_op op_mul (pv 2) pe_int)) pe_int) pe_int))))
(pss_one (ps_ret (pe_disp (pps_cons pe_str (pe_callTy (call_listU K rfl) (by rfl) E.n_list boot_list (pa_cons (pe_slice (sl_U K rfl) (pv 0) po_none (po_some pe_int)) pa_nil)) (pps_cons pe_str pe_int (pps_cons pe_str pe_int (pps_cons pe_str (pv 1) pps_nil)))) (by rfl) (by rfl) (by simp) (by decide)))))), ?_⟩
    refine k_body (s1 := [some (.ref a), none, none]) rfl ?_
    walk_at "w"
    refine k_slL h1 ?_
    rw [cut_all (by rw [List.length_map]; omega)]
    intro p hp
    refine k_itl (sql_of upd_same) ?_
    refine for_list (xs := ns.map V.int) (fun i σ H' => ∃ (s : Int) (c : Option V), σ = [some (.ref a), some (.int s), c] ∧ 0 ≤ s ∧ s < 2305843009213693951 ∧ Same H H' ∧ H' p = some (.lst (ns.map V.int))) ⟨_, _, rfl, by decide, by decide, same_new hp, upd_same⟩ (fun i σ H' _ hP => ?_) (fun i x σ H' hx hP => ?_) (fun σ H' hP => ?_)
    · obtain ⟨s, c, rfl, p1, p2, p3, p4⟩ := hP
      exact sql_of p4
    · obtain ⟨s, c, rfl, p1, p2, p3, p4⟩ := hP
      rw [List.getElem?_map] at hx
      obtain ⟨n, hn, rfl⟩ := Option.map_eq_some_iff.mp hx
      walk_at "w"
      exact ⟨_, _, rfl, Int.emod_nonneg _ (by decide), Int.emod_lt_of_pos _ (by decide), p3, p4⟩
    · obtain ⟨s, c, rfl, p1, p2, p3, p4⟩ := hP
      walk_at "w"
      refine k_disp ?_
      intro d hd
      refine k_prs ?_
      walk_at "w"
      refine k_slL (sql_same (same_new hd) (sql_same p3 h1)) ?_
      rw [cut_all (by rw [List.length_map]; omega)]
      intro pc hpc
      walk_at "w"
      refine k_list (sql_of upd_same) ?_
      intro pl hpl
      refine k_prs ?_
      walk_at "w"
      refine k_prs ?_
      walk_at "w"
      refine k_prs ?_
      walk_at "w"
      refine k_prn ?_
      have hd2 : upd (upd (upd H' d (.dK [])) pc (.lst (ns.map V.int))) pl (.lst (ns.map V.int)) d = some (.dK []) := by walk_at "hg"
      refine ⟨hd2, dd pl 0 0 s, rfl, by show 4 ≤ 15; decide, ?_⟩
      rw [dd_merge]
      refine q _ _ _ ?_ (Same.free p3 (Same.free (same_new hd) (Same.free (same_new hpc) hpl))) ?_ ?_
      · walk_at "fr"
      · walk_at "sm"
      · refine ⟨0, 0, s, ns, upd_same, ?_, by decide, by decide, p1, p2⟩
        rw [upd_ne (ne_of upd_same hd2 (by intro z; cases z))]
        exact upd_same
end
end Lw
-- own part: lw5b
namespace Lw
open PySem PySem.Spec PyProof.Rows L2 Ls
section
variable {P : Program} {w : World} {K : PySem.W.Frag} {mg : Str → Option Value} {base : Heap}
theorem ok__law_of (E : Env K mg) (G__law_pick : FnOk P w K mg base CX0 1 E.a__law_pick E.fd__law_pick ["_law_d", "_law_many"] (spPick K)) : FnOk P w K mg base CX0 2 E.a__law_of E.fd__law_of ["_law_d", "_law_things"] (spOf K) := by
  refine E.F__law_of.ok sc__law_of (fun vs H Q E h => ?_) (fun cdv A outer s H vs Q E' hr h => ?_)
  · obtain ⟨d, c, m, xs, rfl, _⟩ := h
    rfl
  · obtain ⟨d, c, l, xs, rfl, hD, hl, h0, hn, q⟩ := h
    have hu := huOf hr
    have hr__law_pick := hr.mono (Nat.le_refl _)
    have b__law_pick := b__law_pick E
    refine ⟨_, PSs.nox (pss_one (ps_ret (pe_ix (ix_U K rfl) (pv 1) (pe_call G__law_pick hr__law_pick rfl E.g__law_pick E.F__law_pick.kp b__law_pick .nil pass0 (pa_cons (pv 0) (pa_cons (pe_callB (call_lenU K rfl) (by rfl) E.n_len boot_len (pa_cons (pv 1) pa_nil)) pa_nil))) (fun _ _ => rfl)))), ?_⟩
    refine k_body (s1 := [some (.ref d), some (.ref l)]) rfl ?_
    walk_at "w"
    refine k_lenL hl ?_
    walk_at "w"
    refine use_pick hD (by omega) (by omega) fun r H1 k1 D1 r0 r1 => ?_
    obtain ⟨k, rfl⟩ := Int.eq_ofNat_of_zero_le r0
    have hk : k < xs.length := by omega
    refine k_ixL (hD.sql k1 hl) (atI_nat (List.getElem?_eq_getElem hk)) ?_
    exact q _ _ k1 D1 (List.getElem_mem hk)
end
end Lw
-- own part: lw3
namespace Lw
open PySem PySem.Spec PyProof.Rows L2 Ls
section
variable {P : Program} {w : World} {K : PySem.W.Frag} {mg : Str → Option Value} {base : Heap}
theorem same_turn (E : Env K mg) (n : Nat) {sp : Sp} (G__law_same : FnOk P w K mg base CX0 n E.a__law_same E.fd__law_same ["_law_found", "_law_due"] sp)
    (use : ∀ (x y : V) (d : PyData) (H : Hp) (Q : VK) (E : XK) (m : Nat), n = m + 1 → Dp K H x d → Dp K H y d → OkD m d → (∀ H', Same H H' → Q (.bl true) H') → sp ([x, y] ++ []) H Q E) :
    FnOk P w K mg base CX0 (n + 1) E.a__law_same E.fd__law_same ["_law_found", "_law_due"] (spSame K n) := by
  refine E.F__law_same.ok sc__law_same (fun vs H Q E h => ?_) (fun cdv A outer s H vs Q E' hr h => ?_)
  · obtain ⟨x, y, d, rfl, _⟩ := h
    rfl
  · obtain ⟨x, y, d, rfl, hx, hy, hd, q⟩ := h
    have hu := huOf hr
    have b__law_same := b__law_same E
    have hr__law_same := hr
    refine ⟨_, PSs.nox (pss_cons (ps_if (pt_cmpR (op_isU) (pv 1) pe_non (nomark _)) (pss_one (ps_ret (pe_cmpR (op_isU) (pv 0) pe_non (nomark _)))) pss_nil)
(pss_cons (ps_if (PW.pt (pw_or (pt_val (pe_callB (call_isiU K rfl) (by rfl) E.n_isinstance boot_isinstance (pa_cons (pv 1) (pa_cons (pe_ty "bool" rfl E.n_bool (by decide +kernel)) pa_nil)))) (pw_or1 (pt_val (pe_callB (call_isiU K rfl) (by rfl) E.n_isinstance boot_isinstance (pa_cons (pv 0) (pa_cons (pe_ty "bool" rfl E.n_bool (by decide +kernel)) pa_nil))))))) (pss_one (ps_ret (pe_and (pe_callB (call_isiU K rfl) (by rfl) E.n_isinstance boot_isinstance (pa_cons (pv 1) (pa_cons (pe_ty "bool" rfl E.n_bool (by decide +kernel)) pa_nil))) (pe_and (pe_callB (call_isiU K rfl) (by rfl) E.n_isinstance boot_isinstance (pa_cons (pv 0) (pa_cons (pe_ty "bool" rfl E.n_bool (by decide +kernel)) pa_nil))) (pe_one (pe_cmpR (op_eqU K rfl hu) (pv 0) (pv 1) (nomark _))))))) pss_nil)
(pss_cons (ps_if (pt_val (pe_callB (call_isiTU K rfl) (by rfl) E.n_isinstance boot_isinstance (pa_cons (pv 1) (pa_cons (pe_tup (pa_cons (pe_ty "int" rfl E.n_int (by decide +kernel)) (pa_cons (pe_ty "str" rfl E.n_str (by decide +kernel)) pa_nil))) pa_nil)))) (pss_one (ps_ret (pe_and (pe_callB (call_isiTU K rfl) (by rfl) E.n_isinstance boot_isinstance (pa_cons (pv 0) (pa_cons (pe_tup (pa_cons (pe_ty "int" rfl E.n_int (by decide +kernel)) (pa_cons (pe_ty "str" rfl E.n_str (by decide +kernel)) pa_nil))) pa_nil))) (pe_and (pe_cmpR (op_eqU K rfl hu) (pe_callB (call_isiU K rfl) (by rfl) E.n_isinstance boot_isinstance (pa_cons (pv 0) (pa_cons (pe_ty "int" rfl E.n_int (by decide +kernel)) pa_nil))) (pe_callB (call_isiU K rfl) (by rfl) E.n_isinstance boot_isinstance (pa_cons (pv 1) (pa_cons (pe_ty "int" rfl E.n_int (by decide +kernel)) pa_nil))) (nomark _)) (pe_one (pe_cmpR (op_eqU K rfl hu) (pv 0) (pv 1) (nomark _))))))) pss_nil)
(pss_cons (ps_if (PW.pt (pw_or (pt_cmpR (op_neU K rfl hu) (pe_callB (call_isiU K rfl) (by rfl) E.n_isinstance boot_isinstance (pa_cons (pv 1) (pa_cons (pe_ty "list" rfl E.n_list (by decide +kernel)) pa_nil))) (pe_callB (call_isiU K rfl) (by rfl) E.n_isinstance boot_isinstance (pa_cons (pv 0) (pa_cons (pe_ty "list" rfl E.n_list (by decide +kernel)) pa_nil))) (nomark _)) (pw_or1 (pt_cmpR (op_neU K rfl hu) (pe_callB (call_isiU K rfl) (by rfl) E.n_isinstance boot_isinstance (pa_cons (pv 1) (pa_cons (pe_ty "tuple" rfl E.n_tuple (by decide +kernel)) pa_nil))) (pe_callB (call_isiU K rfl) (by rfl) E.n_isinstance boot_isinstance (pa_cons (pv 0) (pa_cons (pe_ty "tuple" rfl E.n_tuple (by decide +kernel)) pa_nil))) (nomark _))))) (pss_one (ps_ret pe_bl)) pss_nil)
(pss_one (ps_ret (pe_and (pe_cmpR (op_eqU K rfl hu) (pe_callB (call_lenU K rfl) (by rfl) E.n_len boot_len (pa_cons (pv 0) pa_nil)) (pe_callB (call_lenU K rfl) (by rfl) E.n_len boot_len (pa_cons (pv 1) pa_nil)) (nomark _)) (pe_one (pe_callB (cr_allU K rfl rfl) (by rfl) E.n_all boot_all (pa_cons (pe_lc (own := [("_law_k", 2)]) rfl sc__law_same.nd (pi_range1 rfl E.n_range (pa_cons (pe_callB (call_lenU K rfl) (by rfl) E.n_len boot_len (pa_cons (pv 1) pa_nil)) pa_nil)) (blkOk_by (N := ["_law_found", "_law_due", "_law_k"]) (sc := defScope s__law_same) (by decide +kernel)) (fun _ _ _ _ _ => (pg_name (i := 2) sc__law_same.nd rfl (Or.inl rfl))) (fun _ _ _ _ _ => pts_nil) (fun _ _ _ _ _ => (pe_call G__law_same hr__law_same rfl E.g__law_same E.F__law_same.kp b__law_same .nil pass0 (pa_cons (pe_ix (ix_U K rfl) (pv 0) (pv 2) (fun _ _ => rfl)) (pa_cons (pe_ix (ix_U K rfl) (pv 1) (pv 2) (fun _ _ => rfl)) pa_nil))))) pa_nil)))))))))), ?_⟩
    refine k_body (s1 := [some x, some y, none]) rfl ?_
    have two : d = .none ∨ (∃ b, d = .bool b) ∨ (∃ i, d = .int i) ∨ (∃ z, d = .str z) ∨ ∃ (a c : Addr) (xs ys : List V) (ds : List PyData) (m : Nat) (U : String) (bL bT : Bool), n = m + 1 ∧ x = .ref a ∧ y = .ref c ∧ (SqL K H a xs ∨ SqT K H a xs) ∧ (SqL K H c ys ∨ SqT K H c ys) ∧ DpAll K H xs ds ∧ DpAll K H ys ds ∧
        ds.length ≤ 100000 ∧ (∀ e ∈ ds, OkD m e) ∧ tyn d = U ∧ kitB U "bool" = some false ∧ kitB U "int" = some false ∧ kitB U "str" = some false ∧ kitB U "list" = some bL ∧ kitB U "tuple" = some bT := by
      cases d with
      | none => exact .inl rfl
      | bool b => exact .inr (.inl ⟨b, rfl⟩)
      | int i => exact .inr (.inr (.inl ⟨i, rfl⟩))
      | str z => exact .inr (.inr (.inr (.inl ⟨z, rfl⟩)))
      | list ds =>
        cases n with
        | zero => exact hd.elim
        | succ m =>
          cases hx with
          | lst h1 h2 =>
            cases hy with
            | lst h3 h4 => exact .inr (.inr (.inr (.inr ⟨_, _, _, _, ds, m, _, _, _, rfl, rfl, rfl, .inl h1, .inl h3, h2, h4, hd.1, hd.2, rfl, kt_list_bool, kt_list_int, kt_list_str, kt_list_list, kt_list_tuple⟩)))
      | tuple ds =>
        cases n with
        | zero => exact hd.elim
        | succ m =>
          cases hx with
          | tup h1 h2 =>
            cases hy with
            | tup h3 h4 => exact .inr (.inr (.inr (.inr ⟨_, _, _, _, ds, m, _, _, _, rfl, rfl, rfl, .inr h1, .inr h3, h2, h4, hd.1, hd.2, rfl, kt_tuple_bool, kt_tuple_int, kt_tuple_str, kt_tuple_list, kt_tuple_tuple⟩)))
      | dict i => cases n <;> exact hd.elim
    walk_at "w"
    rcases two with rfl | ⟨b, rfl⟩ | ⟨i, rfl⟩ | ⟨z, rfl⟩ | ⟨a, c, xs, ys, ds, m, U, bL, bT, rfl, rfl, rfl, sx, sy, ax, ay, hl, hds, e0, eb, ei, es, eL, eT⟩
    · cases hx
      cases hy
      refine k_pos rfl ?_
      walk_at "w"
      exact q H (Same.refl H)
    · cases hx
      cases hy
      refine k_neg' (by simp) ?_
      walk_at "w"
      refine k_isi (.bl b) rfl kt_bool_bool ?_
      walk_at "w"
      refine k_isi (.bl b) rfl kt_bool_bool ?_
      walk_at "w"
      refine k_isi (.bl b) rfl kt_bool_bool ?_
      walk_at "w"
      simp only [decide_true]
      exact q H (Same.refl H)
    · cases hx
      cases hy
      refine k_neg' (by simp) ?_
      walk_at "w"
      refine k_isi (.int i) rfl kt_int_bool ?_
      walk_at "w"
      refine k_isi (.int i) rfl kt_int_bool ?_
      walk_at "w"
      intro t nt
      walk_at "w"
      refine k_isi2 (b := true) (.int i) upd_same rfl kt_int_int kt_int_str rfl ?_
      walk_at "w"
      intro t2 nt2
      walk_at "w"
      refine k_isi2 (b := true) (.int i) upd_same rfl kt_int_int kt_int_str rfl ?_
      walk_at "w"
      refine k_isi (.int i) rfl kt_int_int ?_
      walk_at "w"
      refine k_isi (.int i) rfl kt_int_int ?_
      walk_at "w"
      refine k_pos rfl ?_
      walk_at "w"
      simp only [decide_true]
      exact q _ ((same_new nt).trans (same_new nt2))
    · cases hx
      cases hy
      refine k_neg' (by simp) ?_
      walk_at "w"
      refine k_isi (.str z) rfl kt_str_bool ?_
      walk_at "w"
      refine k_isi (.str z) rfl kt_str_bool ?_
      walk_at "w"
      intro t nt
      walk_at "w"
      refine k_isi2 (b := true) (.str z) upd_same rfl kt_str_int kt_str_str rfl ?_
      walk_at "w"
      intro t2 nt2
      walk_at "w"
      refine k_isi2 (b := true) (.str z) upd_same rfl kt_str_int kt_str_str rfl ?_
      walk_at "w"
      refine k_isi (.str z) rfl kt_str_int ?_
      walk_at "w"
      refine k_isi (.str z) rfl kt_str_int ?_
      walk_at "w"
      refine k_pos rfl ?_
      walk_at "w"
      simp only [decide_true]
      exact q _ ((same_new nt).trans (same_new nt2))
    · refine k_neg' (by simp) ?_
      walk_at "w"
      refine k_isi hy e0 eb ?_
      walk_at "w"
      refine k_isi hx e0 eb ?_
      walk_at "w"
      intro t nt
      have s1 := same_new (o := .tup [.ty "int", .ty "str"]) nt
      walk_at "w"
      refine k_isi2 (b := false) (dp_same s1 hy) upd_same e0 ei es rfl ?_
      walk_at "w"
      refine k_isi (dp_same s1 hy) e0 eL ?_
      walk_at "w"
      refine k_isi (dp_same s1 hx) e0 eL ?_
      walk_at "w"
      refine k_nneg rfl ?_
      walk_at "w"
      refine k_isi (dp_same s1 hy) e0 eT ?_
      walk_at "w"
      refine k_isi (dp_same s1 hx) e0 eT ?_
      walk_at "w"
      refine k_nneg rfl ?_
      walk_at "w"
      refine k_lenE (seq_same s1 sx) ?_
      walk_at "w"
      refine k_lenE (seq_same s1 sy) ?_
      walk_at "w"
      refine k_pos (by rw [DpAll.length' ax, DpAll.length' ay]) ?_
      walk_at "w"
      refine k_lenE (seq_same s1 sy) ?_
      walk_at "w"
      have ly := DpAll.length' ay
      refine k_itr1 (by omega) ?_
      intro D hD
      have s2 := s1.trans (same_new (o := .lst []) hD)
      refine lc_range (fun i H' => Same H H' ∧ H D = none ∧ H' D = some (.lst (List.replicate i (V.bl true)))) ⟨s2, s1.free hD, upd_same⟩ (fun i H' hi hP => ?_) (fun H' hP => ?_)
      · obtain ⟨p1, p2, p3⟩ := hP
        walk_at "lc"
        have hi' : i < ds.length := by omega
        obtain ⟨v, hv, dv⟩ := DpAll.getD' ax (List.getElem?_eq_getElem hi')
        obtain ⟨u, hu', du⟩ := DpAll.getD' ay (List.getElem?_eq_getElem hi')
        refine k_ixE (seq_same p1 sx) (at_of (by omega) hv) ?_
        walk_at "w"
        refine k_ixE (seq_same p1 sy) (at_of (by omega) hu') ?_
        walk_at "w"
        refine use _ _ _ _ _ _ m rfl (dp_same p1 dv) (dp_same p1 du) (hds _ (List.getElem_mem hi')) fun H2 s3 => ?_
        refine ⟨_, s3 _ _ p3, ?_, ?_⟩
        · rw [List.length_replicate, sizeLine_eq]
          omega
        · refine ⟨fun b o e => ?_, p2, ?_⟩
          · rw [upd_ne (ne_of_none e p2)]
            exact s3 _ _ (p1 _ _ e)
          · rw [upd_same, List.replicate_succ']
      · obtain ⟨p1, p2, p3⟩ := hP
        walk_at "w"
        refine k_all (bs := List.replicate (ys.length : Int).toNat true) (by rw [List.map_replicate]; exact sql_of p3) ?_
        have ea : (List.replicate (ys.length : Int).toNat true).all id = true := by
          rw [List.all_eq_true]
          intro x hx
          rw [List.eq_of_mem_replicate hx]
          rfl
        rw [ea]
        exact q _ p1
theorem ok__law_same (E : Env K mg) : ∀ n : Nat, FnOk P w K mg base CX0 (n + 1) E.a__law_same E.fd__law_same ["_law_found", "_law_due"] (spSame K n)
  | 0 => same_turn E 0 (sp := fun _ _ _ _ => False) ⟨fun _ _ _ _ h => h.elim, fun _ _ _ _ _ _ _ _ _ _ _ _ _ h => h.elim⟩ fun x y d H Q E m hm => by omega
  | n + 1 => same_turn E (n + 1) (ok__law_same E n) fun x y d H Q E m hm h1 h2 h3 q => by
    cases hm
    exact use_same h1 h2 h3 q
end
end Lw
set_option hygiene false
local macro_rules | `(tactic| walk_at "mem") => `(tactic| first
  | (with_reducible exact List.mem_cons_self)
  | assumption
  | (with_reducible refine' List.mem_cons_of_mem _ ?mx; (case mx => walk_at "mem")))
local macro_rules | `(tactic| walk_at "om") => `(tactic| first | omega | decide | (simp only [List.length_cons, List.length_nil, List.length_append, List.length_map] <;> omega))
local macro_rules | `(tactic| walk_at "dat") => `(tactic| (with_reducible first
  | exact Dat.int _ | exact Dat.str _ | exact Dat.non | exact Dat.bl _
  | (refine' Dat.im ?dx; (case dx => walk_at "mem"))))
local macro_rules | `(tactic| walk_at "dats") => `(tactic| first
  | (with_reducible exact DatAll.nil)
  | (with_reducible refine' DatAll.cons ?da ?db; (case da => walk_at "dat"); (case db => walk_at "dats")))
local macro_rules | `(tactic| walk_at "dl") => `(tactic| first
  | (refine' Dl.dat ?dx; (case dx => walk_at "dat"))
  | (refine' Dl.ld ?dx; (case dx => walk_at "mem")))
local macro_rules | `(tactic| walk_at "rep") => `(tactic| first
  | (with_reducible exact Rep.here)
  | (with_reducible refine' Rep.there ?rx; (case rx => walk_at "rep")))
local macro_rules | `(tactic| walk_at "rem") => `(tactic| first
  | (with_reducible exact Rem.here)
  | (with_reducible refine' Rem.there ?rx; (case rx => walk_at "rem")))
local macro_rules | `(tactic| walk_at "sub") => `(tactic| first
  | (with_reducible exact Sub.refl)
  | (with_reducible exact Sub.nil)
  | (with_reducible refine' Sub.rem ?rr ?rs; (case rr => walk_at "rem"); (case rs => walk_at "sub"))
  | (with_reducible refine' Sub.dup ?rr ?rs; (case rr => walk_at "mem"); (case rs => walk_at "sub"))
  | (with_reducible refine' Sub.drop ?rx; (case rx => walk_at "sub")))
local macro_rules | `(tactic| walk_at "fl") => `(tactic| first | (with_unfolding_all exact Nat.le_of_ble_eq_true rfl) | with_unfolding_all decide | (simp only [List.length_cons, List.length_nil]; omega))
local macro_rules | `(tactic| walk_at "pf") => `(tactic| rfl)
local macro_rules | `(tactic| walk_at "gv") => `(tactic| (dsimp only [Gv, GvAll, List.nil_append, List.cons_append, List.append_nil]; first
  | refine fun (hS : Ls.Sep _ _) => ?_
  | refine fun v (hS : Ls.Sep _ _) => ?_
  | refine fun v1 v2 (hS : Ls.Sep _ _) => ?_
  | refine fun v1 v2 v3 (hS : Ls.Sep _ _) => ?_))
local macro_rules | `(tactic| walk_at "sa") => `(tactic| (refine fun p (hp : _ = none) => ?_; first
  | (rw [updT_eq p]; (generalize he : updT _ p _ = H'); (first | (refine' andThen (ar_I hS hp he ?dt) ?_; (case dt => walk_at "dats")) | (refine' andThen (ar_T hS hp he) ?_)); clear he hp hS; refine fun hS => ?_)
  | (rw [updL_eq p]; (generalize he : updL _ p _ = H'); (first | (refine' andThen (ar_L hS hp he ?dt) ?_; (case dt => walk_at "dats")) | (refine' andThen (ar_O hS hp he) ?_)); clear he hp hS; refine fun hS => ?_)
  | (rw [updK_eq p]; (generalize he : updK _ p _ = H'); (refine' andThen (ar_K hS hp he) ?_); clear he hp hS; refine fun hS => ?_)))
local macro_rules | `(tactic| walk_at "sr") => `(tactic| with_reducible first
  | (refine' k_lenD hS ?sm ?_; (case sm => walk_at "mem"))
  | (refine' k_lenI hS ?sm ?_; (case sm => walk_at "mem"))
  | (refine' k_lenO hS ?sm ?_; (case sm => walk_at "mem"))
  | (refine' k_lenK hS ?sm ?_; (case sm => walk_at "mem"))
  | (refine' k_ixS' hS ?sm ?se ?_; (case sm => walk_at "mem"); (case se => with_unfolding_all rfl); clear hS; walk_at "gv")
  | (refine' k_ixD hS ?sm ?se ?_; (case sm => walk_at "mem"); (case se => with_unfolding_all rfl); clear hS; walk_at "gv")
  | (refine' k_ixTu hS ?sm ?se ?_; (case sm => walk_at "mem"); (case se => with_unfolding_all rfl))
  | (refine' k_gtupS hS ?sm ?se ?_; (case sm => walk_at "mem"); (case se => with_unfolding_all rfl); clear hS; walk_at "gv")
  | (refine' k_gtupO hS ?sm ?se ?_; (case sm => walk_at "mem"); (case se => with_unfolding_all rfl))
  | (refine' k_tyD hS ?sm ?_; (case sm => walk_at "mem"))
  | (refine' k_tyO hS ?sm ?_; (case sm => walk_at "mem"))
  | (refine' k_appD hS ?sr ?st ?sl ?_; (case sr => walk_at "rep"); (case st => walk_at "dat"); (case sl => walk_at "sz"); clear hS; refine fun H' hS => ?_)
  | (refine' k_appO hS ?sr ?sl ?_; (case sr => walk_at "rep"); (case sl => walk_at "sz"); clear hS; refine fun H' hS => ?_)
  | refine k_chain3 ?_ | refine k_istr ?_ | refine k_istX ?_ | refine k_inSg ?_ | refine k_non ?_
  | (refine' k_fldS hS ?sm ?sc ?sn ?se ?_; (case sm => walk_at "mem"); (case sc => assumption); (case sn => assumption); (case se => with_unfolding_all rfl))
  | (refine' k_fldF hS ?sm ?sc ?sn ?se ?_; (case sm => walk_at "mem"); (case sc => assumption); (case sn => assumption); (case se => with_unfolding_all rfl))
  | (refine' k_fldA hS ?sm ?sc ?sn ?se ?_; (case sm => walk_at "mem"); (case sc => assumption); (case sn => assumption); (case se => with_unfolding_all rfl))
  | (refine' k_putS' hS ?sr ?sc ?sn ?sl ?se ?_; (case sr => walk_at "rep"); (case sc => assumption); (case sn => assumption); (case sl => walk_at "fl"); (case se => walk_at "pf"); clear hS; refine fun H' hS => ?_)
  | (refine' k_putG hS ?sr ?sc ?sn ?sl ?se ?_; (case sr => walk_at "rep"); (case sc => assumption); (case sn => assumption); (case sl => walk_at "fl"); (case se => walk_at "pf"); clear hS; refine fun H' hS => ?_)
  | (refine' k_recvP (Z := ⟨E.C_Kind, E.C_Page, E.C_Lane⟩) hS ?sm ?se ?_; (case sm => walk_at "mem"); (case se => (intro c; with_unfolding_all rfl)))
  | (refine' k_recvL (Z := ⟨E.C_Kind, E.C_Page, E.C_Lane⟩) hS ?sm ?se ?_; (case sm => walk_at "mem"); (case se => (intro b c; with_unfolding_all rfl)))
  | (refine' k_recvLA (Z := ⟨E.C_Kind, E.C_Page, E.C_Lane⟩) hS ?sm ?se ?_; (case sm => walk_at "mem"); (case se => (intro b c; with_unfolding_all rfl)))
  | (refine' k_kname hS ?sm ?sc ?sn ?_; (case sm => walk_at "mem"); (case sc => assumption); (case sn => assumption))
  | (refine' k_kfields hS ?sm ?sc ?sn ?_; (case sm => walk_at "mem"); (case sc => assumption); (case sn => assumption); clear hS; refine fun f hS => ?_)
  | (refine' k_madeT hS ?_; clear hS; refine fun x H hS => ?_)
  | (refine' k_recvK hS ?sm ?se ?_; (case sm => walk_at "mem"); (case se => (intro b; with_unfolding_all rfl)))
  | (refine' k_fldP (Z := ⟨E.C_Kind, E.C_Page, E.C_Lane⟩) hS ?sm ?sc ?sn ?se ?_; (case sm => walk_at "mem"); (case sc => assumption); (case sn => assumption); (case se => (intro c; with_unfolding_all rfl)))
  | (refine' k_fldL (Z := ⟨E.C_Kind, E.C_Page, E.C_Lane⟩) hS ?sm ?sc ?sn ?se ?_; (case sm => walk_at "mem"); (case sc => assumption); (case sn => assumption); (case se => (intro b c; with_unfolding_all rfl)))
  | (refine' k_augS hS ?sr ?sl ?se ?_; (case sr => walk_at "rep"); (case sl => walk_at "fl"); (case se => walk_at "pf"); clear hS; refine fun H' hS => ?_)
  | (refine' k_recvI hS ?sm ?se ?_; (case sm => walk_at "mem"); (case se => with_unfolding_all rfl))
  | (refine' k_recvF hS ?sm ?se ?_; (case sm => walk_at "mem"); (case se => with_unfolding_all rfl))
  | (refine' k_eqzO hS ?sm ?sn ?_; (case sm => walk_at "mem"); (case sn => walk_at "mem"))
  | (refine' k_nezO hS ?sm ?sn ?_; (case sm => walk_at "mem"); (case sn => walk_at "mem"))
  | (refine' k_eqzD hS ?sm ?sn ?_; (case sm => walk_at "mem"); (case sn => walk_at "mem"))
  | (refine' k_nezD hS ?sm ?sn ?_; (case sm => walk_at "mem"); (case sn => walk_at "mem"))
  | (refine' k_ixO hS ?sm ?se ?_; (case sm => walk_at "mem"); (case se => assumption))
  | (refine' k_ixD hS ?sm ?se ?_; (case sm => walk_at "mem"); (case se => assumption); clear hS; walk_at "gv")
  | (refine' k_popAtO hS ?sr ?se ?sb ?_; (case sr => walk_at "rep"); (case se => assumption); (case sb => walk_at "om"); clear hS; refine fun H' hS => ?_)
  | (refine' k_popO hS ?sr ?se ?_; (case sr => walk_at "rep"); (case se => assumption); clear hS; refine fun H' hS => ?_)
  | (refine' k_extO hS ?sr ?sm ?sl ?_; (case sr => walk_at "rep"); (case sm => walk_at "mem"); (case sl => walk_at "sz"); clear hS; refine fun H' hS => ?_)
  | (refine' k_setO hS ?sr ?se ?_; (case sr => walk_at "rep"); (case se => assumption); clear hS; refine fun H' hS => ?_)
  | (refine' k_slTu hS ?sm ?_; (case sm => walk_at "mem"); clear hS; refine fun p H' hS => ?_)
  | (refine' k_slI hS ?sm ?_; (case sm => walk_at "mem"); clear hS; refine fun p H' hS => ?_)
  | (refine' k_slD hS ?sm ?_; (case sm => walk_at "mem"); clear hS; refine fun p H' hS => ?_)
  | (refine' k_slO hS ?sm ?_; (case sm => walk_at "mem"); clear hS; refine fun p H' hS => ?_)
  | refine k_joinU ?_ | refine k_strX ?_ | refine k_iseq ?_ | refine k_enum ?_ | refine k_fld ?_ | refine k_sfld ?_ | refine k_gfld ?_ | refine k_gsub ?_ | refine k_makeK ?_ | (refine' k_aug ?se ?_; (case se => with_unfolding_all rfl); dsimp only [List.set_cons_succ, List.set_cons_zero]) | refine k_ipI ?_ | refine k_asg2 ?_ | refine k_sfldaug ?_ | refine k_meth ?_ | refine k_methN ?_ | refine k_make ?_ | refine k_inadd ?_ | refine k_insub ?_
  | (refine' k_glueS hS ?sm ?sl ?_; (case sm => walk_at "mem"); (case sl => walk_at "om"))
  | (refine' k_seqD hS ?sm ?_; (case sm => walk_at "mem"))
  | (refine' k_seqO hS ?sm ?_; (case sm => walk_at "mem"))
  | (refine' k_seqI hS ?sm ?_; (case sm => walk_at "mem"))
  | (refine' k_enD hS ?sm ?_; (case sm => walk_at "mem"))
  | (refine' k_enO hS ?sm ?_; (case sm => walk_at "mem"))
  | (refine' k_enI hS ?sm ?_; (case sm => walk_at "mem"))
  | (refine' k_tupleS hS ?sm ?_; (case sm => walk_at "mem"); clear hS; refine fun p H' hS => ?_)
  | (refine' k_listS hS ?sm ?_; (case sm => walk_at "mem"); clear hS; refine fun p H' hS => ?_)
  | (refine' k_listO hS ?sm ?_; (case sm => walk_at "mem"); clear hS; refine fun p H' hS => ?_)
  | refine k_min2 ?_ | refine k_max2 ?_
  | (refine' k_addD hS ?sm ?sn ?sl ?_; (case sm => walk_at "mem"); (case sn => walk_at "mem"); (case sl => walk_at "sz"); clear hS; refine fun p H' hS => ?_)
  | (refine' k_inS hS ?sm ?_; (case sm => walk_at "mem"))
  | (refine' k_notinS hS ?sm ?_; (case sm => walk_at "mem"))
  | (refine' k_inI hS ?sm ?_; (case sm => walk_at "mem"))
  | (refine' k_notinI hS ?sm ?_; (case sm => walk_at "mem"))
  | (refine k_fdiv ?sa ?sb ?_; (case sa => (first | omega | decide)); (case sb => (first | omega | decide)))
  | (refine k_itr1 ?se ?_; (case se => omega))
  | (refine' k_itlD hS ?sm ?_; (case sm => walk_at "mem"))
  | (refine' k_itlO hS ?sm ?_; (case sm => walk_at "mem"))
  | (refine' k_ittI hS ?sm ?_; (case sm => walk_at "mem")))
local macro_rules | `(tactic| walk_at "s") => `(tactic| repeat first | walk_at "w1" | walk_at "ar" | walk_at "sa" | walk_at "sr")
local macro_rules | `(tactic| walk_at "pk") => `(tactic| (refine' use_pickS hS ?sm ?sa ?sb ?_; (case sm => walk_at "mem"); (case sa => walk_at "om"); (case sb => walk_at "om"); clear hS))
local macro_rules | `(tactic| walk_at "ofI") => `(tactic| (refine' use_ofI hS ?sm ?sn ?si ?sa ?sb ?_; (case sm => walk_at "mem"); (case sn => walk_at "mem"); (case si => rfl); (case sa => walk_at "om"); (case sb => walk_at "om"); clear hS))
local macro_rules | `(tactic| walk_at "ofS") => `(tactic| (refine' use_ofS hS ?sm ?sn ?si ?sa ?sb ?_; (case sm => walk_at "mem"); (case sn => walk_at "mem"); (case si => rfl); (case sa => walk_at "om"); (case sb => walk_at "om"); clear hS))
local macro_rules | `(tactic| walk_at "hl") => `(tactic| repeat first | (obtain ⟨rfl, -⟩ := h; rfl) | (obtain ⟨_, h⟩ := h))
local macro_rules | `(tactic| walk_at "ls") => `(tactic| (simp only [wipe, List.map, List.set_cons_succ, List.set_cons_zero, List.nil_append, List.cons_append] at hS ⊢; walk_at "s"; refine ⟨rfl, ?_⟩; walk_at "s"))
local macro_rules | `(tactic| walk_at "ns") => `(tactic| (simp only [List.nil_append, List.cons_append] at hS))
local macro_rules | `(tactic| walk_at "gi") => `(tactic| (dsimp only [Gv]; first | refine fun H (hS : Ls.Sep _ _) => ?_ | refine fun a H (hS : Ls.Sep _ _) => ?_))
local macro_rules | `(tactic| walk_at "tp") => `(tactic| (refine' Sep.toPage (Sub.ok ?sa hS) ?sb; (case sa => walk_at "sub"); (case sb => rfl)))
local macro_rules | `(tactic| walk_at "tl") => `(tactic| focus (first
  | (refine' Sep.toLane (bk := bk) (pl := pl) (Sub.ok ?sa hS) ?sb ?_ ?_; (case sa => walk_at "sub"); (case sb => rfl); all_goals (try rfl))
  | (refine' Sep.toLane (Sub.ok ?sa hS) ?sb ?_ ?_; (case sa => walk_at "sub"); (case sb => rfl); all_goals (try rfl))))
-- own part: n1
namespace Ls
open PySem PySem.Spec PyProof.Rows L2
/-! ### names, fields -/
open TL
abbrev IsSg (c : Nat) : Prop := 97 ≤ c ∧ c ≤ 122
def IsNm (z : Str) : Prop := 1 ≤ z.length ∧ z.length ≤ 8 ∧ ∀ c ∈ z.cps.toList, IsSg c
theorem abc_at : ∀ k : Fin 26, (("abcdefghijklmnopqrstuvwxyz" : Str).cps.toList)[k.val]? = some (97 + k.val) := by decide +kernel
theorem abc_ix {r : Int} (h0 : 0 ≤ r) (h1 : r < 26) : atI ("abcdefghijklmnopqrstuvwxyz" : Str).cps.toList r = some (97 + r.toNat) := by
  obtain ⟨k, rfl⟩ := Int.eq_ofNat_of_zero_le h0
  exact atI_nat (abc_at ⟨k, by omega⟩)
theorem join_sigs : ∀ cs : List Nat, (Txt.join ("" : Str) (cs.map fun c => (⟨#[c]⟩ : Str))).cps.toList = cs := fun cs => by
  rw [join_eq]
  show tl _ = _
  rw [tl_join, List.map_map]
  have e : tl ("" : Str) = [] := by decide +kernel
  rw [e]
  have : ∀ cs : List Nat, joinL [] (cs.map (tl ∘ fun c => (⟨#[c]⟩ : Str))) = cs := by
    intro cs
    induction cs with
    | nil => rfl
    | cons c r ih =>
      cases r with
      | nil => rfl
      | cons c2 r2 =>
        show tl (⟨#[c]⟩ : Str) ++ ([] ++ joinL [] ((c2 :: r2).map _)) = _
        rw [ih]
        rfl
  exact this cs
theorem sig_len (c : Nat) : (⟨#[c]⟩ : Str).length = 1 := rfl
theorem sigs_sum (cs : List Nat) : ((cs.map fun c => (⟨#[c]⟩ : Str)).map (·.length)).sum = cs.length := by
  induction cs with
  | nil => rfl
  | cons c r ih =>
    simp only [List.map_cons, List.sum_cons, List.length_cons] at ih ⊢
    rw [ih, sig_len]
    omega
theorem len_toList (z : Str) : z.length = z.cps.toList.length := (Array.length_toList).symm
theorem app_toList (x y : Str) : (x ++ y).cps.toList = x.cps.toList ++ y.cps.toList := by
  rw [Str.cps_append, Array.toList_append]
theorem app_len (x y : Str) : (x ++ y).length = x.length + y.length := Str.length_append x y
def spWord (K : PySem.W.Frag) : Sp := fun vs H Q _ => ∃ (d : Addr) (L : List (As K)), vs = [.ref d] ∧ Sep L H ∧ dr d ∈ L ∧ ∀ z H', IsNm z → Sep L H' → Q (.str z) H'
def spWords (K : PySem.W.Frag) : Sp := fun vs H Q _ => ∃ (d : Addr) (n : Nat) (L : List (As K)), vs = [.ref d, .int n] ∧ n ≤ 8 ∧ Sep L H ∧ dr d ∈ L ∧ ∀ p (zs : List Str) H', zs.length = n → zs.Nodup → (∀ z ∈ zs, IsNm z) → Sep (ld p (zs.map PyData.str) :: L) H' → Q (.ref p) H'
end Ls
namespace Lw
open PySem PySem.Spec PyProof.Rows L2 Ls
theorem ok__law_word {P : Program} {w : World} {K : PySem.W.Frag} {mg : Str → Option Value} {base : Heap} (E : Env K mg) : FnOk P w K mg base CX0 3 E.a__law_word E.fd__law_word ["_law_d"] (spWord K) := by
  refine E.F__law_word.ok sc__law_word (fun vs H Q E h => ?_) (fun cdv A outer s H vs Q E' hr h => ?_)
  · walk_at "hl"
  · have hu := huOf hr
    have G__law_of := ok__law_of E (ok__law_pick (P := P) (w := w) (base := base) E)
    have hr__law_of := hr.mono (show 2 ≤ 2 by decide)
    have b__law_of := b__law_of E
    have G__law_pick := ok__law_pick (P := P) (w := w) (base := base) E
    have hr__law_pick := hr.mono (show 1 ≤ 2 by decide)
    have b__law_pick := b__law_pick E
    have hcl_Lane := E.cl_Lane
    have hcl_Kind := E.cl_Kind
    have hcl_Page := E.cl_Page
    obtain ⟨d, L, rfl, hS, hd, q⟩ := h
    refine ⟨_, PSs.nox (pss_cons (ps_set (i := 1) sc__law_word.nd rfl (Or.inr rfl) pe_str)
(pss_cons (ps_set (i := 2) sc__law_word.nd rfl (Or.inl rfl) (pe_call G__law_of hr__law_of rfl E.g__law_of E.F__law_of.kp b__law_of .nil pass0 (pa_cons (pv 0) (pa_cons (pe_lst (pa_cons pe_str (pa_cons pe_str (pa_cons pe_str (pa_cons pe_str (pa_cons pe_str pa_nil)))))) pa_nil))))
(pss_cons (ps_set (i := 3) sc__law_word.nd rfl (Or.inl rfl) (pe_op (op_addU K rfl) pe_int (pe_call G__law_pick hr__law_pick rfl E.g__law_pick E.F__law_pick.kp b__law_pick .nil pass0 (pa_cons (pv 0) (pa_cons (pe_op op_sub pe_int (pe_callB (call_lenU K rfl) (by rfl) E.n_len boot_len (pa_cons (pv 2) pa_nil))) pa_nil)))))
(pss_cons (ps_set (i := 4) sc__law_word.nd rfl (Or.inl rfl) (pe_joinU K rfl pe_str (pe_lc (own := [("_law_k", 5)]) rfl sc__law_word.nd (pi_range1 rfl E.n_range (pa_cons (pv 3) pa_nil)) (blkOk_by (N := ["_law_d", "_law_letters", "_law_first", "_law_size", "_law_some", "_law_k"]) (sc := defScope s__law_word) (by decide +kernel)) (fun _ _ _ _ _ => (pg_name (i := 5) sc__law_word.nd rfl (Or.inl rfl))) (fun _ _ _ _ _ => pts_nil) (fun _ _ _ _ _ => (pe_ix (ix_U K rfl) (pv 1) (pe_call G__law_pick hr__law_pick rfl E.g__law_pick E.F__law_pick.kp b__law_pick .nil pass0 (pa_cons (pv 0) (pa_cons pe_int pa_nil))) (fun _ _ => rfl))))))
(pss_one (ps_ret (pe_ix (ix_U K rfl) (pe_lst (pa_cons (pe_op (op_addU K rfl) (pv 2) (pv 4)) (pa_cons (pe_op (op_addU K rfl) (pv 4) (pv 2)) pa_nil))) (pe_call G__law_pick hr__law_pick rfl E.g__law_pick E.F__law_pick.kp b__law_pick .nil pass0 (pa_cons (pv 0) (pa_cons pe_int pa_nil))) (fun _ _ => rfl)))))))), ?_⟩
    refine k_body (s1 := some _ :: [none, none, none, none, none]) rfl ?_
    walk_at "s"
    walk_at "ofS"
    intro z H hz hS
    have hz : z.length ≤ 7 ∧ ∀ c ∈ z.cps.toList, IsSg c := by
      simp only [List.mem_cons, PyData.str.injEq, List.not_mem_nil, or_false] at hz
      rcases hz with rfl | rfl | rfl | rfl | rfl <;> exact ⟨by decide +kernel, by decide +kernel⟩
    walk_at "s"
    refine k_lenS (by rw [sizeLine_eq]; omega) ?_
    walk_at "s"
    walk_at "pk"
    intro r H hS r0 r1
    walk_at "s"
    refine lc_wk (L := L) (n := (1 + r).toNat) (fun i acc L' => L' = L ∧ ∃ cs : List Nat, acc = (cs.map fun c => (⟨#[c]⟩ : Str)).map PyData.str ∧ cs.length = i ∧ ∀ c ∈ cs, IsSg c) (fun i acc L' _ => wk_rng) (Sub.ok ?u hS) ⟨rfl, [], rfl, rfl, by simp⟩ (fun i acc L' hi iv H hS => ?_) (fun acc L' H iv hS => ?_)
    case u => walk_at "sub"
    · obtain ⟨rfl, cs, rfl, hc, hsg⟩ := iv
      walk_at "ls"
      walk_at "pk"
      intro r2 H hS s0 s1
      refine k_ixS (by rw [sizeLine_eq]; decide +kernel) (abc_ix s0 s1) ?_
      refine lc_keep hS (.str _) .refl (by rw [sizeLine_eq]; simp only [List.length_map]; omega) ⟨rfl, cs ++ [97 + r2.toNat], by simp, by simp [hc], fun c hm => ?_⟩
      rcases List.mem_append.mp hm with hm | hm
      · exact hsg c hm
      · rw [List.mem_singleton.mp hm]; exact ⟨by omega, by omega⟩
    · obtain ⟨rfl, cs, rfl, hc, hsg⟩ := iv
      refine k_glueS (z := ("" : Str)) hS (zs := cs.map fun c => (⟨#[c]⟩ : Str)) List.mem_cons_self (by rw [sigs_sum, List.length_map, show ("" : Str).length = 0 by decide +kernel]; omega) ?_
      have hw := join_sigs cs
      generalize Txt.join ("" : Str) (cs.map fun c => (⟨#[c]⟩ : Str)) = w at hw
      have hl : w.length = cs.length := by rw [len_toList, hw]
      walk_at "s"
      refine k_addS (by rw [sizeLine_eq]; omega) ?_
      walk_at "s"
      refine k_addS (by rw [sizeLine_eq]; omega) ?_
      walk_at "s"
      walk_at "pk"
      intro r2 H hS s0 s1
      have e : ∀ x y : Str, (x.length ≤ 7 ∧ ∀ c ∈ x.cps.toList, IsSg c) ∨ True → True := fun _ _ _ => trivial
      have n1 : IsNm (z ++ w) := ⟨by rw [app_len]; omega, by rw [app_len]; omega, fun c hm => by
        rw [app_toList, hw] at hm
        exact (List.mem_append.mp hm).elim (hz.2 c) (hsg c)⟩
      have n2 : IsNm (w ++ z) := ⟨by rw [app_len]; omega, by rw [app_len]; omega, fun c hm => by
        rw [app_toList, hw] at hm
        exact (List.mem_append.mp hm).elim (hsg c) (hz.2 c)⟩
      have : r2 = 0 ∨ r2 = 1 := by omega
      rcases this with rfl | rfl
      · walk_at "s"
        exact q _ _ n1 (Sub.ok (by walk_at "sub") hS)
      · walk_at "s"
        exact q _ _ n2 (Sub.ok (by walk_at "sub") hS)
end Lw
-- own part: n2
namespace Ls
open PySem PySem.Spec PyProof.Rows L2
def cand (j : Nat) : Str := ⟨#[97 + j % 8]⟩ ++ ⟨#[113 + j / 8 % 8]⟩
theorem cand_cps (j : Nat) : (cand j).cps.toList = [97 + j % 8, 113 + j / 8 % 8] := rfl
theorem cand_nm (j : Nat) : IsNm (cand j) := ⟨by rw [len_toList, cand_cps]; show 1 ≤ 2; decide, by rw [len_toList, cand_cps]; show 2 ≤ 8; decide, fun c h => by
  rw [cand_cps] at h
  simp only [List.mem_cons, List.not_mem_nil, or_false] at h
  rcases h with rfl | rfl
  · exact ⟨by omega, by omega⟩
  · exact ⟨by omega, by omega⟩⟩
theorem cand_inj {i j : Nat} (h : cand i = cand j) : i % 8 = j % 8 := by
  have e : (cand i).cps.toList = (cand j).cps.toList := by rw [h]
  rw [cand_cps, cand_cps] at e
  injection e with e _
  omega
theorem ah_ix : ∀ k : Fin 8, (("abcdefgh" : Str).cps.toList)[k.val]? = some (97 + k.val) := by decide +kernel
theorem qx_ix : ∀ k : Fin 8, (("qrstuvwx" : Str).cps.toList)[k.val]? = some (113 + k.val) := by decide +kernel
theorem ah_at (j : Nat) : atI ("abcdefgh" : Str).cps.toList ((j : Int) % 8) = some (97 + j % 8) := by
  have e : (j : Int) % 8 = ((j % 8 : Nat) : Int) := by omega
  rw [e]
  exact atI_nat (ah_ix ⟨j % 8, by omega⟩)
theorem qx_at (j : Nat) : atI ("qrstuvwx" : Str).cps.toList ((j : Int) / 8 % 8) = some (113 + j / 8 % 8) := by
  have e : (j : Int) / 8 % 8 = ((j / 8 % 8 : Nat) : Int) := by omega
  rw [e]
  exact atI_nat (qx_ix ⟨j / 8 % 8, by omega⟩)
theorem nodup_le {α : Type} [DecidableEq α] : ∀ {xs ys : List α}, xs.Nodup → (∀ x ∈ xs, x ∈ ys) → xs.length ≤ ys.length
  | [], _, _, _ => Nat.zero_le _
  | x :: xs, ys, nd, h => by
    obtain ⟨n1, n2⟩ := List.nodup_cons.mp nd
    have hx := h x List.mem_cons_self
    have ih := nodup_le (ys := ys.erase x) n2 fun y hy => (List.mem_erase_of_ne fun e => n1 (by rw [← e]; exact hy)).mpr (h y (List.mem_cons_of_mem _ hy))
    rw [List.length_erase_of_mem hx] at ih
    have := List.length_pos_of_mem hx
    rw [List.length_cons]
    omega
/-- eight unlike words are not all among seven -/
theorem cand_free {zs : List Str} {k : Nat} (hl : zs.length < 8) (h : ∀ t, t < 8 → cand (k + t) ∈ zs) : False := by
  have nd : ((List.range 8).map fun t => cand (k + t)).Nodup := by
    rw [List.nodup_iff_pairwise_ne, List.pairwise_map]
    refine List.Pairwise.imp_of_mem (R := fun a b => a < b) (fun {a b} ha hb lt e => ?_) List.pairwise_lt_range
    have := cand_inj e
    have := List.mem_range.mp ha
    have := List.mem_range.mp hb
    omega
  have sub : ∀ x ∈ (List.range 8).map fun t => cand (k + t), x ∈ zs := by
    intro x hx
    obtain ⟨t, ht, rfl⟩ := List.mem_map.mp hx
    exact h t (List.mem_range.mp ht)
  have := nodup_le nd sub
  rw [List.length_map, List.length_range] at this
  omega
/-! fields -/
abbrev Fd := Str × Int × Int
abbrev fdD (f : Fd) : PyData := .tuple [.str f.1, .int f.2.1, .int f.2.2]
abbrev fdsD (fs : List Fd) : PyData := .tuple (fs.map fdD)
def GoodF (f : Fd) : Prop := IsNm f.1 ∧ -999999 ≤ f.2.1 ∧ f.2.1 ≤ f.2.2 ∧ f.2.2 ≤ 999999
def GoodFs (fs : List Fd) : Prop := fs.length ≤ 4 ∧ (fs.map (·.1)).Nodup ∧ ∀ f ∈ fs, GoodF f
abbrev Kd := Str × List Fd
abbrev kdD (k : Kd) : PyData := .tuple [.str k.1, fdsD k.2]
def GoodK (k : Kd) : Prop := IsNm k.1 ∧ GoodFs k.2
def spBound (K : PySem.W.Frag) : Sp := fun vs H Q _ => ∃ (d : Addr) (L : List (As K)), vs = [.ref d] ∧ Ls.Sep L H ∧ dr d ∈ L ∧ ∀ (n : Int) H', -999999 ≤ n → n ≤ 999999 → Ls.Sep L H' → Q (.int n) H'
def spFields (K : PySem.W.Frag) : Sp := fun vs H Q _ => ∃ (d : Addr) (n : Nat) (L : List (As K)), vs = [.ref d, .int n] ∧ n ≤ 4 ∧ Ls.Sep L H ∧ dr d ∈ L ∧ ∀ p fs H', fs.length = n → GoodFs fs → Ls.Sep (im (.ref p) (fdsD fs) :: L) H' → Q (.ref p) H'
def spKindsFor (K : PySem.W.Frag) : Sp := fun vs H Q _ => ∃ (d : Addr) (L : List (As K)), vs = [.ref d] ∧ Ls.Sep L H ∧ dr d ∈ L ∧ ∀ p (ks : List Kd) H', 1 ≤ ks.length → ks.length ≤ 3 → (∀ k ∈ ks, GoodK k) → Ls.Sep (Ls.ld p (ks.map kdD) :: L) H' → Q (.ref p) H'
end Ls
namespace Lw
open PySem PySem.Spec PyProof.Rows L2 Ls
theorem ok__law_words {P : Program} {w : World} {K : PySem.W.Frag} {mg : Str → Option Value} {base : Heap} (E : Env K mg) : FnOk P w K mg base CX0 4 E.a__law_words E.fd__law_words ["_law_d", "_law_many"] (spWords K) := by
  refine E.F__law_words.ok sc__law_words (fun vs H Q E h => ?_) (fun cdv A outer s H vs Q E' hr h => ?_)
  · walk_at "hl"
  · have hu := huOf hr
    have G__law_word := ok__law_word (P := P) (w := w) (base := base) E
    have hr__law_word := hr.mono (show 3 ≤ 3 by decide)
    have b__law_word := b__law_word E
    have hcl_Lane := E.cl_Lane
    have hcl_Kind := E.cl_Kind
    have hcl_Page := E.cl_Page
    obtain ⟨d, n, L, rfl, hn, hS, hd, q⟩ := h
    refine ⟨_, PSs.nox (pss_cons (ps_set (i := 2) sc__law_words.nd rfl (Or.inl rfl) (pe_lst pa_nil))
(pss_cons (ps_for PassesOwn.never rfl (pi_range1 rfl E.n_range (pa_cons (pv 1) pa_nil)) (pg_name (i := 3) sc__law_words.nd rfl (Or.inl rfl))
(pss_cons (ps_set (i := 4) sc__law_words.nd rfl (Or.inl rfl) (pe_call G__law_word hr__law_word rfl E.g__law_word E.F__law_word.kp b__law_word .nil pass0 (pa_cons (pv 0) pa_nil)))
(pss_cons (ps_for PassesOwn.never rfl (pi_range1 rfl E.n_range (pa_cons pe_int pa_nil)) (pg_name (i := 5) sc__law_words.nd rfl (Or.inl rfl))
(pss_one (ps_if (pt_cmpR (op_inU K rfl hu) (pv 4) (pv 2) (by with_unfolding_all rfl)) (pss_one (ps_set (i := 4) sc__law_words.nd rfl (Or.inl rfl) (pe_op (op_addU K rfl) (pe_ix (ix_U K rfl) pe_str (pe_op op_mod (pe_op (op_addU K rfl) (pv 3) (pv 5)) pe_int) (fun _ _ => rfl)) (pe_ix (ix_U K rfl) pe_str (pe_op op_mod (pe_op op_fdivW (pe_op (op_addU K rfl) (pv 3) (pv 5)) pe_int) pe_int) (fun _ _ => rfl))))) pss_nil)))
(pss_one (ps_expr (kBM K rfl (pe_bm PySem.F.plainAttrs_list PySem.F.slot_list_append PySem.F.type_list_append mt_append (pv 2) (pa_cons (pv 4) pa_nil))))))))
(pss_one (ps_ret (pv 2))))), ?_⟩
    refine k_body (s1 := some _ :: some _ :: [none, none, none, none]) rfl ?_
    walk_at "s"
    refine for_wk (n := (n : Int).toNat) (L := Ls.ld p [] :: L) (fun i σ L' => ∃ zs : List Str, L' = Ls.ld p (zs.map PyData.str) :: L ∧ zs.length = i ∧ zs.Nodup ∧ (∀ z ∈ zs, IsNm z) ∧ ∃ c1 c2 c3, σ = [some (.ref d), some (.int n), some (.ref p), c1, c2, c3]) (fun i σ L' _ => wk_rng) hS ⟨[], rfl, rfl, .nil, by simp, _, _, _, rfl⟩ (fun i σ L' hi iv H hS => ?_) (fun σ L' H iv hS => ?_)
    · obtain ⟨zs, rfl, hz, nd, nm, c1, c2, c3, rfl⟩ := iv
      walk_at "ns"
      walk_at "s"
      refine ⟨d, _, rfl, hS, by walk_at "mem", fun z H nz hS => ?_⟩
      walk_at "s"
      refine for_wk (n := (64 : Int).toNat) (fun j σ L' => L' = Ls.ld p (zs.map PyData.str) :: L ∧ ∃ w, IsNm w ∧ (w ∉ zs ∨ (w ∈ zs ∧ ∀ t, t < j → t < 8 → cand (i + t) ∈ zs)) ∧ ∃ c3, σ = [some (.ref d), some (.int n), some (.ref p), some (.int (0 + i)), some (.str w), c3]) (fun i σ L' _ => wk_rng) hS ⟨rfl, z, nz, ?_, _, rfl⟩ (fun j σ L' hj iv H hS => ?_) (fun σ L' H iv hS => ?_)
      · by_cases e : z ∈ zs
        · exact .inr ⟨e, fun t h => absurd h (Nat.not_lt_zero _)⟩
        · exact .inl e
      · obtain ⟨rfl, w, nw, hw, c3, rfl⟩ := iv
        walk_at "ns"
        walk_at "s"
        refine k_itd (fun e => ?_) (fun e => ?_)
        · have hw := (hw.resolve_left fun z => z e).2
          walk_at "s"
          have e1 : (0 + (i : Int) + (0 + (j : Int))) = ((i + j : Nat) : Int) := by omega
          rw [e1]
          refine k_ixS (by rw [sizeLine_eq]; decide +kernel) (ah_at _) ?_
          walk_at "s"
          rw [e1]
          walk_at "s"
          refine k_ixS (by rw [sizeLine_eq]; decide +kernel) (qx_at _) ?_
          refine k_addS (by rw [sizeLine_eq]; show 1 + 1 ≤ _; decide) ?_
          walk_at "s"
          refine ⟨_, ⟨rfl, cand (i + j), cand_nm _, ?_, _, rfl⟩, hS⟩
          by_cases e2 : cand (i + j) ∈ zs
          · refine .inr ⟨e2, fun t h1 h2 => ?_⟩
            by_cases e3 : t < j
            · exact hw t e3 h2
            · rw [show t = j by omega]; exact e2
          · exact .inl e2
        · walk_at "s"
          exact ⟨_, ⟨rfl, w, nw, .inl e, _, rfl⟩, hS⟩
      · obtain ⟨rfl, w, nw, hw, c3, rfl⟩ := iv
        have hw : w ∉ zs := by
          rcases hw with hw | ⟨_, hw⟩
          · exact hw
          · exact (cand_free (zs := zs) (k := i) (by omega) fun t h => hw t (by omega) h).elim
        walk_at "s"
        refine ⟨_, ⟨zs ++ [w], by rw [List.map_append]; rfl, by simp [hz], ?_, ?_, _, _, _, rfl⟩, hS⟩
        · rw [List.nodup_append]
          exact ⟨nd, by simp, fun a ha b hb e => hw (by rw [List.mem_singleton.mp hb] at e; exact e ▸ ha)⟩
        · intro x hx
          rcases List.mem_append.mp hx with hx | hx
          · exact nm x hx
          · rw [List.mem_singleton.mp hx]; exact nw
    · obtain ⟨zs, rfl, hz, nd, nm, c1, c2, c3, rfl⟩ := iv
      walk_at "s"
      exact q p zs H (by omega) nd nm hS
theorem ok__law_bound {P : Program} {w : World} {K : PySem.W.Frag} {mg : Str → Option Value} {base : Heap} (E : Env K mg) : FnOk P w K mg base CX0 3 E.a__law_bound E.fd__law_bound ["_law_d"] (spBound K) := by
  refine E.F__law_bound.ok sc__law_bound (fun vs H Q E h => ?_) (fun cdv A outer s H vs Q E' hr h => ?_)
  · walk_at "hl"
  · have hu := huOf hr
    have G__law_of := ok__law_of E (ok__law_pick (P := P) (w := w) (base := base) E)
    have hr__law_of := hr.mono (show 2 ≤ 2 by decide)
    have b__law_of := b__law_of E
    have G__law_pick := ok__law_pick (P := P) (w := w) (base := base) E
    have hr__law_pick := hr.mono (show 1 ≤ 2 by decide)
    have b__law_pick := b__law_pick E
    have hcl_Lane := E.cl_Lane
    have hcl_Kind := E.cl_Kind
    have hcl_Page := E.cl_Page
    obtain ⟨d, L, rfl, hS, hd, q⟩ := h
    refine ⟨_, PSs.nox (pss_cons (ps_set (i := 1) sc__law_bound.nd rfl (Or.inl rfl) (pe_lst (pa_cons pe_int (pa_cons pe_int (pa_cons pe_int (pa_cons (pe_call G__law_pick hr__law_pick rfl E.g__law_pick E.F__law_pick.kp b__law_pick .nil pass0 (pa_cons (pv 0) (pa_cons pe_int pa_nil))) (pa_cons (pe_op op_sub (pe_call G__law_pick hr__law_pick rfl E.g__law_pick E.F__law_pick.kp b__law_pick .nil pass0 (pa_cons (pv 0) (pa_cons pe_int pa_nil))) pe_int) pa_nil)))))))
(pss_one (ps_ret (pe_call G__law_of hr__law_of rfl E.g__law_of E.F__law_of.kp b__law_of .nil pass0 (pa_cons (pv 0) (pa_cons (pe_op (op_addU K rfl) (pv 1) (pe_lst (pa_cons pe_int (pa_cons (pe_un un_neg pe_int) (pa_cons (pe_op op_sub (pe_call G__law_pick hr__law_pick rfl E.g__law_pick E.F__law_pick.kp b__law_pick .nil pass0 (pa_cons (pv 0) (pa_cons pe_int pa_nil))) pe_int) pa_nil))))) pa_nil)))))), ?_⟩
    refine k_body (s1 := some _ :: [none]) rfl ?_
    walk_at "s"
    walk_at "pk"
    intro r1 H hS a0 a1
    walk_at "s"
    walk_at "pk"
    intro r2 H hS b0 b1
    walk_at "s"
    walk_at "pk"
    intro r3 H hS c0 c1
    walk_at "s"
    walk_at "ofI"
    intro n H hn hS
    simp only [List.cons_append, List.nil_append, List.mem_cons, PyData.int.injEq, List.not_mem_nil, or_false] at hn
    exact q n H (by omega) (by omega) (Sub.ok (by walk_at "sub") hS)
theorem ok__law_fields {P : Program} {w : World} {K : PySem.W.Frag} {mg : Str → Option Value} {base : Heap} (E : Env K mg) : FnOk P w K mg base CX0 5 E.a__law_fields E.fd__law_fields ["_law_d", "_law_many"] (spFields K) := by
  refine E.F__law_fields.ok sc__law_fields (fun vs H Q E h => ?_) (fun cdv A outer s H vs Q E' hr h => ?_)
  · walk_at "hl"
  · have hu := huOf hr
    have G__law_words := ok__law_words (P := P) (w := w) (base := base) E
    have hr__law_words := hr.mono (show 4 ≤ 4 by decide)
    have b__law_words := b__law_words E
    have G__law_bound := ok__law_bound (P := P) (w := w) (base := base) E
    have hr__law_bound := hr.mono (show 3 ≤ 4 by decide)
    have b__law_bound := b__law_bound E
    have G__law_of := ok__law_of E (ok__law_pick (P := P) (w := w) (base := base) E)
    have hr__law_of := hr.mono (show 2 ≤ 4 by decide)
    have b__law_of := b__law_of E
    have G__law_pick := ok__law_pick (P := P) (w := w) (base := base) E
    have hr__law_pick := hr.mono (show 1 ≤ 4 by decide)
    have b__law_pick := b__law_pick E
    have hcl_Lane := E.cl_Lane
    have hcl_Kind := E.cl_Kind
    have hcl_Page := E.cl_Page
    obtain ⟨d, n, L, rfl, hn, hS, hd, q⟩ := h
    refine ⟨_, PSs.nox (pss_cons (ps_set (i := 2) sc__law_fields.nd rfl (Or.inl rfl) (pe_call G__law_words hr__law_words rfl E.g__law_words E.F__law_words.kp b__law_words .nil pass0 (pa_cons (pv 0) (pa_cons (pv 1) pa_nil))))
(pss_cons (ps_set (i := 3) sc__law_fields.nd rfl (Or.inl rfl) (pe_lst pa_nil))
(pss_cons (ps_for PassesOwn.never rfl (pi_seqU K rfl (pv 2)) (pg_name (i := 4) sc__law_fields.nd rfl (Or.inl rfl))
(pss_cons (ps_set (i := 5) sc__law_fields.nd rfl (Or.inl rfl) (pe_call G__law_bound hr__law_bound rfl E.g__law_bound E.F__law_bound.kp b__law_bound .nil pass0 (pa_cons (pv 0) pa_nil)))
(pss_cons (ps_set (i := 6) sc__law_fields.nd rfl (Or.inl rfl) (pe_callB (call_minU K rfl rfl) (by rfl) E.n_min boot_min (pa_cons pe_int (pa_cons (pe_op (op_addU K rfl) (pv 5) (pe_call G__law_of hr__law_of rfl E.g__law_of E.F__law_of.kp b__law_of .nil pass0 (pa_cons (pv 0) (pa_cons (pe_lst (pa_cons pe_int (pa_cons pe_int (pa_cons pe_int (pa_cons pe_int (pa_cons (pe_call G__law_pick hr__law_pick rfl E.g__law_pick E.F__law_pick.kp b__law_pick .nil pass0 (pa_cons (pv 0) (pa_cons pe_int pa_nil))) pa_nil)))))) pa_nil)))) pa_nil))))
(pss_one (ps_expr (kBM K rfl (pe_bm PySem.F.plainAttrs_list PySem.F.slot_list_append PySem.F.type_list_append mt_append (pv 3) (pa_cons (pe_tup (pa_cons (pv 4) (pa_cons (pv 5) (pa_cons (pv 6) pa_nil)))) pa_nil))))))))
(pss_one (ps_ret (pe_callTy (call_tupleU K rfl) (by rfl) E.n_tuple boot_tuple (pa_cons (pv 3) pa_nil))))))), ?_⟩
    refine k_body (s1 := some _ :: some _ :: [none, none, none, none, none]) rfl ?_
    walk_at "s"
    refine ⟨d, n, _, rfl, by omega, hS, hd, fun pz zs H hz nd nm hS => ?_⟩
    walk_at "s"
    refine for_wk (n := zs.length) (Y := fun i q => ∀ z, zs[i]? = some z → Gv (PyData.str z) q) (fun i σ L' => ∃ fs : List Fd, L' = Ls.ld p (fs.map fdD) :: Ls.ld pz (zs.map PyData.str) :: L ∧ fs.map (·.1) = zs.take i ∧ (∀ f ∈ fs, GoodF f) ∧ ∃ c1 c2 c3, σ = [some (.ref d), some (.int n), some (.ref pz), some (.ref p), c1, c2, c3]) (fun i σ L' e => ?_) hS ⟨[], rfl, rfl, by simp, _, _, _, rfl⟩ (fun i σ L' hi iv z hz2 H hS => ?_) (fun σ L' H iv hS => ?_)
    · obtain ⟨fs, rfl, _⟩ := e
      exact wk_ldm (by walk_at "mem")
    · obtain ⟨fs, rfl, hf, gf, c1, c2, c3, rfl⟩ := iv
      walk_at "ns"
      walk_at "s"
      refine ⟨d, _, rfl, hS, by walk_at "mem", fun low H l0 l1 hS => ?_⟩
      walk_at "s"
      walk_at "pk"
      intro r H hS r0 r1
      have lf : fs.length = min i zs.length := by
        have := congrArg List.length hf
        rwa [List.length_map, List.length_take] at this
      walk_at "s"
      walk_at "ofI"
      intro g H hg hS
      have hg : 0 ≤ g := by
        simp only [List.mem_cons, PyData.int.injEq, List.not_mem_nil, or_false] at hg
        omega
      walk_at "s"
      have h1 : low ≤ (if low + g < 999999 then low + g else 999999) ∧ (if low + g < 999999 then low + g else 999999) ≤ 999999 := by split <;> omega
      generalize (if low + g < 999999 then low + g else 999999) = hi' at h1 hS ⊢
      walk_at "s"
      have e : fs.map fdD ++ [PyData.tuple [.str z, .int low, .int hi']] = (fs ++ [(z, low, hi')]).map fdD := by rw [List.map_append]; rfl
      rw [e] at hS
      refine ⟨_, ⟨fs ++ [(z, low, hi')], rfl, ?_, ?_, _, _, _, rfl⟩, ?_⟩
      · rw [List.map_append, hf, List.take_add_one, hz2]; rfl
      · intro f hm
        rcases List.mem_append.mp hm with hm | hm
        · exact gf f hm
        · rw [List.mem_singleton.mp hm]
          exact ⟨nm z (List.mem_of_getElem? hz2), l0, h1.1, h1.2⟩
      · exact Sub.ok (by walk_at "sub") hS
    · obtain ⟨fs, rfl, hf, gf, c1, c2, c3, rfl⟩ := iv
      rw [List.take_length] at hf
      have lf : fs.length = n := by
        have := congrArg List.length hf
        rw [List.length_map] at this
        omega
      walk_at "s"
      exact q _ fs _ lf ⟨by omega, by rw [hf]; exact nd, gf⟩ (Sub.ok (by walk_at "sub") hS)
theorem ok__law_kinds_for {P : Program} {w : World} {K : PySem.W.Frag} {mg : Str → Option Value} {base : Heap} (E : Env K mg) : FnOk P w K mg base CX0 6 E.a__law_kinds_for E.fd__law_kinds_for ["_law_d"] (spKindsFor K) := by
  refine E.F__law_kinds_for.ok sc__law_kinds_for (fun vs H Q E h => ?_) (fun cdv A outer s H vs Q E' hr h => ?_)
  · walk_at "hl"
  · have hu := huOf hr
    have G__law_of := ok__law_of E (ok__law_pick (P := P) (w := w) (base := base) E)
    have hr__law_of := hr.mono (show 2 ≤ 5 by decide)
    have b__law_of := b__law_of E
    have G__law_fields := ok__law_fields (P := P) (w := w) (base := base) E
    have hr__law_fields := hr.mono (show 5 ≤ 5 by decide)
    have b__law_fields := b__law_fields E
    have G__law_words := ok__law_words (P := P) (w := w) (base := base) E
    have hr__law_words := hr.mono (show 4 ≤ 5 by decide)
    have b__law_words := b__law_words E
    have G__law_pick := ok__law_pick (P := P) (w := w) (base := base) E
    have hr__law_pick := hr.mono (show 1 ≤ 5 by decide)
    have b__law_pick := b__law_pick E
    have hcl_Lane := E.cl_Lane
    have hcl_Kind := E.cl_Kind
    have hcl_Page := E.cl_Page
    obtain ⟨d, L, rfl, hS, hd, q⟩ := h
    refine ⟨_, PSs.nox (pss_cons (ps_set (i := 1) sc__law_kinds_for.nd rfl (Or.inl rfl) (pe_call G__law_of hr__law_of rfl E.g__law_of E.F__law_of.kp b__law_of .nil pass0 (pa_cons (pv 0) (pa_cons (pe_lst (pa_cons pe_int (pa_cons pe_int (pa_cons pe_int pa_nil)))) pa_nil))))
(pss_one (ps_ret (pe_lc (own := [("_law_title", 2)]) rfl sc__law_kinds_for.nd (pi_seqU K rfl (pe_call G__law_words hr__law_words rfl E.g__law_words E.F__law_words.kp b__law_words .nil pass0 (pa_cons (pv 0) (pa_cons (pv 1) pa_nil)))) (blkOk_by (N := ["_law_d", "_law_many", "_law_title"]) (sc := defScope s__law_kinds_for) (by decide +kernel)) (fun _ _ _ _ _ => (pg_name (i := 2) sc__law_kinds_for.nd rfl (Or.inl rfl))) (fun _ _ _ _ _ => pts_nil) (fun _ _ _ _ _ => (pe_tup (pa_cons (pv 2) (pa_cons (pe_call G__law_fields hr__law_fields rfl E.g__law_fields E.F__law_fields.kp b__law_fields .nil pass0 (pa_cons (pv 0) (pa_cons (pe_call G__law_pick hr__law_pick rfl E.g__law_pick E.F__law_pick.kp b__law_pick .nil pass0 (pa_cons (pv 0) (pa_cons pe_int pa_nil))) pa_nil))) pa_nil)))))))), ?_⟩
    refine k_body (s1 := some _ :: [none, none]) rfl ?_
    walk_at "s"
    walk_at "ofI"
    intro m H hm hS
    obtain ⟨n, rfl, n1, n2⟩ : ∃ n : Nat, m = n ∧ 1 ≤ n ∧ n ≤ 3 := by
      simp only [List.mem_cons, PyData.int.injEq, List.not_mem_nil, or_false] at hm
      exact ⟨m.toNat, by omega, by omega, by omega⟩
    walk_at "s"
    refine ⟨d, n, _, rfl, by omega, hS, by walk_at "mem", fun pz zs H hz nd nm hS => ?_⟩
    walk_at "s"
    refine lc_wk (L := Ls.ld pz (zs.map PyData.str) :: L) (n := zs.length) (Y := fun i q => ∀ z, zs[i]? = some z → Gv (PyData.str z) q) (fun i acc L' => L' = Ls.ld pz (zs.map PyData.str) :: L ∧ ∃ ks : List Kd, acc = ks.map kdD ∧ ks.length = i ∧ ∀ k ∈ ks, GoodK k) (fun i acc L' e => ?_) (Sub.ok ?u hS) ⟨rfl, [], rfl, rfl, by simp⟩ (fun i acc L' hi iv z hz2 H hS => ?_) (fun acc L' H iv hS => ?_)
    case u => walk_at "sub"
    · obtain ⟨rfl, _⟩ := e
      exact wk_ldm (by walk_at "mem")
    · obtain ⟨rfl, ks, rfl, hk, gk⟩ := iv
      walk_at "ls"
      walk_at "pk"
      intro r H hS r0 r1
      walk_at "s"
      refine ⟨d, r.toNat, _, by rw [Int.toNat_of_nonneg r0]; rfl, by omega, hS, by walk_at "mem", fun pf fs H lf gf hS => ?_⟩
      walk_at "s"
      refine lc_keep hS (Dat.im (d := kdD (z, fs)) (by walk_at "mem")) (by walk_at "sub") (by rw [sizeLine_eq, List.length_map]; omega) ⟨rfl, ks ++ [(z, fs)], by rw [List.map_append]; rfl, by simp [hk], fun k hm => ?_⟩
      rcases List.mem_append.mp hm with hm | hm
      · exact gk k hm
      · rw [List.mem_singleton.mp hm]
        exact ⟨nm z (List.mem_of_getElem? hz2), gf⟩
    · obtain ⟨rfl, ks, rfl, hk, gk⟩ := iv
      walk_at "s"
      exact q _ ks H (by omega) (by omega) gk (Sub.ok (by walk_at "sub") hS)
end Lw
-- own part: n3
namespace Ls
open PySem PySem.Spec PyProof.Rows L2
instance (z : Str) : Decidable (IsNm z) := by unfold IsNm; exact inferInstance
def kindV (n f : V) : List (Str × V) := [("name", n), ("fields", f)]
/-- the Kind at a: it never changes -/
def kindF {K : PySem.W.Frag} (C a : Addr) (k : Kd) : As K := persW (fun W H => ∃ f dx, W a (.ins C dx (kindV (.str k.1) (.ref f))) ∧ Im K H (.ref f) (fdsD k.2)) (fun _ _ _ t ⟨f, dx, h1, h2⟩ => ⟨f, dx, h1, h2.mono t.1⟩) fun _ _ _ e ⟨f, dx, h1, h2⟩ => ⟨f, dx, e _ _ h1, h2⟩
instance {K : PySem.W.Frag} {C a : Addr} {k : Kd} : Dup (kindF (K := K) C a k) := ⟨fun z => z.1⟩
section
variable {K : PySem.W.Frag} {L : List (As K)} {H : Hp} {C a f : Addr} {k : Kd}
theorem Sep.kind (h : Ls.Sep L H) (m : kindF C a k ∈ L) : ∃ f dx, H a = some (.ins C dx (kindV (.str k.1) (.ref f))) ∧ Im K H (.ref f) (fdsD k.2) := by
  obtain ⟨W, s, ⟨_, f, dx, h1, h2⟩, z⟩ := h.the m
  exact ⟨f, dx, (z _ _ h1).1, h2⟩
theorem Sep.toKind (h : Ls.Sep (inst a C (kindV (.str k.1) (.ref f)) :: L) H) (m : im (.ref f) (fdsD k.2) ∈ L) : Ls.Sep (kindF C a k :: L) H := by
  have g := h.freezeI
  obtain ⟨W, s, z, s1, s2, d, u, ⟨n1, dx, h1, h2⟩, h3⟩ := g
  exact ⟨W, s, z, s1, s2, d, u, ⟨n1, f, dx, h1, Ls.Sep.imm ⟨W, s2, z.less fun b y => (u b).mpr (.inr y), h3⟩ m⟩, h3⟩
theorem k_kname {R : V → Prop} (h : Ls.Sep L H) (m : kindF C a k ∈ L) (c : Cls K C) (n : NoAttr K C ("name" : Str)) (q : R (.str k.1)) : ∃ a' C' dx fs v', V.ref a = .ref a' ∧ H a' = some (.ins C' dx fs) ∧ Cls K C' ∧ NoAttr K C' ("name" : Str) ∧ fs.lookup ("name" : Str) = some v' ∧ R v' := by
  obtain ⟨f, dx, h1, h2⟩ := h.kind m
  exact k_fldt ⟨dx, h1⟩ c n rfl q
theorem k_kfields {R : V → Prop} (h : Ls.Sep L H) (m : kindF C a k ∈ L) (c : Cls K C) (n : NoAttr K C ("fields" : Str)) (q : ∀ f, Ls.Sep (im (.ref f) (fdsD k.2) :: L) H → R (.ref f)) : ∃ a' C' dx fs v', V.ref a = .ref a' ∧ H a' = some (.ins C' dx fs) ∧ Cls K C' ∧ NoAttr K C' ("fields" : Str) ∧ fs.lookup ("fields" : Str) = some v' ∧ R v' := by
  obtain ⟨f, dx, h1, h2⟩ := h.kind m
  exact k_fldt ⟨dx, h1⟩ c n rfl (q f (Sep.im_iff.mpr ⟨h2, h⟩))
theorem k_recvK {R : Addr → Prop} {m : Str} (h : Ls.Sep L H) (w : kindF C a k ∈ L) (e : ∀ f, (kindV (.str k.1) (.ref f)).lookup m = none) (q : R a) : ∃ a' dx fs, V.ref a = .ref a' ∧ H a' = some (.ins C dx fs) ∧ fs.lookup m = none ∧ R a' := by
  obtain ⟨f, dx, h1, h2⟩ := h.kind w
  exact k_recv ⟨dx, _, h1, e f⟩ q
end
def spIsName (K : PySem.W.Frag) : Sp := fun vs H Q _ => ∃ (z : Str) (L : List (As K)), vs = [.str z] ∧ z.length ≤ 1000000 ∧ Ls.Sep L H ∧ ∀ H', Ls.Sep L H' → Q (.bl (decide (IsNm z))) H'
def spLookField (K : PySem.W.Frag) : Sp := fun vs H Q _ => ∃ (f n : Addr) (fd : Fd) (zs : List Str) (L : List (As K)), vs = [.ref f, .ref n] ∧ Ls.Sep L H ∧ im (.ref f) (fdD fd) ∈ L ∧ Ls.ld n (zs.map PyData.str) ∈ L ∧ GoodF fd ∧ fd.1 ∉ zs ∧ ∀ H', Ls.Sep L H' → Q .non H'
def spKindInit (K : PySem.W.Frag) (C : Addr) : Sp := fun vs H Q _ => ∃ (x f : Addr) (k : Kd) (L : List (As K)), vs = [.ref x, .str k.1, .ref f] ∧ Ls.Sep (inst x C [] :: L) H ∧ im (.ref f) (fdsD k.2) ∈ L ∧ GoodK k ∧ ∀ H', Ls.Sep (kindF C x k :: L) H' → Q .non H'
def spLowest (K : PySem.W.Frag) (C : Addr) : Sp := fun vs H Q _ => ∃ (x : Addr) (k : Kd) (L : List (As K)), vs = [.ref x] ∧ Ls.Sep L H ∧ kindF C x k ∈ L ∧ k.2.length ≤ 4 ∧ ∀ p H', Ls.Sep (im (.ref p) (.tuple (k.2.map fun f => .int f.2.1)) :: L) H' → Q (.ref p) H'
def spCells (K : PySem.W.Frag) (C : Addr) : Sp := fun vs H Q _ => ∃ (x : Addr) (k : Kd) (L : List (As K)), vs = [.ref x] ∧ Ls.Sep L H ∧ kindF C x k ∈ L ∧ Q (.int (1 + k.2.length)) H
end Ls
namespace Lw
open PySem PySem.Spec PyProof.Rows L2 Ls
theorem ok_is_name {P : Program} {w : World} {K : PySem.W.Frag} {mg : Str → Option Value} {base : Heap} (E : Env K mg) : FnOk P w K mg base CX0 1 E.a_is_name E.fd_is_name ["text"] (spIsName K) := by
  refine E.F_is_name.ok sc_is_name (fun vs H Q E h => ?_) (fun cdv A outer s H vs Q E' hr h => ?_)
  · walk_at "hl"
  · have hu := huOf hr
    have hcl_Lane := E.cl_Lane
    have hcl_Kind := E.cl_Kind
    have hcl_Page := E.cl_Page
    obtain ⟨z, L, rfl, hz, hS, q⟩ := h
    refine ⟨_, PSs.nox (pss_one (ps_ret (pe_and (pe_chain op_le op_le pe_int (pe_callB (call_lenU K rfl) (by rfl) E.n_len boot_len (pa_cons (pv 0) pa_nil)) (pe_gc rfl E.c_LONGEST)) (pe_one (pe_callB (cr_allU K rfl rfl) (by rfl) E.n_all boot_all (pa_cons (pe_lc (own := [("sign", 1)]) rfl sc_is_name.nd (pi_str (pv 0)) (blkOk_by (N := ["text", "sign"]) (sc := defScope s_is_name) (by decide +kernel)) (fun _ _ _ _ _ => (pg_name (i := 1) sc_is_name.nd rfl (Or.inl rfl))) (fun _ _ _ _ _ => pts_nil) (fun _ _ _ _ _ => (pe_cmpR (op_inU K rfl hu) (pv 1) (pe_gc rfl E.c_LETTERS) (by with_unfolding_all rfl)))) pa_nil)))))), ?_⟩
    refine k_body (s1 := some _ :: [none]) rfl ?_
    walk_at "s"
    refine k_lenS (by rw [sizeLine_eq]; omega) ?_
    walk_at "s"
    by_cases h1 : 1 ≤ z.length
    · walk_at "s"
      by_cases h2 : z.length ≤ 8
      · walk_at "s"
        refine lc_flat (zs := z.cps.toList) (fun c => [PyData.bool (decide (IsSg c))]) hS (fun acc => wk_str) (fun i c acc hc hk _ la H hS => ?_) (fun H hS => ?_)
        · walk_at "ls"
          have e : decide (c ∈ ("abcdefghijklmnopqrstuvwxyz" : Str).cps.toList) = decide (IsSg c) := by
            have : ∀ k : Fin 26, k.val + 97 ∈ ("abcdefghijklmnopqrstuvwxyz" : Str).cps.toList := by decide +kernel
            have h2 : ∀ c ∈ ("abcdefghijklmnopqrstuvwxyz" : Str).cps.toList, IsSg c := by decide +kernel
            refine decide_eq_decide.mpr ⟨h2 c, fun h => ?_⟩
            have := this ⟨c - 97, by omega⟩
            rwa [show c - 97 + 97 = c by omega] at this
          rw [e]
          refine lc_keep hS (.bl _) .refl ?_ (hk _ rfl)
          have := (List.getElem?_eq_some_iff.mp hc).1
          rw [sizeLine_eq]
          rw [← len_toList] at this
          omega
        · rw [flat_map] at hS
          refine k_allS hS List.mem_cons_self ?_
          have e : z.cps.toList.all (fun c => decide (IsSg c)) = decide (IsNm z) := by
            rw [Bool.eq_iff_iff, List.all_eq_true, decide_eq_true_eq]
            exact ⟨fun h => ⟨h1, h2, fun c hc => of_decide_eq_true (h c hc)⟩, fun h c hc => decide_eq_true (h.2.2 c hc)⟩
          rw [e]
          exact q _ hS.tail
      · have e : decide (IsNm z) = false := decide_eq_false fun h => h2 h.2.1
        rw [e] at q
        walk_at "s"
        exact q _ hS
    · have e : decide (IsNm z) = false := decide_eq_false fun h => h1 h.1
      rw [e] at q
      walk_at "s"
      exact q _ hS
theorem ok_look_field {P : Program} {w : World} {K : PySem.W.Frag} {mg : Str → Option Value} {base : Heap} (E : Env K mg) : FnOk P w K mg base CX0 2 E.a_look_field E.fd_look_field ["field", "names"] (spLookField K) := by
  refine E.F_look_field.ok sc_look_field (fun vs H Q E h => ?_) (fun cdv A outer s H vs Q E' hr h => ?_)
  · walk_at "hl"
  · have hu := huOf hr
    have G_is_name := ok_is_name (P := P) (w := w) (base := base) E
    have hr_is_name := hr.mono (show 1 ≤ 1 by decide)
    have b_is_name := b_is_name E
    have hcl_Lane := E.cl_Lane
    have hcl_Kind := E.cl_Kind
    have hcl_Page := E.cl_Page
    obtain ⟨f, n, ⟨t, lo, hi⟩, zs, L, rfl, hS, hf, hn, ⟨g1, g2, g3, g4⟩, nz, q⟩ := h
    dsimp only at g1 g2 g3 g4 nz
    refine ⟨_, PSs.nox (pss_cons (ps_asg (pv 0) (kGTup (n := 3) K rfl (pg_tup rfl (pgs_cons (pg_name (i := 2) sc_look_field.nd rfl (Or.inl rfl)) (pgs_cons (pg_name (i := 3) sc_look_field.nd rfl (Or.inl rfl)) (pgs_cons (pg_name (i := 4) sc_look_field.nd rfl (Or.inl rfl)) pgs_nil))))))
(pss_cons (ps_if (pt_not (pt_val (pe_call G_is_name hr_is_name rfl E.g_is_name E.F_is_name.kp b_is_name .nil pass0 (pa_cons (pv 2) pa_nil)))) (pss_one ps_never) pss_nil)
(pss_cons (ps_if (pt_cmpR (op_inU K rfl hu) (pv 2) (pv 1) (by with_unfolding_all rfl)) (pss_one ps_never) pss_nil)
(pss_one (ps_if (pt_not (pt_chain3 op_le op_le op_le (pe_un un_neg (pe_gc rfl E.c_LIMIT)) (pv 3) (pv 4) (pe_gc rfl E.c_LIMIT))) (pss_one ps_never) pss_nil))))), ?_⟩
    refine k_body (s1 := some _ :: some _ :: [none, none, none]) rfl ?_
    walk_at "s"
    refine ⟨t, _, rfl, by have := g1.2.1; omega, hS, fun H hS => ?_⟩
    rw [decide_eq_true g1]
    walk_at "s"
    exact q _ hS
theorem ok_Kind___init__ {P : Program} {w : World} {K : PySem.W.Frag} {mg : Str → Option Value} {base : Heap} (E : Env K mg) : FnOk P w K mg base CX0 3 E.a_Kind___init__ E.fd_Kind___init__ ["self", "name", "fields"] (spKindInit K E.C_Kind) := by
  refine E.F_Kind___init__.ok sc_Kind___init__ (fun vs H Q E h => ?_) (fun cdv A outer s H vs Q E' hr h => ?_)
  · walk_at "hl"
  · have hu := huOf hr
    have G_is_name := ok_is_name (P := P) (w := w) (base := base) E
    have hr_is_name := hr.mono (show 1 ≤ 2 by decide)
    have b_is_name := b_is_name E
    have G_look_field := ok_look_field (P := P) (w := w) (base := base) E
    have hr_look_field := hr.mono (show 2 ≤ 2 by decide)
    have b_look_field := b_look_field E
    have hcl_Lane := E.cl_Lane
    have hcl_Kind := E.cl_Kind
    have hna_Kind_name := E.na_Kind_name
    have hna_Kind_fields := E.na_Kind_fields
    have hcl_Page := E.cl_Page
    obtain ⟨x, f, ⟨nm, fs⟩, L, rfl, hS, hf, ⟨g1, g2, g3, g4⟩, q⟩ := h
    dsimp only at g1 g2 g3 g4 q
    refine ⟨_, PSs.nox (pss_cons (ps_if (pt_not (pt_val (pe_call G_is_name hr_is_name rfl E.g_is_name E.F_is_name.kp b_is_name .nil pass0 (pa_cons (pv 1) pa_nil)))) (pss_one ps_never) pss_nil)
(pss_cons (ps_if (pt_cmpR (op_gt) (pe_callB (call_lenU K rfl) (by rfl) E.n_len boot_len (pa_cons (pv 2) pa_nil)) (pe_gc rfl E.c_MOST_FIELDS) (nomark _)) (pss_one ps_never) pss_nil)
(pss_cons (ps_for PassesOwn.never rfl (pi_enumU K rfl rfl E.n_enumerate (pa_cons (pv 2) pa_nil)) (kGTup (n := 2) K rfl (pg_tup rfl (pgs_cons (pg_name (i := 3) sc_Kind___init__.nd rfl (Or.inl rfl)) (pgs_cons (pg_name (i := 4) sc_Kind___init__.nd rfl (Or.inl rfl)) pgs_nil))))
(pss_one (ps_expr (pe_call G_look_field hr_look_field rfl E.g_look_field E.F_look_field.kp b_look_field .nil pass0 (pa_cons (pv 4) (pa_cons (pe_lc (own := [("one", 5)]) rfl sc_Kind___init__.nd (pi_seqU K rfl (pe_slice (sl_U K rfl) (pv 2) po_none (po_some (pv 3)))) (blkOk_by (N := ["self", "name", "fields", "at", "field", "one"]) (sc := defScope s_Kind___init__) (by decide +kernel)) (fun _ _ _ _ _ => (pg_name (i := 5) sc_Kind___init__.nd rfl (Or.inl rfl))) (fun _ _ _ _ _ => pts_nil) (fun _ _ _ _ _ => (pe_ix (ix_U K rfl) (pv 5) pe_int (fun _ _ => rfl)))) pa_nil))))))
(pss_cons (kSF K rfl (ps_fld (pv 0) (pv 1) rfl))
(pss_one (kSF K rfl (ps_fld (pv 0) (pv 2) rfl))))))), ?_⟩
    refine k_body (s1 := some _ :: some _ :: some _ :: [none, none, none]) rfl ?_
    walk_at "s"
    refine ⟨nm, _, rfl, by have := g1.2.1; omega, hS, fun H hS => ?_⟩
    rw [decide_eq_true g1]
    walk_at "s"
    simp only [List.length_map]
    walk_at "s"
    refine for_wk (n := fs.length) (Y := fun i q => ∀ z T, fs[i]? = some z → q (.ref T) [im (.ref T) (.tuple [.int (i : Nat), fdD z])]) (L := inst x E.C_Kind [] :: L) (fun i σ L' => L' = inst x E.C_Kind [] :: L ∧ ∃ c1 c2 c3, σ = [some (.ref x), some (.str nm), some (.ref f), c1, c2, c3]) (fun i σ L' e => by rw [e.1]; exact wk_enI (by walk_at "mem")) hS ⟨rfl, _, _, _, rfl⟩ (fun i σ L' hi iv fd T hfd H hS => ?_) (fun σ L' H iv hS => ?_)
    · obtain ⟨rfl, c1, c2, c3, rfl⟩ := iv
      walk_at "ns"
      walk_at "s"
      have ec : cutD (fs.map fdD) none (some (i : Int)) = (fs.take i).map fdD := by rw [cutD_to (by omega), Int.toNat_natCast, List.map_take]
      rw [ec] at hS
      refine lc_flat (zs := fs.take i) (fun f => [PyData.str f.1]) hS (fun acc => wk_imm (by walk_at "mem")) (fun j f acc hf hk _ la => ?_) (fun H hS => ?_)
      · walk_at "gi"
        walk_at "ls"
        refine lc_keep hS (.str _) (by walk_at "sub") ?_ (hk _ rfl)
        have := (List.getElem?_eq_some_iff.mp hf).1
        rw [List.length_take] at this
        rw [sizeLine_eq]
        omega
      · rw [flat_map] at hS
        walk_at "s"
        refine ⟨_, _, fd, (fs.take i).map (·.1), _, rfl, hS, by walk_at "mem", ?_, g4 fd (List.mem_of_getElem? hfd), ?_, fun H hS => ?_⟩
        · rw [List.map_map]; exact List.mem_cons_self
        · intro hm
          obtain ⟨f2, h2, e2⟩ := List.mem_map.mp hm
          obtain ⟨j, hj⟩ := List.getElem?_of_mem h2
          rw [List.getElem?_take] at hj
          split at hj
          · rename_i hji
            have n1 := (List.getElem?_eq_some_iff.mp hj).1
            have x1 : (fs.map (·.1))[j]? = some fd.1 := by rw [List.getElem?_map, hj]; exact congrArg some e2
            have x2 : (fs.map (·.1))[i]? = some fd.1 := by rw [List.getElem?_map, hfd]; rfl
            have := (List.getElem?_inj (by rw [List.length_map]; exact n1) g3).mp (x1.trans x2.symm)
            omega
          · cases hj
        · walk_at "s"
          exact ⟨_, ⟨rfl, _, _, _, rfl⟩, Sub.ok (by walk_at "sub") hS⟩
    · obtain ⟨rfl, c1, c2, c3, rfl⟩ := iv
      walk_at "s"
      exact q _ (Sep.toKind (k := (nm, fs)) hS hf)
theorem ok_Kind_lowest {P : Program} {w : World} {K : PySem.W.Frag} {mg : Str → Option Value} {base : Heap} (E : Env K mg) : FnOk P w K mg base CX0 1 E.a_Kind_lowest E.fd_Kind_lowest ["self"] (spLowest K E.C_Kind) := by
  refine E.F_Kind_lowest.ok sc_Kind_lowest (fun vs H Q E h => ?_) (fun cdv A outer s H vs Q E' hr h => ?_)
  · walk_at "hl"
  · have hu := huOf hr
    have hcl_Lane := E.cl_Lane
    have hcl_Kind := E.cl_Kind
    have hna_Kind_fields := E.na_Kind_fields
    have hcl_Page := E.cl_Page
    obtain ⟨x, k, L, rfl, hS, hk, hl, q⟩ := h
    refine ⟨_, PSs.nox (pss_one (ps_ret (pe_callTy (call_tupleU K rfl) (by rfl) E.n_tuple boot_tuple (pa_cons (pe_lc (own := [("title", 1), ("low", 2), ("high", 3)]) rfl sc_Kind_lowest.nd (pi_seqU K rfl (kFld K rfl (pe_fld (pv 0) rfl))) (blkOk_by (N := ["self", "title", "low", "high"]) (sc := defScope s_Kind_lowest) (by decide +kernel)) (fun _ _ _ _ _ => (kGTup (n := 3) K rfl (pg_tup rfl (pgs_cons (pg_name (i := 1) sc_Kind_lowest.nd rfl (Or.inl rfl)) (pgs_cons (pg_name (i := 2) sc_Kind_lowest.nd rfl (Or.inl rfl)) (pgs_cons (pg_name (i := 3) sc_Kind_lowest.nd rfl (Or.inl rfl)) pgs_nil)))))) (fun _ _ _ _ _ => pts_nil) (fun _ _ _ _ _ => (pv 2))) pa_nil)))), ?_⟩
    refine k_body (s1 := some _ :: [none, none, none]) rfl ?_
    walk_at "s"
    refine lc_flat (zs := k.2) (fun f => [PyData.int f.2.1]) hS (fun acc => wk_imm (by walk_at "mem")) (fun j f acc hf hk _ la => ?_) (fun H hS => ?_)
    · walk_at "gi"
      walk_at "ls"
      refine lc_keep hS (.int _) (by walk_at "sub") ?_ (hk _ rfl)
      have := (List.getElem?_eq_some_iff.mp hf).1
      rw [sizeLine_eq]
      omega
    · rw [flat_map] at hS
      walk_at "s"
      exact q _ _ (Sub.ok (by walk_at "sub") hS)
theorem ok_Kind_cells {P : Program} {w : World} {K : PySem.W.Frag} {mg : Str → Option Value} {base : Heap} (E : Env K mg) : FnOk P w K mg base CX0 1 E.a_Kind_cells E.fd_Kind_cells ["self"] (spCells K E.C_Kind) := by
  refine E.F_Kind_cells.ok sc_Kind_cells (fun vs H Q E h => ?_) (fun cdv A outer s H vs Q E' hr h => ?_)
  · walk_at "hl"
  · have hu := huOf hr
    have hcl_Lane := E.cl_Lane
    have hcl_Kind := E.cl_Kind
    have hna_Kind_fields := E.na_Kind_fields
    have hcl_Page := E.cl_Page
    obtain ⟨x, k, L, rfl, hS, hk, q⟩ := h
    refine ⟨_, PSs.nox (pss_one (ps_ret (pe_op (op_addU K rfl) pe_int (pe_callB (call_lenU K rfl) (by rfl) E.n_len boot_len (pa_cons (kFld K rfl (pe_fld (pv 0) rfl)) pa_nil))))), ?_⟩
    refine k_body (s1 := some _ :: []) rfl ?_
    walk_at "s"
    rw [List.length_map]
    exact q
end Lw
-- own part: n4
namespace Ls
open PySem PySem.Spec PyProof.Rows L2
structure Clm where
  tick : Int
  time : Int
  kind : Kd
  vals : List Int
  mark : Str
structure Pg where
  ahead : Int
  clms : List Clm
  held : Bool
structure Ln where
  most : Int
  room : Int
  over : Bool
  book : List Pg
  pile : List Int
  latest : Option Int
  coming : Int
  last : Int
  given : Int
  back : Int
  gone : Int
  missed : Int
/-- the classes' places -/
structure Cz where
  k : Addr
  p : Addr
  l : Addr
def Clm.size (c : Clm) : Int := 1 + c.kind.2.length
def Pg.used (g : Pg) : Int := (g.clms.map Clm.size).sum
def Clm.giv (c : Clm) : Bool := decide (c.mark = "given")
def Clm.opn (c : Clm) : Bool := decide (c.mark = "open")
def Pg.events (g : Pg) : Nat := (g.clms.filter Clm.giv).length
def Pg.waits (g : Pg) : Bool := g.clms.any Clm.opn
def intsD (vs : List Int) : PyData := .tuple (vs.map PyData.int)
section
variable {K : PySem.W.Frag}
def clmF (Z : Cz) (v : V) (c : Clm) : As K := ex fun (x : Addr × Addr × Addr) => all [pr (v = .ref x.1), tu x.1 [.int c.tick, .int c.time, .ref x.2.1, .ref x.2.2, .str c.mark], kindF Z.k x.2.1 c.kind, im (.ref x.2.2) (intsD c.vals)]
instance {Z : Cz} {v : V} {c : Clm} : Dup (clmF (K := K) Z v c) := by unfold clmF; infer_instance
def pageV (c : Addr) (g : Pg) : List (Str × V) := [("ahead", .int g.ahead), ("claims", .ref c), ("held", .bl g.held)]
def pgA (Z : Cz) (v : V) (g : Pg) : As K := ex fun (x : Addr × Addr × List V) => all [pr (v = .ref x.1), inst x.1 Z.p (pageV x.2.1 g), ob x.2.1 (.lst x.2.2), al2 (clmF Z) x.2.2 g.clms]
variable {L : List (As K)} {H : Hp} {Z : Cz} {v : V} {c : Clm} {g : Pg} {x p a : Addr} {vs : List V}
theorem Sep.clm (h : Ls.Sep (clmF Z v c :: L) H) : ∃ t k d, v = .ref t ∧ Ls.Sep (tu t [.int c.tick, .int c.time, .ref k, .ref d, .str c.mark] :: kindF Z.k k c.kind :: im (.ref d) (intsD c.vals) :: clmF Z (.ref t) c :: L) H := by
  have h2 := h.dup List.mem_cons_self
  obtain ⟨⟨t, k, d⟩, h3⟩ := Sep.ex_iff.mp h2
  rw [Sep.all_iff, List.cons_append, Sep.pr_iff] at h3
  obtain ⟨rfl, h3⟩ := h3
  exact ⟨t, k, d, rfl, h3⟩
theorem Sep.toClm {t k d : Addr} (h : Ls.Sep (tu t [.int c.tick, .int c.time, .ref k, .ref d, .str c.mark] :: kindF Z.k k c.kind :: im (.ref d) (intsD c.vals) :: L) H) : Ls.Sep (clmF Z (.ref t) c :: L) H :=
  Sep.ex_iff.mpr ⟨(t, k, d), by rw [Sep.all_iff, List.cons_append, Sep.pr_iff]; exact ⟨rfl, h⟩⟩
theorem Sep.page (h : Ls.Sep (pgA Z v g :: L) H) : ∃ x c vs, v = .ref x ∧ Ls.Sep (inst x Z.p (pageV c g) :: ob c (.lst vs) :: al2 (clmF Z) vs g.clms :: L) H := by
  obtain ⟨⟨x, c, vs⟩, h3⟩ := Sep.ex_iff.mp h
  rw [Sep.all_iff, List.cons_append, Sep.pr_iff] at h3
  exact ⟨x, c, vs, h3.1, h3.2⟩
theorem Sep.toPage {fs : List (Str × V)} (h : Ls.Sep (inst x Z.p fs :: ob p (.lst vs) :: al2 (clmF Z) vs g.clms :: L) H) (e : fs = pageV p g) : Ls.Sep (pgA Z (.ref x) g :: L) H := by
  subst e
  exact Sep.ex_iff.mpr ⟨(x, p, vs), by rw [Sep.all_iff, List.cons_append, Sep.pr_iff]; exact ⟨rfl, h⟩⟩
end
def spPageInit (K : PySem.W.Frag) (Z : Cz) : Sp := fun vs H Q _ => ∃ (x : Addr) (L : List (As K)), vs = [.ref x] ∧ Ls.Sep (inst x Z.p [] :: L) H ∧ ∀ H', Ls.Sep (pgA Z (.ref x) ⟨0, [], false⟩ :: L) H' → Q .non H'
/-- asked of a page -/
def spPage (K : PySem.W.Frag) (Z : Cz) (r : Pg → V) : Sp := fun vs H Q _ => ∃ (v : V) (g : Pg) (L : List (As K)), vs = [v] ∧ g.clms.length ≤ 100 ∧ (∀ c ∈ g.clms, c.kind.2.length ≤ 4) ∧ Ls.Sep (pgA Z v g :: L) H ∧ ∀ H', Ls.Sep (pgA Z v g :: L) H' → Q (r g) H'
end Ls
namespace Lw
open PySem PySem.Spec PyProof.Rows L2 Ls
theorem ok_Page___init__ {P : Program} {w : World} {K : PySem.W.Frag} {mg : Str → Option Value} {base : Heap} (E : Env K mg) : FnOk P w K mg base CX0 1 E.a_Page___init__ E.fd_Page___init__ ["self"] (spPageInit K ⟨E.C_Kind, E.C_Page, E.C_Lane⟩) := by
  refine E.F_Page___init__.ok sc_Page___init__ (fun vs H Q E h => ?_) (fun cdv A outer s H vs Q E' hr h => ?_)
  · walk_at "hl"
  · have hu := huOf hr
    have hcl_Lane := E.cl_Lane
    have hcl_Kind := E.cl_Kind
    have hcl_Page := E.cl_Page
    have hna_Page_ahead := E.na_Page_ahead
    have hna_Page_claims := E.na_Page_claims
    have hna_Page_held := E.na_Page_held
    obtain ⟨x, L, rfl, hS, q⟩ := h
    refine ⟨_, PSs.nox (pss_cons (kSF K rfl (ps_fld (pv 0) pe_int rfl))
(pss_cons (kSF K rfl (ps_fld (pv 0) (pe_lst pa_nil) rfl))
(pss_one (kSF K rfl (ps_fld (pv 0) pe_bl rfl))))), ?_⟩
    refine k_body (s1 := some _ :: []) rfl ?_
    walk_at "s"
    have hS := Sep.nil2 (f := clmF ⟨E.C_Kind, E.C_Page, E.C_Lane⟩) hS.ldnil
    refine q _ ?_
    walk_at "tp"
theorem ok_Page_used {P : Program} {w : World} {K : PySem.W.Frag} {mg : Str → Option Value} {base : Heap} (E : Env K mg) : FnOk P w K mg base CX0 2 E.a_Page_used E.fd_Page_used ["self"] (spPage K ⟨E.C_Kind, E.C_Page, E.C_Lane⟩ (fun g => .int g.used)) := by
  refine E.F_Page_used.ok sc_Page_used (fun vs H Q E h => ?_) (fun cdv A outer s H vs Q E' hr h => ?_)
  · walk_at "hl"
  · have hu := huOf hr
    have G_Kind_cells := ok_Kind_cells (P := P) (w := w) (base := base) E
    have hr_Kind_cells := hr.mono (show 1 ≤ 1 by decide)
    have b_Kind_cells := b_Kind_cells E
    have hcl_Lane := E.cl_Lane
    have hcl_Kind := E.cl_Kind
    have hcl_Page := E.cl_Page
    have hna_Page_claims := E.na_Page_claims
    obtain ⟨v, g, L, rfl, gl, gk, hS, q⟩ := h
    replace hS := hS.page
    obtain ⟨x, p, vs, rfl, hS⟩ := hS
    refine ⟨_, PSs.nox (pss_one (ps_ret (pe_callB (cr_sumU K rfl rfl) (by rfl) E.n_sum boot_sum (pa_cons (pe_lc (own := [("claim", 1)]) rfl sc_Page_used.nd (pi_seqU K rfl (kFld K rfl (pe_fld (pv 0) rfl))) (blkOk_by (N := ["self", "claim"]) (sc := defScope s_Page_used) (by decide +kernel)) (fun _ _ _ _ _ => (pg_name (i := 1) sc_Page_used.nd rfl (Or.inl rfl))) (fun _ _ _ _ _ => pts_nil) (fun _ _ _ _ _ => (pe_meth0 (pe_ix (ix_U K rfl) (pv 1) pe_int (fun _ _ => rfl)) E.cl_Kind E.m_Kind_cells G_Kind_cells hr_Kind_cells b_Kind_cells .nil pass0))) pa_nil)))), ?_⟩
    refine k_body (s1 := some _ :: [none]) rfl ?_
    walk_at "s"
    refine lc_flat2 (fun _ (c : Clm) => [PyData.int c.size]) hS (fun acc => wk_ob2 (by walk_at "mem") (by walk_at "mem")) (fun i c acc hc hk _ la v c' hv hc' H hS => ?_) (fun H hS => ?_)
    · cases hc.symm.trans hc'
      walk_at "ns"
      replace hS := hS.clm
      obtain ⟨t, k, d, rfl, hS⟩ := hS
      walk_at "ls"
      refine ⟨_, _, _, rfl, hS, by walk_at "mem", ?_⟩
      refine lc_keep hS (.int _) (by walk_at "sub") ?_ (hk _ rfl)
      have := (List.getElem?_eq_some_iff.mp hc).1
      rw [sizeLine_eq]
      omega
    · rw [flat2_map (fun c : Clm => PyData.int c.size)] at hS
      refine k_sumS hS List.mem_cons_self ?_
      refine q _ ?_
      walk_at "tp"
theorem ok_Page_events {P : Program} {w : World} {K : PySem.W.Frag} {mg : Str → Option Value} {base : Heap} (E : Env K mg) : FnOk P w K mg base CX0 1 E.a_Page_events E.fd_Page_events ["self"] (spPage K ⟨E.C_Kind, E.C_Page, E.C_Lane⟩ (fun g => .int g.events)) := by
  refine E.F_Page_events.ok sc_Page_events (fun vs H Q E h => ?_) (fun cdv A outer s H vs Q E' hr h => ?_)
  · walk_at "hl"
  · have hu := huOf hr
    have hcl_Lane := E.cl_Lane
    have hcl_Kind := E.cl_Kind
    have hcl_Page := E.cl_Page
    have hna_Page_claims := E.na_Page_claims
    obtain ⟨v, g, L, rfl, gl, gk, hS, q⟩ := h
    replace hS := hS.page
    obtain ⟨x, p, vs, rfl, hS⟩ := hS
    refine ⟨_, PSs.nox (pss_one (ps_ret (pe_callB (call_lenU K rfl) (by rfl) E.n_len boot_len (pa_cons (pe_lc (own := [("claim", 1)]) rfl sc_Page_events.nd (pi_seqU K rfl (kFld K rfl (pe_fld (pv 0) rfl))) (blkOk_by (N := ["self", "claim"]) (sc := defScope s_Page_events) (by decide +kernel)) (fun _ _ _ _ _ => (pg_name (i := 1) sc_Page_events.nd rfl (Or.inl rfl))) (fun _ _ _ _ _ => (pts_one (pt_cmpR (op_eqU K rfl hu) (pe_ix (ix_U K rfl) (pv 1) pe_int (fun _ _ => rfl)) pe_str (nomark _)))) (fun _ _ _ _ _ => (pv 1))) pa_nil)))), ?_⟩
    refine k_body (s1 := some _ :: [none]) rfl ?_
    walk_at "s"
    refine lc_filt Clm.giv hS (fun acc N => wk_ob2 (by walk_at "mem") (by walk_at "mem")) (fun i v c acc N hv hc la li eN kp sk H hS => ?_) (fun acc H hS => ?_)
    · replace hS := hS.clm
      obtain ⟨t, k, d, rfl, hS⟩ := hS
      walk_at "ls"
      by_cases e : c.mark = "given"
      · rw [if_pos (decide_eq_true e)]
        walk_at "s"
        exact kp (decide_eq_true e) hS (by walk_at "sub") (by rw [sizeLine_eq]; omega)
      · rw [if_neg (by rw [decide_eq_false e]; exact Bool.false_ne_true)]
        exact sk (decide_eq_false e) hS (by walk_at "sub")
    · have := hS.len2 (List.mem_cons_of_mem _ List.mem_cons_self)
      walk_at "s"
      rw [this]
      refine q _ ?_
      walk_at "tp"
theorem ok_Page_waits {P : Program} {w : World} {K : PySem.W.Frag} {mg : Str → Option Value} {base : Heap} (E : Env K mg) : FnOk P w K mg base CX0 1 E.a_Page_waits E.fd_Page_waits ["self"] (spPage K ⟨E.C_Kind, E.C_Page, E.C_Lane⟩ (fun g => .bl g.waits)) := by
  refine E.F_Page_waits.ok sc_Page_waits (fun vs H Q E h => ?_) (fun cdv A outer s H vs Q E' hr h => ?_)
  · walk_at "hl"
  · have hu := huOf hr
    have hcl_Lane := E.cl_Lane
    have hcl_Kind := E.cl_Kind
    have hcl_Page := E.cl_Page
    have hna_Page_claims := E.na_Page_claims
    obtain ⟨v, g, L, rfl, gl, gk, hS, q⟩ := h
    replace hS := hS.page
    obtain ⟨x, p, vs, rfl, hS⟩ := hS
    refine ⟨_, PSs.nox (pss_one (ps_ret (pe_callB (cr_anyU K rfl rfl) (by rfl) E.n_any boot_any (pa_cons (pe_lc (own := [("claim", 1)]) rfl sc_Page_waits.nd (pi_seqU K rfl (kFld K rfl (pe_fld (pv 0) rfl))) (blkOk_by (N := ["self", "claim"]) (sc := defScope s_Page_waits) (by decide +kernel)) (fun _ _ _ _ _ => (pg_name (i := 1) sc_Page_waits.nd rfl (Or.inl rfl))) (fun _ _ _ _ _ => pts_nil) (fun _ _ _ _ _ => (pe_cmpR (op_eqU K rfl hu) (pe_ix (ix_U K rfl) (pv 1) pe_int (fun _ _ => rfl)) pe_str (nomark _)))) pa_nil)))), ?_⟩
    refine k_body (s1 := some _ :: [none]) rfl ?_
    walk_at "s"
    refine lc_flat2 (fun _ (c : Clm) => [PyData.bool c.opn]) hS (fun acc => wk_ob2 (by walk_at "mem") (by walk_at "mem")) (fun i c acc hc hk _ la v c' hv hc' H hS => ?_) (fun H hS => ?_)
    · cases hc.symm.trans hc'
      walk_at "ns"
      replace hS := hS.clm
      obtain ⟨t, k, d, rfl, hS⟩ := hS
      walk_at "ls"
      refine lc_keep hS (.bl _) (by walk_at "sub") ?_ (hk _ rfl)
      have := (List.getElem?_eq_some_iff.mp hc).1
      rw [sizeLine_eq]
      omega
    · rw [flat2_map (fun c : Clm => PyData.bool c.opn)] at hS
      refine k_anyS hS List.mem_cons_self ?_
      refine q _ ?_
      walk_at "tp"
end Lw
-- own part: n5
namespace Ls
open PySem PySem.Spec PyProof.Rows L2
def oiV : Option Int → V
  | none => .non
  | some i => .int i
def laneV (bk pl : Addr) (l : Ln) : List (Str × V) := [("most", .int l.most), ("room", .int l.room), ("over", .bl l.over), ("book", .ref bk), ("pile", .ref pl), ("latest", oiV l.latest), ("coming", .int l.coming), ("last_ticket", .int l.last), ("given", .int l.given), ("back_thrown", .int l.back), ("gone", .int l.gone), ("missed", .int l.missed)]
section
variable {K : PySem.W.Frag}
def laneA (Z : Cz) (v : V) (l : Ln) : As K := ex fun (x : Addr × Addr × Addr × List V) => all [pr (v = .ref x.1), inst x.1 Z.l (laneV x.2.1 x.2.2.1 l), ob x.2.1 (.lst x.2.2.2), Ls.ld x.2.2.1 (l.pile.map PyData.int), al2 (pgA Z) x.2.2.2 l.book]
variable {L : List (As K)} {H : Hp} {Z : Cz} {v w : V} {c : Clm} {g : Pg} {l : Ln} {x p a bk pl : Addr} {vs : List V} {f : Str}
theorem Sep.lane (h : Ls.Sep (laneA Z v l :: L) H) : ∃ x bk pl vs, v = .ref x ∧ Ls.Sep (inst x Z.l (laneV bk pl l) :: ob bk (.lst vs) :: Ls.ld pl (l.pile.map PyData.int) :: al2 (pgA Z) vs l.book :: L) H := by
  obtain ⟨⟨x, bk, pl, vs⟩, h3⟩ := Sep.ex_iff.mp h
  rw [Sep.all_iff, List.cons_append, Sep.pr_iff] at h3
  exact ⟨x, bk, pl, vs, h3.1, h3.2⟩
theorem Sep.toLane {fs : List (Str × V)} {ds : List PyData} {gs : List Pg} (h : Ls.Sep (inst x Z.l fs :: ob bk (.lst vs) :: Ls.ld pl ds :: al2 (pgA Z) vs gs :: L) H) (e : fs = laneV bk pl l) (e2 : ds = l.pile.map PyData.int) (e3 : gs = l.book) : Ls.Sep (laneA Z (.ref x) l :: L) H := by
  subst e e2 e3
  exact Sep.ex_iff.mpr ⟨(x, bk, pl, vs), by rw [Sep.all_iff, List.cons_append, Sep.pr_iff]; exact ⟨rfl, h⟩⟩
/-- an attribute of a lane that is no list of it -/
theorem k_fldL {R : V → Prop} (h : Ls.Sep L H) (m : laneA Z v l ∈ L) (c : Cls K Z.l) (n : NoAttr K Z.l f) (e : ∀ bk pl, (laneV bk pl l).lookup f = some w) (q : R w) : ∃ a' C' dx fs v', v = .ref a' ∧ H a' = some (.ins C' dx fs) ∧ Cls K C' ∧ NoAttr K C' f ∧ fs.lookup f = some v' ∧ R v' := by
  obtain ⟨M, hM⟩ := Rem.of_mem m
  obtain ⟨x, bk, pl, vs, rfl, h2⟩ := (h.rem hM).lane
  exact k_fldS h2 List.mem_cons_self c n (e bk pl) q
theorem k_recvL {R : Prop} (h : Ls.Sep L H) (m : laneA Z v l ∈ L) (e : ∀ bk pl, (laneV bk pl l).lookup f = none) (q : R) : ∃ a' dx fs, v = .ref a' ∧ H a' = some (.ins Z.l dx fs) ∧ fs.lookup f = none ∧ R := by
  obtain ⟨M, hM⟩ := Rem.of_mem m
  obtain ⟨x, bk, pl, vs, rfl, h2⟩ := (h.rem hM).lane
  exact k_recvI (R := fun _ => R) h2 List.mem_cons_self (e bk pl) q
theorem k_recvLA {R : Addr → Prop} (h : Ls.Sep L H) (m : laneA Z (.ref a) l ∈ L) (e : ∀ bk pl, (laneV bk pl l).lookup f = none) (q : R a) : ∃ a' dx fs, V.ref a = .ref a' ∧ H a' = some (.ins Z.l dx fs) ∧ fs.lookup f = none ∧ R a' := by
  obtain ⟨M, hM⟩ := Rem.of_mem m
  obtain ⟨x, bk, pl, vs, ev, h2⟩ := (h.rem hM).lane
  cases ev
  exact k_recvI h2 List.mem_cons_self (e bk pl) q
theorem k_recvP {R : Prop} (h : Ls.Sep L H) (m : pgA Z v g ∈ L) (e : ∀ c, (pageV c g).lookup f = none) (q : R) : ∃ a' dx fs, v = .ref a' ∧ H a' = some (.ins Z.p dx fs) ∧ fs.lookup f = none ∧ R := by
  obtain ⟨M, hM⟩ := Rem.of_mem m
  obtain ⟨x, c, vs, rfl, h2⟩ := (h.rem hM).page
  exact k_recvI (R := fun _ => R) h2 List.mem_cons_self (e c) q
theorem k_fldP {R : V → Prop} (h : Ls.Sep L H) (m : pgA Z v g ∈ L) (c : Cls K Z.p) (n : NoAttr K Z.p f) (e : ∀ c, (pageV c g).lookup f = some w) (q : R w) : ∃ a' C' dx fs v', v = .ref a' ∧ H a' = some (.ins C' dx fs) ∧ Cls K C' ∧ NoAttr K C' f ∧ fs.lookup f = some v' ∧ R v' := by
  obtain ⟨M, hM⟩ := Rem.of_mem m
  obtain ⟨x, p, vs, rfl, h2⟩ := (h.rem hM).page
  exact k_fldS h2 List.mem_cons_self c n (e p) q
theorem Sep.opnP {i : Nat} {gs : List Pg} (h : Ls.Sep (al2 (pgA Z) vs gs :: L) H) (h1 : vs[i]? = some v) (h2 : gs[i]? = some g) : Ls.Sep (pgA Z v g :: al2 (pgA Z) (vs.eraseIdx i) (gs.eraseIdx i) :: L) H := h.opn h1 h2
theorem Sep.clsP {i : Nat} {gs : List Pg} (h : Ls.Sep (pgA Z v g :: al2 (pgA Z) (vs.eraseIdx i) (gs.eraseIdx i) :: L) H) (h1 : vs[i]? = some v) (h2 : gs[i]? = some g) : Ls.Sep (al2 (pgA Z) vs gs :: L) H := h.cls' h1 h2
theorem Sep.setP {i : Nat} {gs : List Pg} (h : Ls.Sep (pgA Z v g :: al2 (pgA Z) (vs.eraseIdx i) (gs.eraseIdx i) :: L) H) (h1 : vs[i]? = some v) (h2 : i < gs.length) : Ls.Sep (al2 (pgA Z) vs (gs.set i g) :: L) H := h.cls h1 h2
theorem Sep.oneP (h : Ls.Sep (pgA Z v g :: L) H) : Ls.Sep (al2 (pgA Z) [v] [g] :: L) H := Sep.snoc (vs := []) (zs := []) ((Sep.nil2 (f := pgA Z) h).perm (.swap _ _ _))
end
/-! ### what a lane does -/
def Pg.fine (g : Pg) : Prop := g.clms.length ≤ 100 ∧ ∀ c ∈ g.clms, c.kind.2.length ≤ 4
def freeL (b : List Pg) : List Int := (b.zipIdx.filter fun z => !z.1.held).map fun z => (z.2 : Int)
def newLn (pages room : Int) (over : Bool) : Ln := ⟨pages, room, over, [⟨0, [], false⟩], [], none, 0, 0, 0, 0, 0, 0⟩
def leaveB (i : Nat) (b : List Pg) : List Pg :=
  match b[i]?, (b.eraseIdx i)[i]? with
  | some g, some h => (b.eraseIdx i).set i { h with ahead := h.ahead + (g.ahead + g.events) }
  | _, _ => b
def manyB (i : Nat) (b : List Pg) : Int :=
  match b[i]? with
  | some g => g.events
  | none => 0
def leaveL (i : Nat) (lost : Bool) (l : Ln) : Ln := { l with book := leaveB i l.book, gone := if lost then l.gone + manyB i l.book else l.gone }
def spLookPages (K : PySem.W.Frag) : Sp := fun vs H Q _ => ∃ (n : Int), vs = [.int n] ∧ 2 ≤ n ∧ n ≤ 16 ∧ Q .non H
def spLaneInit (K : PySem.W.Frag) (Z : Cz) : Sp := fun vs H Q _ => ∃ (x : Addr) (n m : Int) (b : Bool) (L : List (As K)), vs = [.ref x, .int n, .int m, .bl b] ∧ 2 ≤ n ∧ n ≤ 16 ∧ 5 ≤ m ∧ m ≤ 12 ∧ Ls.Sep (inst x Z.l [] :: L) H ∧ ∀ H', Ls.Sep (laneA Z (.ref x) (newLn n m b) :: L) H' → Q .non H'
def spFree (K : PySem.W.Frag) (Z : Cz) : Sp := fun vs H Q _ => ∃ (v : V) (l : Ln) (L : List (As K)), vs = [v] ∧ l.book.length ≤ 1000 ∧ Ls.Sep (laneA Z v l :: L) H ∧ ∀ p H', Ls.Sep (Ls.ld p ((freeL l.book).map PyData.int) :: laneA Z v l :: L) H' → Q (.ref p) H'
def spLeave (K : PySem.W.Frag) (Z : Cz) : Sp := fun vs H Q _ => ∃ (v : V) (i : Nat) (b : Bool) (l : Ln) (L : List (As K)), vs = [v, .int i, .bl b] ∧ l.book.length ≤ 1000 ∧ i + 1 < l.book.length ∧ (∀ g ∈ l.book, g.fine) ∧ Ls.Sep (laneA Z v l :: L) H ∧ ∀ H', Ls.Sep (laneA Z v (leaveL i b l) :: L) H' → Q .non H'
end Ls
namespace Lw
open PySem PySem.Spec PyProof.Rows L2 Ls
theorem ok_look_pages {P : Program} {w : World} {K : PySem.W.Frag} {mg : Str → Option Value} {base : Heap} (E : Env K mg) : FnOk P w K mg base CX0 1 E.a_look_pages E.fd_look_pages ["pages"] (spLookPages K) := by
  refine E.F_look_pages.ok sc_look_pages (fun vs H Q E h => ?_) (fun cdv A outer s H vs Q E' hr h => ?_)
  · walk_at "hl"
  · have hu := huOf hr
    have hcl_Lane := E.cl_Lane
    have hcl_Kind := E.cl_Kind
    have hcl_Page := E.cl_Page
    obtain ⟨n, rfl, h1, h2, q⟩ := h
    refine ⟨_, PSs.nox (pss_one (ps_if (pt_not (pt_chain op_le op_le (pe_gc rfl E.c_LEAST_PAGES) (pv 0) (pe_gc rfl E.c_MOST_PAGES))) (pss_one ps_never) pss_nil)), ?_⟩
    refine k_body (s1 := some _ :: []) rfl ?_
    walk_at "s"
    exact q
theorem ok_Lane___init__ {P : Program} {w : World} {K : PySem.W.Frag} {mg : Str → Option Value} {base : Heap} (E : Env K mg) : FnOk P w K mg base CX0 3 E.a_Lane___init__ E.fd_Lane___init__ ["self", "pages", "room", "over"] (spLaneInit K ⟨E.C_Kind, E.C_Page, E.C_Lane⟩) := by
  refine E.F_Lane___init__.ok sc_Lane___init__ (fun vs H Q E h => ?_) (fun cdv A outer s H vs Q E' hr h => ?_)
  · walk_at "hl"
  · have hu := huOf hr
    have G_look_pages := ok_look_pages (P := P) (w := w) (base := base) E
    have hr_look_pages := hr.mono (show 1 ≤ 2 by decide)
    have b_look_pages := b_look_pages E
    have G_Page___init__ := ok_Page___init__ (P := P) (w := w) (base := base) E
    have hr_Page___init__ := hr.mono (show 1 ≤ 2 by decide)
    have hrm_Page := hr.mono (show 1 + 1 ≤ 2 by decide)
    have b_Page___init__ := b_Page___init__ E
    have hcl_Lane := E.cl_Lane
    have hna_Lane_most := E.na_Lane_most
    have hna_Lane_room := E.na_Lane_room
    have hna_Lane_over := E.na_Lane_over
    have hna_Lane_book := E.na_Lane_book
    have hna_Lane_pile := E.na_Lane_pile
    have hna_Lane_latest := E.na_Lane_latest
    have hna_Lane_coming := E.na_Lane_coming
    have hna_Lane_last_ticket := E.na_Lane_last_ticket
    have hna_Lane_given := E.na_Lane_given
    have hna_Lane_back_thrown := E.na_Lane_back_thrown
    have hna_Lane_gone := E.na_Lane_gone
    have hna_Lane_missed := E.na_Lane_missed
    have hcl_Kind := E.cl_Kind
    have hcl_Page := E.cl_Page
    obtain ⟨x, n, m, b, L, rfl, h1, h2, h3, h4, hS, q⟩ := h
    refine ⟨_, PSs.nox (pss_cons (ps_expr (pe_call G_look_pages hr_look_pages rfl E.g_look_pages E.F_look_pages.kp b_look_pages .nil pass0 (pa_cons (pv 1) pa_nil)))
(pss_cons (ps_if (pt_not (pt_chain op_le op_le (pe_gc rfl E.c_LEAST_ROOM) (pv 2) (pe_gc rfl E.c_MOST_ROOM))) (pss_one ps_never) pss_nil)
(pss_cons (kSF K rfl (ps_fld (pv 0) (pv 1) rfl))
(pss_cons (kSF K rfl (ps_fld (pv 0) (pv 2) rfl))
(pss_cons (kSF K rfl (ps_fld (pv 0) (pv 3) rfl))
(pss_cons (kSF K rfl (ps_fld (pv 0) (pe_lst (pa_cons (pe_make0 E.mk_Page G_Page___init__ hrm_Page rfl E.g_Page b_Page___init__ .nil pass0) pa_nil)) rfl))
(pss_cons (kSF K rfl (ps_fld (pv 0) (pe_lst pa_nil) rfl))
(pss_cons (kSF K rfl (ps_fld (pv 0) pe_non rfl))
(pss_cons (ps_asg2 pe_int (pg_fld K rfl (pv 0)) (pg_fld K rfl (pv 0)))
(pss_one (ps_asg (pe_tup (pa_cons pe_int (pa_cons pe_int (pa_cons pe_int (pa_cons pe_int pa_nil))))) (kGTup (n := 4) K rfl (pg_tup rfl (pgs_cons (pg_fld K rfl (pv 0)) (pgs_cons (pg_fld K rfl (pv 0)) (pgs_cons (pg_fld K rfl (pv 0)) (pgs_cons (pg_fld K rfl (pv 0)) pgs_nil))))))))))))))))), ?_⟩
    refine k_body (s1 := some _ :: some _ :: some _ :: some _ :: []) rfl ?_
    walk_at "s"
    refine ⟨n, rfl, h1, h2, ?_⟩
    walk_at "s"
    refine ⟨_, _, rfl, hS, fun H hS => ⟨rfl, ?_⟩⟩
    replace hS := hS.oneP
    walk_at "s"
    refine q _ ?_
    walk_at "tl"
theorem ok_Lane_free_pages {P : Program} {w : World} {K : PySem.W.Frag} {mg : Str → Option Value} {base : Heap} (E : Env K mg) : FnOk P w K mg base CX0 1 E.a_Lane_free_pages E.fd_Lane_free_pages ["self"] (spFree K ⟨E.C_Kind, E.C_Page, E.C_Lane⟩) := by
  refine E.F_Lane_free_pages.ok sc_Lane_free_pages (fun vs H Q E h => ?_) (fun cdv A outer s H vs Q E' hr h => ?_)
  · walk_at "hl"
  · have hu := huOf hr
    have hcl_Lane := E.cl_Lane
    have hna_Lane_book := E.na_Lane_book
    have hcl_Kind := E.cl_Kind
    have hcl_Page := E.cl_Page
    have hna_Page_held := E.na_Page_held
    obtain ⟨v, l, L, rfl, hl, hS, q⟩ := h
    replace hS := hS.lane
    obtain ⟨x, bk, pl, ps, rfl, hS⟩ := hS
    refine ⟨_, PSs.nox (pss_one (ps_ret (pe_lc (own := [("at", 1), ("page", 2)]) rfl sc_Lane_free_pages.nd (pi_enumU K rfl rfl E.n_enumerate (pa_cons (kFld K rfl (pe_fld (pv 0) rfl)) pa_nil)) (blkOk_by (N := ["self", "at", "page"]) (sc := defScope s_Lane_free_pages) (by decide +kernel)) (fun _ _ _ _ _ => (kGTup (n := 2) K rfl (pg_tup rfl (pgs_cons (pg_name (i := 1) sc_Lane_free_pages.nd rfl (Or.inl rfl)) (pgs_cons (pg_name (i := 2) sc_Lane_free_pages.nd rfl (Or.inl rfl)) pgs_nil))))) (fun _ _ _ _ _ => (pts_one (pt_not (pt_val (kFld K rfl (pe_fld (pv 2) rfl)))))) (fun _ _ _ _ _ => (pv 1))))), ?_⟩
    refine k_body (s1 := some _ :: [none, none]) rfl ?_
    walk_at "s"
    refine lc_flat2 (fun i (g : Pg) => if (!g.held) = true then [PyData.int (i : Nat)] else []) hS (fun acc => wk_en2 (by walk_at "mem") (by walk_at "mem")) (fun i g acc hg hk hn la v g' T hv hg' H hS => ?_) (fun H hS => ?_)
    · cases hg.symm.trans hg'
      walk_at "ns"
      replace hS := (hS.rem (by walk_at "rem")).opnP hv hg
      have hi := (List.getElem?_eq_some_iff.mp hg).1
      walk_at "ls"
      have hz : (if (!g.held) = true then [PyData.int (i : Nat)] else []) = (if (!g.held) = true then [PyData.int (i : Nat)] else []) := rfl
      by_cases e : g.held = true
      · rw [e] at hk hn ⊢
        walk_at "s"
        replace hS := Sep.clsP (Sub.ok (by walk_at "sub") hS) hv hg
        exact lc_skip hS (by walk_at "sub") (hn rfl)
      · have e := Bool.not_eq_true _ ▸ e
        rw [e] at hk hn ⊢
        walk_at "s"
        replace hS := Sep.clsP (Sub.ok (by walk_at "sub") hS) hv hg
        exact lc_keep hS (.int _) (by walk_at "sub") (by rw [sizeLine_eq]; omega) (hk _ rfl)
    · rw [flat_filter (fun z : Pg × Nat => !z.1.held) (fun z => PyData.int (z.2 : Nat))] at hS
      have e : (freeL l.book).map PyData.int = ((l.book.zipIdx.filter fun z => !z.1.held).map fun z => PyData.int (z.2 : Nat)) := by
        unfold freeL
        rw [List.map_map]
        rfl
      rw [← e] at hS
      walk_at "s"
      refine q _ _ ?_
      have hS := Sep.toLane (l := l) (L := Ls.ld p ((freeL l.book).map PyData.int) :: L) (Sub.ok (by walk_at "sub") hS) rfl rfl rfl
      exact Sub.ok (by walk_at "sub") hS
theorem ok_Lane_leave {P : Program} {w : World} {K : PySem.W.Frag} {mg : Str → Option Value} {base : Heap} (E : Env K mg) : FnOk P w K mg base CX0 2 E.a_Lane_leave E.fd_Lane_leave ["self", "at", "lost"] (spLeave K ⟨E.C_Kind, E.C_Page, E.C_Lane⟩) := by
  refine E.F_Lane_leave.ok sc_Lane_leave (fun vs H Q E h => ?_) (fun cdv A outer s H vs Q E' hr h => ?_)
  · walk_at "hl"
  · have hu := huOf hr
    have G_Page_events := ok_Page_events (P := P) (w := w) (base := base) E
    have hr_Page_events := hr.mono (show 1 ≤ 1 by decide)
    have b_Page_events := b_Page_events E
    have hcl_Lane := E.cl_Lane
    have hna_Lane_book := E.na_Lane_book
    have hna_Lane_gone := E.na_Lane_gone
    have hcl_Kind := E.cl_Kind
    have hcl_Page := E.cl_Page
    have hna_Page_ahead := E.na_Page_ahead
    obtain ⟨v, i, b, l, L, rfl, hl, hi, hg, hS, q⟩ := h
    replace hS := hS.lane
    obtain ⟨x, bk, pl, ps, rfl, hS⟩ := hS
    have hlen := hS.len2 (by walk_at "mem")
    obtain ⟨v, hv⟩ : ∃ v, ps[i]? = some v := ⟨_, List.getElem?_eq_getElem (by omega)⟩
    obtain ⟨g, hgi⟩ : ∃ g, l.book[i]? = some g := ⟨_, List.getElem?_eq_getElem (by omega)⟩
    refine ⟨_, PSs.nox (pss_cons (ps_set (i := 3) sc_Lane_leave.nd rfl (Or.inl rfl) (kBM K rfl (pe_bm PySem.F.plainAttrs_list PySem.F.slot_list_pop PySem.F.type_list_pop mt_popAt (kFld K rfl (pe_fld (pv 0) rfl)) (pa_cons (pv 1) pa_nil))))
(pss_cons (ps_set (i := 4) sc_Lane_leave.nd rfl (Or.inl rfl) (pe_meth0 (pv 3) E.cl_Page E.m_Page_events G_Page_events hr_Page_events b_Page_events .nil pass0))
(pss_cons (kSFA K rfl (ps_fldaug (pe_ix (ix_U K rfl) (kFld K rfl (pe_fld (pv 0) rfl)) (pv 1) (fun _ _ => rfl)) (pe_op (op_addU K rfl) (kFld K rfl (pe_fld (pv 3) rfl)) (pv 4)) in_add))
(pss_one (ps_if (pt_val (pv 2)) (pss_one (kSFA K rfl (ps_fldaug (pv 0) (pv 4) in_add))) pss_nil))))), ?_⟩
    refine k_body (s1 := some _ :: some _ :: some _ :: [none, none]) rfl ?_
    walk_at "s"
    replace hS := (hS.rem (by walk_at "rem")).opnP hv hgi
    walk_at "s"
    have fine := hg g (List.mem_of_getElem? hgi)
    refine ⟨v, g, _, rfl, fine.1, fine.2, hS, fun H hS => ?_⟩
    walk_at "s"
    have l1 := List.length_eraseIdx_of_lt (l := ps) (i := i) (by omega)
    have l2 := List.length_eraseIdx_of_lt (l := l.book) (i := i) (by omega)
    obtain ⟨v2, hv2⟩ : ∃ v, (ps.eraseIdx i)[i]? = some v := ⟨_, List.getElem?_eq_getElem (by omega)⟩
    obtain ⟨g2, hg2⟩ : ∃ g, (l.book.eraseIdx i)[i]? = some g := ⟨_, List.getElem?_eq_getElem (by omega)⟩
    have hx := atI_nat hv2
    replace hS := (hS.rem (by walk_at "rem")).opnP hv2 hg2
    replace hS := hS.page
    obtain ⟨x2, c2, us2, rfl, hS⟩ := hS
    walk_at "s"
    dsimp only
    walk_at "s"
    have tp : ∀ {fs : List (Str × V)} {M : List (As K)} {H : Hp}, Ls.Sep (inst x2 E.C_Page fs :: ob c2 (.lst us2) :: al2 (clmF ⟨E.C_Kind, E.C_Page, E.C_Lane⟩) us2 g2.clms :: al2 (pgA ⟨E.C_Kind, E.C_Page, E.C_Lane⟩) ((ps.eraseIdx i).eraseIdx i) ((l.book.eraseIdx i).eraseIdx i) :: M) H → fs = pageV c2 { g2 with ahead := g2.ahead + (g.ahead + g.events) } → Ls.Sep (al2 (pgA ⟨E.C_Kind, E.C_Page, E.C_Lane⟩) (ps.eraseIdx i) (leaveB i l.book) :: M) H := fun {fs M H} h e => by
      have h2 := Sep.toPage (Z := ⟨E.C_Kind, E.C_Page, E.C_Lane⟩) (g := { g2 with ahead := g2.ahead + (g.ahead + g.events) }) h e
      have h3 := h2.setP hv2 (by omega)
      unfold leaveB
      rw [hgi, hg2]
      exact h3
    have em : manyB i l.book = g.events := by unfold manyB; rw [hgi]
    cases b with
    | true =>
      walk_at "s"
      rw [← em] at hS tp
      replace hS := tp (Sub.ok (by walk_at "sub") hS) (by rfl)
      refine q _ ?_
      walk_at "tl"
    | false =>
      walk_at "s"
      replace hS := tp (Sub.ok (by walk_at "sub") hS) (by rfl)
      refine q _ ?_
      walk_at "tl"
end Lw
-- own part: n6
namespace Ls
open PySem PySem.Spec PyProof.Rows L2
theorem Sep.snocP {K : PySem.W.Frag} {L : List (As K)} {H : Hp} {Z : Cz} {v : V} {g : Pg} {vs : List V} {gs : List Pg} (h : Ls.Sep (pgA Z v g :: al2 (pgA Z) vs gs :: L) H) : Ls.Sep (al2 (pgA Z) (vs ++ [v]) (gs ++ [g]) :: L) H := h.snoc
def freeN (b : List Pg) : List Nat := (b.zipIdx.filter fun z => !z.1.held).map (·.2)
theorem freeL_eq (b : List Pg) : freeL b = (freeN b).map fun i : Nat => (i : Int) := by
  unfold freeL freeN
  rw [List.map_map]
  rfl
theorem freeN_two {b : List Pg} {i j : Nat} {r : List Nat} (h : freeN b = i :: j :: r) : i < j ∧ j < b.length := by
  have s : (freeN b).Sublist (b.zipIdx.map (·.2)) := (List.filter_sublist).map _
  rw [List.zipIdx_map_snd] at s
  have p : (freeN b).Pairwise (· < ·) := List.Pairwise.sublist s List.pairwise_lt_range'
  rw [h] at p s
  refine ⟨(List.pairwise_cons.mp p).1 j List.mem_cons_self, ?_⟩
  have := s.subset (List.mem_cons_of_mem _ List.mem_cons_self)
  rw [List.mem_range'_1] at this
  omega
def waitsB (i : Nat) (b : List Pg) : Bool :=
  match b[i]? with
  | some g => g.waits
  | none => false
def blocked (l : Ln) : Bool := decide (l.most ≤ ((freeN l.book).length : Nat)) && (!l.over || waitsB ((freeN l.book).headD 0) l.book)
def turn0 (l : Ln) : Ln := if l.most ≤ ((freeN l.book).length : Nat) then leaveL ((freeN l.book).headD 0) true l else l
def newPg : Pg := ⟨0, [], false⟩
def turn1 (l : Ln) : Ln := { turn0 l with book := (turn0 l).book ++ [newPg] }
def turnL (l : Ln) : Bool × Ln := if blocked l then (false, l) else (true, turn1 l)
structure Ln.fine (l : Ln) : Prop where
  most : 2 ≤ l.most
  len : l.book.length ≤ 900
  pgs : ∀ g ∈ l.book, g.fine
theorem leaveB_len {i : Nat} {b : List Pg} : (leaveB i b).length ≤ b.length := by
  unfold leaveB
  split
  · rw [List.length_set, List.length_eraseIdx]
    split <;> omega
  · exact Nat.le_refl _
theorem turn0_len {l : Ln} : (turn0 l).book.length ≤ l.book.length := by
  unfold turn0
  split
  · exact leaveB_len
  · exact Nat.le_refl _
def spTurn (K : PySem.W.Frag) (Z : Cz) : Sp := fun vs H Q _ => ∃ (v : V) (l : Ln) (L : List (As K)), vs = [v] ∧ l.fine ∧ Ls.Sep (laneA Z v l :: L) H ∧ ∀ H', Ls.Sep (laneA Z v (turnL l).2 :: L) H' → Q (.bl (turnL l).1) H'
def usesL (l : Ln) : List Int := l.book.map Pg.used
def spPages (K : PySem.W.Frag) (Z : Cz) : Sp := fun vs H Q _ => ∃ (v : V) (l : Ln) (L : List (As K)), vs = [v] ∧ l.fine ∧ Ls.Sep (laneA Z v l :: L) H ∧ ∀ p H', Ls.Sep (Ls.ld p ((usesL l).map PyData.int) :: laneA Z v l :: L) H' → Q (.ref p) H'
def spPending (K : PySem.W.Frag) (Z : Cz) : Sp := fun vs H Q _ => ∃ (v : V) (l : Ln) (L : List (As K)), vs = [v] ∧ Ls.Sep (laneA Z v l :: L) H ∧ ∀ p H', Ls.Sep (Ls.ld p (l.pile.map PyData.int) :: laneA Z v l :: L) H' → Q (.ref p) H'
end Ls
namespace Lw
open PySem PySem.Spec PyProof.Rows L2 Ls
theorem ok_Lane_turn_page {P : Program} {w : World} {K : PySem.W.Frag} {mg : Str → Option Value} {base : Heap} (E : Env K mg) : FnOk P w K mg base CX0 3 E.a_Lane_turn_page E.fd_Lane_turn_page ["self"] (spTurn K ⟨E.C_Kind, E.C_Page, E.C_Lane⟩) := by
  refine E.F_Lane_turn_page.ok sc_Lane_turn_page (fun vs H Q E h => ?_) (fun cdv A outer s H vs Q E' hr h => ?_)
  · walk_at "hl"
  · have hu := huOf hr
    have G_Lane_free_pages := ok_Lane_free_pages (P := P) (w := w) (base := base) E
    have hr_Lane_free_pages := hr.mono (show 1 ≤ 2 by decide)
    have b_Lane_free_pages := b_Lane_free_pages E
    have G_Lane_leave := ok_Lane_leave (P := P) (w := w) (base := base) E
    have hr_Lane_leave := hr.mono (show 2 ≤ 2 by decide)
    have G_Page___init__ := ok_Page___init__ (P := P) (w := w) (base := base) E
    have hr_Page___init__ := hr.mono (show 1 ≤ 2 by decide)
    have hrm_Page := hr.mono (show 1 + 1 ≤ 2 by decide)
    have b_Page___init__ := b_Page___init__ E
    have G_Page_waits := ok_Page_waits (P := P) (w := w) (base := base) E
    have hr_Page_waits := hr.mono (show 1 ≤ 2 by decide)
    have b_Page_waits := b_Page_waits E
    have hcl_Lane := E.cl_Lane
    have hna_Lane_most := E.na_Lane_most
    have hna_Lane_over := E.na_Lane_over
    have hna_Lane_book := E.na_Lane_book
    have hcl_Kind := E.cl_Kind
    have hcl_Page := E.cl_Page
    have kb_Lane_leave__lost := kb_Lane_leave__lost E
    obtain ⟨v, l, L, rfl, ⟨hm, hl, hp⟩, hS, q⟩ := h
    refine ⟨_, PSs.nox (pss_cons (ps_set (i := 1) sc_Lane_turn_page.nd rfl (Or.inl rfl) (pe_meth0 (pv 0) E.cl_Lane E.m_Lane_free_pages G_Lane_free_pages hr_Lane_free_pages b_Lane_free_pages .nil pass0))
(pss_cut (ps_if (pt_cmpR (op_ge) (pe_callB (call_lenU K rfl) (by rfl) E.n_len boot_len (pa_cons (pv 1) pa_nil)) (kFld K rfl (pe_fld (pv 0) rfl)) (nomark _)) (pss_cons (ps_if (PW.pt (pw_or (pt_not (pt_val (kFld K rfl (pe_fld (pv 0) rfl)))) (pw_or1 (pt_val (pe_meth0 (pe_ix (ix_U K rfl) (kFld K rfl (pe_fld (pv 0) rfl)) (pe_ix (ix_U K rfl) (pv 1) pe_int (fun _ _ => rfl)) (fun _ _ => rfl)) E.cl_Page E.m_Page_waits G_Page_waits hr_Page_waits b_Page_waits .nil pass0))))) (pss_one (ps_ret pe_bl)) pss_nil)
(pss_one (ps_expr (pe_methN (pv 0) E.cl_Lane E.m_Lane_leave G_Lane_leave hr_Lane_leave kb_Lane_leave__lost pass0 (pa_cons (pe_ix (ix_U K rfl) (pv 1) pe_int (fun _ _ => rfl)) pa_nil) (pk_cons pe_bl pk_nil))))) pss_nil)
(pss_cons (ps_expr (kBM K rfl (pe_bm PySem.F.plainAttrs_list PySem.F.slot_list_append PySem.F.type_list_append mt_append (kFld K rfl (pe_fld (pv 0) rfl)) (pa_cons (pe_make0 E.mk_Page G_Page___init__ hrm_Page rfl E.g_Page b_Page___init__ .nil pass0) pa_nil))))
(pss_one (ps_ret pe_bl))))), ?_⟩
    refine k_body (s1 := some _ :: [none]) rfl ?_
    walk_at "s"
    refine ⟨v, l, _, rfl, by omega, hS, ?_⟩
    clear hS
    intro p H hS
    walk_at "s"
    refine k_cut (fun σ H => σ = [some v, some (.ref p)] ∧ blocked l = false ∧ Ls.Sep (laneA ⟨E.C_Kind, E.C_Page, E.C_Lane⟩ v (turn0 l) :: L) H) ?_ ?_
    · walk_at "s"
      by_cases h1 : l.most ≤ ((freeN l.book).length : Nat)
      · obtain ⟨i, j, r, hf⟩ : ∃ i j r, freeN l.book = i :: j :: r := by
          match h : freeN l.book with
          | [] => rw [h, List.length_nil] at h1; omega
          | [_] => rw [h, List.length_singleton] at h1; omega
          | i :: j :: r => exact ⟨i, j, r, rfl⟩
        have ij := freeN_two hf
        rw [if_pos (by rw [freeL_eq, List.length_map, List.length_map]; exact decide_eq_true h1)]
        have hx : atI ((freeL l.book).map PyData.int) 0 = some (.int i) := by
          rw [freeL_eq, hf]
          exact atI_nat (show (List.map PyData.int (List.map (fun i : Nat => (i : Int)) (i :: j :: r)))[0]? = some (PyData.int i) from rfl)
        have hd : (freeN l.book).headD 0 = i := by rw [hf]; rfl
        cases eo : l.over with
        | false =>
          walk_at "s"
          rw [eo]
          walk_at "s"
          have eb : blocked l = true := by unfold blocked; rw [decide_eq_true h1, eo]; rfl
          have et : turnL l = (false, l) := by unfold turnL; rw [if_pos eb]
          rw [et] at q
          exact q _ (Sub.ok (by walk_at "sub") hS)
        | true =>
          replace hS := Sep.lane (hS.rem (by walk_at "rem"))
          obtain ⟨x, bk, pl, ps, ev, hS⟩ := hS
          subst ev
          have hlen := hS.len2 (by walk_at "mem")
          obtain ⟨w, hw⟩ : ∃ v, ps[i]? = some v := ⟨_, List.getElem?_eq_getElem (by omega)⟩
          obtain ⟨g, hg⟩ : ∃ g, l.book[i]? = some g := ⟨_, List.getElem?_eq_getElem (by omega)⟩
          have hy := atI_nat hw
          replace hS := Sep.opnP (hS.rem (by walk_at "rem")) hw hg
          have fine := hp g (List.mem_of_getElem? hg)
          walk_at "s"
          rw [eo]
          walk_at "s"
          refine ⟨w, g, _, rfl, fine.1, fine.2, hS, ?_⟩
          clear hS
          intro H hS
          refine ⟨g.waits, rfl, ?_⟩
          have ew : waitsB i l.book = g.waits := by unfold waitsB; rw [hg]
          replace hS := Sep.clsP (Sub.ok (by walk_at "sub") hS) hw hg
          replace hS := Sep.toLane (Z := ⟨E.C_Kind, E.C_Page, E.C_Lane⟩) (l := l) (L := Ls.ld p ((freeL l.book).map PyData.int) :: L) (Sub.ok (by walk_at "sub") hS) rfl rfl rfl
          cases eg : g.waits with
          | true =>
            rw [if_pos rfl]
            walk_at "s"
            have eb : blocked l = true := by unfold blocked; rw [decide_eq_true h1, eo, hd, ew, eg]; rfl
            have et : turnL l = (false, l) := by unfold turnL; rw [if_pos eb]
            rw [et] at q
            exact q _ (Sub.ok (by walk_at "sub") hS)
          | false =>
            rw [if_neg Bool.false_ne_true]
            have eb : blocked l = false := by unfold blocked; rw [decide_eq_true h1, eo, hd, ew, eg]; rfl
            walk_at "s"
            refine ⟨rfl, rfl, ?_⟩
            refine ⟨.ref x, i, true, l, _, rfl, by omega, by omega, hp, hS, ?_⟩
            clear hS
            intro H hS
            refine ⟨rfl, eb, ?_⟩
            have e0 : turn0 l = leaveL i true l := by unfold turn0; rw [if_pos h1, hd]
            rw [e0]
            exact Sub.ok (by walk_at "sub") hS
      · rw [if_neg (by rw [freeL_eq, List.length_map, List.length_map, decide_eq_false h1]; exact Bool.false_ne_true)]
        walk_at "s"
        have e : turn0 l = l := by unfold turn0; rw [if_neg h1]
        rw [e]
        refine ⟨rfl, ?_, Sub.ok (by walk_at "sub") hS⟩
        unfold blocked
        rw [decide_eq_false h1]
        rfl
    · clear hS
      rintro σ H ⟨rfl, hb, hS⟩
      replace hS := hS.lane
      obtain ⟨x, bk, pl, ps, ev, hS⟩ := hS
      subst ev
      walk_at "s"
      refine ⟨_, _, rfl, hS, fun H hS => ⟨rfl, ?_⟩⟩
      have hlen := hS.len2 (by walk_at "mem")
      have hl0 := turn0_len (l := l)
      walk_at "s"
      replace hS := Sep.snocP (Sub.ok (by walk_at "sub") hS)
      have et : turnL l = (true, turn1 l) := by unfold turnL; rw [hb]; rfl
      rw [et] at q
      refine q _ ?_
      refine' Sep.toLane (Sub.ok ?sa hS) ?sb ?sc ?sd
      case sa => walk_at "sub"
      case sb => rfl
      case sc => rfl
      case sd => rfl
theorem ok_Lane_pending {P : Program} {w : World} {K : PySem.W.Frag} {mg : Str → Option Value} {base : Heap} (E : Env K mg) : FnOk P w K mg base CX0 1 E.a_Lane_pending E.fd_Lane_pending ["self"] (spPending K ⟨E.C_Kind, E.C_Page, E.C_Lane⟩) := by
  refine E.F_Lane_pending.ok sc_Lane_pending (fun vs H Q E h => ?_) (fun cdv A outer s H vs Q E' hr h => ?_)
  · walk_at "hl"
  · have hu := huOf hr
    have hcl_Lane := E.cl_Lane
    have hna_Lane_pile := E.na_Lane_pile
    have hcl_Kind := E.cl_Kind
    have hcl_Page := E.cl_Page
    obtain ⟨v, l, L, rfl, hS, q⟩ := h
    replace hS := hS.lane
    obtain ⟨x, bk, pl, ps, ev, hS⟩ := hS
    subst ev
    refine ⟨_, PSs.nox (pss_one (ps_ret (pe_callTy (call_listU K rfl) (by rfl) E.n_list boot_list (pa_cons (kFld K rfl (pe_fld (pv 0) rfl)) pa_nil)))), ?_⟩
    refine k_body (s1 := some _ :: []) rfl ?_
    walk_at "s"
    refine q _ _ ?_
    have hS := Sep.toLane (l := l) (L := Ls.ld p (l.pile.map PyData.int) :: L) (Sub.ok (by walk_at "sub") hS) rfl rfl rfl
    exact Sub.ok (by walk_at "sub") hS
end Lw
-- own part: n7
namespace Ls
open PySem PySem.Spec PyProof.Rows L2
def kSize (k : Kd) : Int := 1 + k.2.length
def headUsed (b : List Pg) : Int :=
  match b[b.length - 1]? with
  | some g => g.used
  | none => 0
def Pg.push (c : Clm) (g : Pg) : Pg := { g with clms := g.clms ++ [c] }
def pushHead (c : Clm) (b : List Pg) : List Pg :=
  match b[b.length - 1]? with
  | some g => b.set (b.length - 1) (g.push c)
  | none => b
def lows (k : Kd) : List Int := k.2.map fun f => f.2.1
def claim1 (t : Int) (l : Ln) : Ln := { l with latest := some t, last := l.last + 1 }
def full (k : Kd) (l : Ln) : Bool := decide (l.room < headUsed l.book + kSize k)
def missedQ (k : Kd) (t : Int) (l : Ln) : Bool := full k l && blocked (claim1 t l)
def claim0 (k : Kd) (t : Int) (l : Ln) : Ln := if full k l then turn1 (claim1 t l) else claim1 t l
def newClm (k : Kd) (t : Int) (l : Ln) : Clm := ⟨l.last + 1, t, k, lows k, "open"⟩
def claim2 (k : Kd) (t : Int) (l : Ln) : Ln := { claim0 k t l with book := pushHead (newClm k t l) (claim0 k t l).book, pile := l.pile ++ [l.last + 1] }
def claimL (k : Kd) (t : Int) (l : Ln) : Option Int × Ln := if missedQ k t l then (none, { claim1 t l with missed := l.missed + 1 }) else (some (l.last + 1), claim2 k t l)
theorem claim0_last {k : Kd} {t : Int} {l : Ln} : (claim0 k t l).last = l.last + 1 ∧ (claim0 k t l).pile = l.pile ∧ (claim0 k t l).latest = some t := by
  unfold claim0 turn1 turn0 leaveL claim1
  split
  · dsimp only
    split <;> exact ⟨rfl, rfl, rfl⟩
  · exact ⟨rfl, rfl, rfl⟩
theorem turn1_len {l : Ln} : 1 ≤ (turn1 l).book.length ∧ (turn1 l).book.length ≤ l.book.length + 1 := by
  have := turn0_len (l := l)
  show 1 ≤ ((turn0 l).book ++ [newPg]).length ∧ ((turn0 l).book ++ [newPg]).length ≤ _
  rw [List.length_append, List.length_singleton]
  omega
theorem claim0_len {k : Kd} {t : Int} {l : Ln} (h : 1 ≤ l.book.length) : 1 ≤ (claim0 k t l).book.length ∧ (claim0 k t l).book.length ≤ l.book.length + 1 := by
  unfold claim0
  split
  · exact turn1_len (l := claim1 t l)
  · exact ⟨h, Nat.le_succ _⟩
theorem leaveB_mem {i : Nat} {b : List Pg} {P : Pg → Prop} (hp : ∀ g a, P g → P { g with ahead := a }) (h : ∀ g ∈ b, P g) : ∀ g ∈ leaveB i b, P g := by
  unfold leaveB
  split
  · rename_i g2 h2 e1 e2
    intro g hg
    have hm : ∀ g ∈ b.eraseIdx i, P g := fun g hg => h g ((List.eraseIdx_sublist _ _).subset hg)
    rcases List.mem_or_eq_of_mem_set hg with z | z
    · exact hm g z
    · rw [z]
      exact hp _ _ (hm _ (List.mem_of_getElem? e2))
  · exact h
theorem turn1_mem {l : Ln} {P : Pg → Prop} (hp : ∀ g a, P g → P { g with ahead := a }) (h0 : P newPg) (h : ∀ g ∈ l.book, P g) : ∀ g ∈ (turn1 l).book, P g := by
  intro g hg
  have hg : g ∈ (turn0 l).book ++ [newPg] := hg
  rcases List.mem_append.mp hg with z | z
  · unfold turn0 at z
    split at z
    · exact leaveB_mem hp h g z
    · exact h g z
  · rw [List.mem_singleton.mp z]
    exact h0
theorem claim0_mem {k : Kd} {t : Int} {l : Ln} {P : Pg → Prop} (hp : ∀ g a, P g → P { g with ahead := a }) (h0 : P newPg) (h : ∀ g ∈ l.book, P g) : ∀ g ∈ (claim0 k t l).book, P g := by
  unfold claim0
  split
  · exact turn1_mem (l := claim1 t l) hp h0 h
  · exact h
theorem Sep.pushC {K : PySem.W.Frag} {L : List (As K)} {H : Hp} {Z : Cz} {v : V} {c : Clm} {vs : List V} {cs : List Clm} (h : Ls.Sep (clmF Z v c :: al2 (clmF Z) vs cs :: L) H) : Ls.Sep (al2 (clmF Z) (vs ++ [v]) (cs ++ [c]) :: L) H := h.snoc
theorem Sep.toClm' {K : PySem.W.Frag} {L : List (As K)} {H : Hp} {Z : Cz} {p x r : Addr} {n t : Int} {m : Str} {k : Kd} {us : List Int} (h : Ls.Sep (tu p [.int n, .int t, .ref x, .ref r, .str m] :: kindF Z.k x k :: im (.ref r) (intsD us) :: L) H) : Ls.Sep (clmF Z (.ref p) ⟨n, t, k, us, m⟩ :: L) H := Sep.toClm (c := ⟨n, t, k, us, m⟩) h
def spClaim (K : PySem.W.Frag) (Z : Cz) : Sp := fun vs H Q _ => ∃ (v : V) (a : Addr) (t : Int) (k : Kd) (l : Ln) (L : List (As K)), vs = [v, .ref a, .int t] ∧ GoodK k ∧ l.fine ∧ 1 ≤ l.book.length ∧ l.pile.length ≤ 100000 ∧ (∀ u, l.latest = some u → u ≤ t) ∧ kindF Z.k a k ∈ L ∧ Ls.Sep (laneA Z v l :: L) H ∧ ∀ H', Ls.Sep (laneA Z v (claimL k t l).2 :: L) H' → Q (oiV (claimL k t l).1) H'
end Ls
namespace Lw
open PySem PySem.Spec PyProof.Rows L2 Ls
theorem ok_Lane_claim {P : Program} {w : World} {K : PySem.W.Frag} {mg : Str → Option Value} {base : Heap} (E : Env K mg) : FnOk P w K mg base CX0 5 E.a_Lane_claim E.fd_Lane_claim ["self", "kind", "time"] (spClaim K ⟨E.C_Kind, E.C_Page, E.C_Lane⟩) := by
  refine E.F_Lane_claim.ok sc_Lane_claim (fun vs H Q E h => ?_) (fun cdv A outer s H vs Q E' hr h => ?_)
  · walk_at "hl"
  · have hu := huOf hr
    have G_Kind___init__ := ok_Kind___init__ (P := P) (w := w) (base := base) E
    have hr_Kind___init__ := hr.mono (show 3 ≤ 4 by decide)
    have hrm_Kind := hr.mono (show 3 + 1 ≤ 4 by decide)
    have b_Kind___init__ := b_Kind___init__ E
    have G_Lane_turn_page := ok_Lane_turn_page (P := P) (w := w) (base := base) E
    have hr_Lane_turn_page := hr.mono (show 3 ≤ 4 by decide)
    have b_Lane_turn_page := b_Lane_turn_page E
    have G_Kind_lowest := ok_Kind_lowest (P := P) (w := w) (base := base) E
    have hr_Kind_lowest := hr.mono (show 1 ≤ 4 by decide)
    have b_Kind_lowest := b_Kind_lowest E
    have G_Page_used := ok_Page_used (P := P) (w := w) (base := base) E
    have hr_Page_used := hr.mono (show 2 ≤ 4 by decide)
    have b_Page_used := b_Page_used E
    have G_Kind_cells := ok_Kind_cells (P := P) (w := w) (base := base) E
    have hr_Kind_cells := hr.mono (show 1 ≤ 4 by decide)
    have b_Kind_cells := b_Kind_cells E
    have hcl_Lane := E.cl_Lane
    have hna_Lane_room := E.na_Lane_room
    have hna_Lane_book := E.na_Lane_book
    have hna_Lane_pile := E.na_Lane_pile
    have hna_Lane_latest := E.na_Lane_latest
    have hna_Lane_last_ticket := E.na_Lane_last_ticket
    have hna_Lane_missed := E.na_Lane_missed
    have hcl_Kind := E.cl_Kind
    have hna_Kind_name := E.na_Kind_name
    have hna_Kind_fields := E.na_Kind_fields
    have hcl_Page := E.cl_Page
    have hna_Page_claims := E.na_Page_claims
    obtain ⟨v, a, t, k, l, L, rfl, gk, ⟨hm, hl, hp⟩, hn, hpl, hlt, mk, hS, q⟩ := h
    have gk4 := gk.2.1
    refine ⟨_, PSs.nox (pss_cut (ps_if (PW.pt (pw_and (pt_cmpR (op_isnotU) (kFld K rfl (pe_fld (pv 0) rfl)) pe_non (nomark _)) (pw_and1 (pt_cmpR (op_lt) (pv 2) (kFld K rfl (pe_fld (pv 0) rfl)) (nomark _))))) (pss_one ps_never) pss_nil)
(pss_cons (kSF K rfl (ps_fld (pv 0) (pv 2) rfl))
(pss_cons (kSFA K rfl (ps_fldaug (pv 0) pe_int in_add))
(pss_cut (ps_if (PW.pt (pw_and (pt_cmpR (op_gt) (pe_op (op_addU K rfl) (pe_meth0 (pe_ix (ix_U K rfl) (kFld K rfl (pe_fld (pv 0) rfl)) (pe_un un_neg pe_int) (fun _ _ => rfl)) E.cl_Page E.m_Page_used G_Page_used hr_Page_used b_Page_used .nil pass0) (pe_meth0 (pv 1) E.cl_Kind E.m_Kind_cells G_Kind_cells hr_Kind_cells b_Kind_cells .nil pass0)) (kFld K rfl (pe_fld (pv 0) rfl)) (nomark _)) (pw_and1 (pt_not (pt_val (pe_meth0 (pv 0) E.cl_Lane E.m_Lane_turn_page G_Lane_turn_page hr_Lane_turn_page b_Lane_turn_page .nil pass0)))))) (pss_cons (kSFA K rfl (ps_fldaug (pv 0) pe_int in_add))
(pss_one (ps_ret pe_non))) pss_nil)
(pss_cons (ps_set (i := 3) sc_Lane_claim.nd rfl (Or.inl rfl) (pe_make E.mk_Kind G_Kind___init__ hrm_Kind rfl E.g_Kind b_Kind___init__ .nil pass0 (pa_cons (kFld K rfl (pe_fld (pv 1) rfl)) (pa_cons (kFld K rfl (pe_fld (pv 1) rfl)) pa_nil))))
(pss_cons (ps_expr (kBM K rfl (pe_bm PySem.F.plainAttrs_list PySem.F.slot_list_append PySem.F.type_list_append mt_append (kFld K rfl (pe_fld (pe_ix (ix_U K rfl) (kFld K rfl (pe_fld (pv 0) rfl)) (pe_un un_neg pe_int) (fun _ _ => rfl)) rfl)) (pa_cons (pe_tup (pa_cons (kFld K rfl (pe_fld (pv 0) rfl)) (pa_cons (pv 2) (pa_cons (pv 3) (pa_cons (pe_meth0 (pv 3) E.cl_Kind E.m_Kind_lowest G_Kind_lowest hr_Kind_lowest b_Kind_lowest .nil pass0) (pa_cons pe_str pa_nil)))))) pa_nil))))
(pss_cons (ps_expr (kBM K rfl (pe_bm PySem.F.plainAttrs_list PySem.F.slot_list_append PySem.F.type_list_append mt_append (kFld K rfl (pe_fld (pv 0) rfl)) (pa_cons (kFld K rfl (pe_fld (pv 0) rfl)) pa_nil))))
(pss_one (ps_ret (kFld K rfl (pe_fld (pv 0) rfl))))))))))), ?_⟩
    refine k_body (s1 := some _ :: some _ :: some _ :: [none]) rfl ?_
    walk_at "s"
    refine k_cut (fun σ H => σ = [some v, some (.ref a), some (.int t), none] ∧ Ls.Sep (laneA ⟨E.C_Kind, E.C_Page, E.C_Lane⟩ v l :: L) H) ?_ ?_
    · walk_at "s"
      cases el : l.latest with
      | none =>
        rw [if_neg (by simp [oiV]), if_neg Bool.false_ne_true]
        walk_at "s"
        exact ⟨rfl, hS⟩
      | some u =>
        have := hlt u el
        rw [if_pos (by simp [oiV])]
        walk_at "s"
        rw [el]
        dsimp only [oiV]
        walk_at "s"
        exact ⟨rfl, hS⟩
    clear hS
    rintro σ H ⟨rfl, hS⟩
    replace hS := hS.lane
    obtain ⟨x, bk, pl, ps, rfl, hS⟩ := hS
    have hlen := hS.len2 (by walk_at "mem")
    obtain ⟨w, hw⟩ : ∃ v, ps[ps.length - 1]? = some v := ⟨_, List.getElem?_eq_getElem (by omega)⟩
    obtain ⟨g, hg⟩ : ∃ g, l.book[ps.length - 1]? = some g := ⟨_, List.getElem?_eq_getElem (by omega)⟩
    have hx := atI_last hw
    have fine := hp g (List.mem_of_getElem? hg)
    have eu : headUsed l.book = g.used := by unfold headUsed; rw [← hlen, hg]
    replace hS := Sep.opnP (hS.rem (by walk_at "rem")) hw hg
    walk_at "s"
    refine k_cut (fun σ H => σ = [some (.ref x), some (.ref a), some (.int t), none] ∧ missedQ k t l = false ∧ Ls.Sep (laneA ⟨E.C_Kind, E.C_Page, E.C_Lane⟩ (.ref x) (claim0 k t l) :: L) H) ?_ ?_
    · walk_at "s"
      refine ⟨w, g, _, rfl, fine.1, fine.2, hS, ?_⟩
      clear hS
      intro H hS
      dsimp only
      walk_at "s"
      refine ⟨a, k, _, rfl, hS, by walk_at "mem", ?_⟩
      walk_at "s"
      replace hS := Sep.clsP (Sub.ok (by walk_at "sub") hS) hw hg
      replace hS := Sep.toLane (Z := ⟨E.C_Kind, E.C_Page, E.C_Lane⟩) (l := claim1 t l) (L := L) (Sub.ok (by walk_at "sub") hS) (by rfl) (by rfl) (by rfl)
      by_cases hf : l.room < g.used + (1 + (k.2.length : Int))
      · rw [if_pos (decide_eq_true hf)]
        have ef : full k l = true := by unfold full; rw [eu]; exact decide_eq_true hf
        walk_at "s"
        refine ⟨.ref x, claim1 t l, _, rfl, ⟨hm, hl, hp⟩, hS, ?_⟩
        clear hS
        intro H hS
        refine ⟨_, rfl, ?_⟩
        cases eb : blocked (claim1 t l) with
        | true =>
          have et : turnL (claim1 t l) = (false, claim1 t l) := by unfold turnL; rw [if_pos eb]
          rw [et] at hS ⊢
          replace hS := hS.lane
          obtain ⟨x', bk, pl, ps, ex, hS⟩ := hS
          cases ex
          walk_at "s"
          have ec : claimL k t l = (none, { claim1 t l with missed := l.missed + 1 }) := by unfold claimL missedQ; rw [ef, eb]; rfl
          rw [ec] at q
          refine q _ ?_
          walk_at "tl"
        | false =>
          have et : turnL (claim1 t l) = (true, turn1 (claim1 t l)) := by unfold turnL; rw [if_neg (by rw [eb]; exact Bool.false_ne_true)]
          rw [et] at hS ⊢
          walk_at "s"
          have e0 : claim0 k t l = turn1 (claim1 t l) := by unfold claim0; rw [if_pos ef]
          rw [e0]
          exact ⟨rfl, by unfold missedQ; rw [eb, Bool.and_false], hS⟩
      · rw [if_neg (by rw [decide_eq_false hf]; exact Bool.false_ne_true)]
        have ef : full k l = false := by unfold full; rw [eu]; exact decide_eq_false hf
        rw [if_neg Bool.false_ne_true]
        walk_at "s"
        have e0 : claim0 k t l = claim1 t l := by unfold claim0; rw [if_neg (by rw [ef]; exact Bool.false_ne_true)]
        rw [e0]
        exact ⟨rfl, by unfold missedQ; rw [ef]; rfl, hS⟩
    · clear hS
      rintro σ H ⟨rfl, hq, hS⟩
      have ec : claimL k t l = (some (l.last + 1), claim2 k t l) := by unfold claimL; rw [if_neg (by rw [hq]; exact Bool.false_ne_true)]
      rw [ec] at q
      obtain ⟨e1, e2, e3⟩ := claim0_last (k := k) (t := t) (l := l)
      have cl := claim0_len (k := k) (t := t) hn
      have cm : ∀ g ∈ (claim0 k t l).book, g.fine := claim0_mem (fun g a h => h) ⟨Nat.zero_le _, by intro c hc; cases hc⟩ hp
      replace hS := hS.lane
      obtain ⟨x', bk, pl, ps, ex, hS⟩ := hS
      cases ex
      clear hlen hw hg hx eu
      have hlen := hS.len2 (by walk_at "mem")
      obtain ⟨w, hw⟩ : ∃ v, ps[ps.length - 1]? = some v := ⟨_, List.getElem?_eq_getElem (by omega)⟩
      obtain ⟨g, hg⟩ : ∃ g, (claim0 k t l).book[ps.length - 1]? = some g := ⟨_, List.getElem?_eq_getElem (by omega)⟩
      have hx := atI_last hw
      have fine := cm g (List.mem_of_getElem? hg)
      replace hS := Sep.opnP (hS.rem (by walk_at "rem")) hw hg
      replace hS := hS.page
      obtain ⟨y, cp, us, ey, hS⟩ := hS
      subst ey
      have hus := hS.len2 (by walk_at "mem")
      walk_at "s"
      refine ⟨_, f, k, _, rfl, hS, by walk_at "mem", gk, ?_⟩
      clear hS
      intro H hS
      refine ⟨rfl, ?_⟩
      walk_at "s"
      refine ⟨_, k, _, rfl, hS, by walk_at "mem", gk4, ?_⟩
      clear hS
      intro r H hS
      have f1 := fine.1
      have hp1 : (claim0 k t l).pile.length ≤ 100000 := by rw [e2]; exact hpl
      walk_at "s"
      have ev : (PyData.tuple (List.map (fun f : Fd => PyData.int f.2.1) k.2)) = intsD (lows k) := by unfold intsD lows; rw [List.map_map]; rfl
      rw [ev, e1, e2] at hS
      rw [e1]
      replace hS := Sep.toClm' (Z := ⟨E.C_Kind, E.C_Page, E.C_Lane⟩) (Sub.ok (by walk_at "sub") hS)
      replace hS := Sep.pushC (Sub.ok (by walk_at "sub") hS)
      replace hS := Sep.toPage (Z := ⟨E.C_Kind, E.C_Page, E.C_Lane⟩) (g := ⟨g.ahead, g.clms ++ [⟨l.last + 1, t, k, lows k, "open"⟩], g.held⟩) (Sub.ok (by walk_at "sub") hS) (by rfl)
      replace hS := Sep.setP (Sub.ok (by walk_at "sub") hS) hw (by omega)
      refine q _ ?_
      walk_at "tl"
      · show _ = (l.pile ++ [l.last + 1]).map _
        rw [List.map_append]
        rfl
      · show _ = pushHead (newClm k t l) (claim0 k t l).book
        unfold pushHead
        rw [← hlen, hg]
        rfl
end Lw
local macro_rules | `(tactic| walk_at "pd") => `(tactic| (with_reducible first | exact mmp_told | exact mmp_tickets | exact mmp_time | exact mmp_held | exact mmp_pages | exact mmp_row | exact mcp_mark | exact mcp_vals | exact put_new (by with_unfolding_all rfl) | exact put_hit (by with_unfolding_all rfl)))
local macro_rules | `(tactic| walk_at "sr") => `(tactic| with_reducible first
  | (refine' k_getD hS ?sm ?se ?_; (case sm => walk_at "mem"); (case se => with_unfolding_all rfl))
  | (refine' k_getC hS ?sm ?sh ?si ?se ?_; (case sm => walk_at "mem"); (case sh => assumption); (case si => assumption); (case se => (intro f d; with_unfolding_all rfl)))
  | (refine' k_getCv hS ?sm ?sh ?si ?_; (case sm => walk_at "mem"); (case sh => assumption); (case si => assumption); clear hS; refine fun d hS => ?_)
  | (refine' k_putD hS ?sr ?sl ?se ?_; (case sr => walk_at "rep"); (case sl => walk_at "fl"); (case se => walk_at "pd"); clear hS; refine fun H' hS => ?_)
  | (refine' k_setK hS ?sr ?sl ?se ?_; (case sr => walk_at "rep"); (case sl => walk_at "fl"); (case se => walk_at "pd"); clear hS; refine fun H' hS => ?_)
  | (refine' k_setD hS ?sr ?st ?se ?_; (case sr => walk_at "rep"); (case st => walk_at "dat"); (case se => with_unfolding_all rfl); clear hS; refine fun H' hS => ?_)
  | refine k_prs ?_ | refine k_prn ?_)
local macro_rules | `(tactic| walk_at "tm") => `(tactic| (refine' Sep.toMm (al := al) (rw := rw) (pl := pl) (ct := ct) (vs := vs) (Sub.ok ?sa hS) ?sb ?_ ?_ ?_ ?_; (case sa => walk_at "sub"); (case sb => rfl); all_goals (try rfl)))
local macro_rules | `(tactic| walk_at "tm2") => `(tactic| (refine' Sep.toMm2 (al := al) (rw := rw) (pl := pl) (ct := ct) (Sub.ok ?sa hS) ?sb ?_ ?_ ?_ ?_; (case sa => walk_at "sub"); (case sb => rfl); all_goals (try rfl)))
-- own part: d1
namespace Ls
open PySem PySem.Spec PyProof.Rows L2
/-! ### the law's own model of a lane: dicts -/
abbrev MC := Int × Clm
structure MM where
  most : Int
  room : Int
  over : Bool
  all : List MC
  row : List Int
  held : Int
  pages : Int
  pile : List Int
  given : Int
  back : Int
  gone : Int
  missed : Int
  told : Int
  tickets : Int
  time : Option Int
def mcKV (f d : Addr) (c : MC) : List (Key × V) := [(.inr "ticket", .int c.2.tick), (.inr "time", .int c.2.time), (.inr "title", .str c.2.kind.1), (.inr "fields", .ref f), (.inr "mark", .str c.2.mark), (.inr "values", .ref d), (.inr "page", .int c.1)]
def mmKV (al rw pl ct : Addr) (m : MM) : List (Key × V) := [(.inr "most", .int m.most), (.inr "room", .int m.room), (.inr "over", .bl m.over), (.inr "all", .ref al), (.inr "row", .ref rw), (.inr "held", .int m.held), (.inr "pages", .int m.pages), (.inr "pile", .ref pl), (.inr "counts", .ref ct), (.inr "told", .int m.told), (.inr "tickets", .int m.tickets), (.inr "time", oiV m.time)]
section
variable {al rw pl ct a f d : Addr} {m : MM} {c : MC} {i : Int} {s : Str} {o : Option Int}
theorem mmp_told : putK (mmKV al rw pl ct m) (.inr "told") (.int i) = mmKV al rw pl ct { m with told := i } := by rfl
theorem mmp_tickets : putK (mmKV al rw pl ct m) (.inr "tickets") (.int i) = mmKV al rw pl ct { m with tickets := i } := by rfl
theorem mmp_time : putK (mmKV al rw pl ct m) (.inr "time") (.int i) = mmKV al rw pl ct { m with time := some i } := by rfl
theorem mmp_held : putK (mmKV al rw pl ct m) (.inr "held") (.int i) = mmKV al rw pl ct { m with held := i } := by rfl
theorem mmp_pages : putK (mmKV al rw pl ct m) (.inr "pages") (.int i) = mmKV al rw pl ct { m with pages := i } := by rfl
theorem mmp_row : putK (mmKV al rw pl ct m) (.inr "row") (.ref a) = mmKV al a pl ct m := by rfl
theorem mcp_mark : putK (mcKV f d c) (.inr "mark") (.str s) = mcKV f d (c.1, { c.2 with mark := s }) := by rfl
end
section
variable {K : PySem.W.Frag}
def mcA (v : V) (c : MC) : As K := ex fun (x : Addr × Addr × Addr) => all [pr (v = .ref x.1), ob x.1 (.dK (mcKV x.2.1 x.2.2 c)), im (.ref x.2.1) (fdsD c.2.kind.2), im (.ref x.2.2) (intsD c.2.vals)]
def mmA (v : V) (m : MM) : As K := ex fun (x : Addr × Addr × Addr × Addr × Addr × List V) => all [pr (v = .ref x.1), ob x.1 (.dK (mmKV x.2.1 x.2.2.1 x.2.2.2.1 x.2.2.2.2.1 m)), ob x.2.1 (.lst x.2.2.2.2.2), Ls.ld x.2.2.1 (m.row.map PyData.int), Ls.ld x.2.2.2.1 (m.pile.map PyData.int), Ls.ld x.2.2.2.2.1 [.int m.given, .int m.back, .int m.gone, .int m.missed], al2 mcA x.2.2.2.2.2 m.all]
variable {L M : List (As K)} {H : Hp} {v w : V} {c : MC} {m : MM} {a f d al rw pl ct : Addr} {vs : List V} {cs : List MC} {i : Nat} {kvs : List (Key × V)} {k : Str}
theorem Sep.mc (h : Ls.Sep (mcA v c :: L) H) : ∃ a f d, v = .ref a ∧ Ls.Sep (ob a (.dK (mcKV f d c)) :: im (.ref f) (fdsD c.2.kind.2) :: im (.ref d) (intsD c.2.vals) :: L) H := by
  obtain ⟨⟨a, f, d⟩, h3⟩ := Sep.ex_iff.mp h
  rw [Sep.all_iff, List.cons_append, Sep.pr_iff] at h3
  exact ⟨a, f, d, h3.1, h3.2⟩
theorem Sep.toMc (h : Ls.Sep (ob a (.dK kvs) :: im (.ref f) (fdsD c.2.kind.2) :: im (.ref d) (intsD c.2.vals) :: L) H) (e : kvs = mcKV f d c) : Ls.Sep (mcA (.ref a) c :: L) H := by
  subst e
  exact Sep.ex_iff.mpr ⟨(a, f, d), by rw [Sep.all_iff, List.cons_append, Sep.pr_iff]; exact ⟨rfl, h⟩⟩
theorem Sep.mm (h : Ls.Sep (mmA v m :: L) H) : ∃ a al rw pl ct vs, v = .ref a ∧ Ls.Sep (ob a (.dK (mmKV al rw pl ct m)) :: ob al (.lst vs) :: Ls.ld rw (m.row.map PyData.int) :: Ls.ld pl (m.pile.map PyData.int) :: Ls.ld ct [.int m.given, .int m.back, .int m.gone, .int m.missed] :: al2 mcA vs m.all :: L) H := by
  obtain ⟨⟨a, al, rw, pl, ct, vs⟩, h3⟩ := Sep.ex_iff.mp h
  rw [Sep.all_iff, List.cons_append, Sep.pr_iff] at h3
  exact ⟨a, al, rw, pl, ct, vs, h3.1, h3.2⟩
theorem Sep.toMm {ds es fs : List PyData} (h : Ls.Sep (ob a (.dK kvs) :: ob al (.lst vs) :: Ls.ld rw ds :: Ls.ld pl es :: Ls.ld ct fs :: al2 mcA vs cs :: L) H) (e : kvs = mmKV al rw pl ct m) (e2 : ds = m.row.map PyData.int) (e3 : es = m.pile.map PyData.int) (e4 : fs = [.int m.given, .int m.back, .int m.gone, .int m.missed]) (e5 : cs = m.all) : Ls.Sep (mmA (.ref a) m :: L) H := by
  subst e e2 e3 e4 e5
  exact Sep.ex_iff.mpr ⟨(a, al, rw, pl, ct, vs), by rw [Sep.all_iff, List.cons_append, Sep.pr_iff]; exact ⟨rfl, h⟩⟩
/-- a claim's word that is no list, read where it stands -/
theorem k_getC {R : V → Prop} (h : Ls.Sep L H) (m : al2 mcA vs cs ∈ L) (h1 : vs[i]? = some v) (h2 : cs[i]? = some c) (e : ∀ f d, valV (mcKV f d c) (.inr k) = some w) (q : R w) : ∃ b u, v = .ref b ∧ DGet H b (.str k) (some u) ∧ R u := by
  obtain ⟨M, hM⟩ := Rem.of_mem m
  have h3 := (h.rem hM).opn h1 h2
  obtain ⟨a, f, d, rfl, h4⟩ := Sep.mc h3
  exact k_getD h4 List.mem_cons_self (e f d) q
/-- a claim's values -/
theorem k_getCv {R : V → Prop} (h : Ls.Sep L H) (m : al2 mcA vs cs ∈ L) (h1 : vs[i]? = some v) (h2 : cs[i]? = some c) (q : ∀ d, Ls.Sep (im (.ref d) (intsD c.2.vals) :: L) H → R (.ref d)) : ∃ b u, v = .ref b ∧ DGet H b (.str "values") (some u) ∧ R u := by
  obtain ⟨M, hM⟩ := Rem.of_mem m
  have h3 := (h.rem hM).opn h1 h2
  obtain ⟨a, f, d, rfl, h4⟩ := Sep.mc h3
  refine k_getD h4 List.mem_cons_self (by with_unfolding_all rfl) (q d ?_)
  have hd := h4.imm (v := .ref d) (d := intsD c.2.vals) (List.mem_cons_of_mem _ (List.mem_cons_of_mem _ List.mem_cons_self))
  exact Sep.im_iff.mpr ⟨hd, h⟩
theorem Sep.opnC (h : Ls.Sep (al2 mcA vs cs :: L) H) (h1 : vs[i]? = some v) (h2 : cs[i]? = some c) : Ls.Sep (mcA v c :: al2 mcA (vs.eraseIdx i) (cs.eraseIdx i) :: L) H := h.opn h1 h2
theorem Sep.setC (h : Ls.Sep (mcA v c :: al2 mcA (vs.eraseIdx i) (cs.eraseIdx i) :: L) H) (h1 : vs[i]? = some v) (h2 : i < cs.length) : Ls.Sep (al2 mcA vs (cs.set i c) :: L) H := h.cls h1 h2
theorem Sep.snocC (h : Ls.Sep (mcA v c :: al2 mcA vs cs :: L) H) : Ls.Sep (al2 mcA (vs ++ [v]) (cs ++ [c]) :: L) H := h.snoc
/-- a claim named where it stands among the others -/
def refF (vs : List V) (v : V) (i : Nat) : As K := pr (vs[i]? = some v)
instance : Dup (refF (K := K) vs v i) := by unfold refF; infer_instance
theorem Sep.refF (h : Ls.Sep (Ls.refF vs v i :: L) H) : vs[i]? = some v ∧ Ls.Sep L H := Sep.pr_iff.mp h
theorem Sep.toRefF (h : Ls.Sep L H) (e : vs[i]? = some v) : Ls.Sep (Ls.refF vs v i :: L) H := Sep.pr_iff.mpr ⟨e, h⟩
end
end Ls
-- own part: d2
namespace Ls
open PySem PySem.Spec PyProof.Rows L2
def emptyM (n r : Int) (b : Bool) : MM := ⟨n, r, b, [], [0], -1, 1, [], 0, 0, 0, 0, 0, 0, none⟩
def hereC (p : Int) (c : MC) : Bool := decide (c.1 = p) && decide (c.2.mark ≠ ("freed" : Str))
def usedM (p : Int) (m : MM) : Int := ((m.all.filter (hereC p)).map fun c => 1 + (c.2.vals.length : Int)).sum
def waitM (p : Int) (m : MM) : Bool := m.all.any fun (c : MC) => decide (c.1 = p) && decide (c.2.mark = ("open" : Str))
def evM (p : Int) (m : MM) : Nat := (m.all.filter fun (c : MC) => decide (c.1 = p) && decide (c.2.mark = ("given" : Str))).length
def freeM (m : MM) : List Int := m.row.filter fun p => decide (p ≠ m.held)
def MM.few (m : MM) : Prop := m.all.length ≤ 1000 ∧ m.row.length ≤ 1000 ∧ m.pile.length ≤ 1000 ∧ ∀ c ∈ m.all, c.2.vals.length ≤ 4
def spEmpty (K : PySem.W.Frag) : Sp := fun vs H Q _ => ∃ (n r : Int) (b : Bool) (L : List (As K)), vs = [.int n, .int r, .bl b] ∧ Ls.Sep L H ∧ ∀ a H', Ls.Sep (mmA (.ref a) (emptyM n r b) :: L) H' → Q (.ref a) H'
/-- asked of the model and a page -/
def spM1 (K : PySem.W.Frag) (r : Int → MM → V) : Sp := fun vs H Q _ => ∃ (v : V) (p : Int) (m : MM) (L : List (As K)), vs = [v, .int p] ∧ m.few ∧ Ls.Sep (mmA v m :: L) H ∧ ∀ H', Ls.Sep (mmA v m :: L) H' → Q (r p m) H'
def spFreeM (K : PySem.W.Frag) : Sp := fun vs H Q _ => ∃ (v : V) (m : MM) (L : List (As K)), vs = [v] ∧ m.few ∧ Ls.Sep (mmA v m :: L) H ∧ ∀ p H', Ls.Sep (Ls.ld p ((freeM m).map PyData.int) :: mmA v m :: L) H' → Q (.ref p) H'
section
variable {K : PySem.W.Frag} {L : List (As K)} {H : Hp} {vs acc : List V} {cs : List MC} {v : V} {z : Nat × MC}
/-- a claim named where it stands among the others -/
def refC (vs : List V) (cs : List MC) (v : V) (z : Nat × MC) : As K := pr (vs[z.1]? = some v ∧ cs[z.1]? = some z.2)
instance : Dup (refC (K := K) vs cs v z) := by unfold refC; infer_instance
theorem Sep.refC (h : Ls.Sep (Ls.refC vs cs v z :: L) H) : vs[z.1]? = some v ∧ cs[z.1]? = some z.2 ∧ Ls.Sep L H := by
  obtain ⟨⟨a, b⟩, c⟩ := Sep.pr_iff.mp h
  exact ⟨a, b, c⟩
theorem Sep.toRefC {j : Nat} {c : MC} (h : Ls.Sep L H) (e : vs[j]? = some v) (e2 : cs[j]? = some c) : Ls.Sep (Ls.refC vs cs v (j, c) :: L) H := Sep.pr_iff.mpr ⟨⟨e, e2⟩, h⟩
end
def pickC (f : MC → Bool) (cs : List MC) : List (Nat × MC) := cs.zipIdx.flatMap fun z => if f z.1 = true then [(z.2, z.1)] else []
theorem pickC_map (f : MC → Bool) : ∀ (cs : List MC) (k : Nat), ((cs.zipIdx k).flatMap fun z => if f z.1 = true then [(z.2, z.1)] else []).map (·.2) = cs.filter f
  | [], _ => rfl
  | c :: cs, k => by
    rw [List.zipIdx_cons, List.flatMap_cons, List.map_append, pickC_map f cs (k + 1)]
    by_cases e : f c = true
    · rw [if_pos e, List.filter_cons_of_pos e]; rfl
    · rw [if_neg e, List.filter_cons_of_neg e]; rfl
def blockedM (m : MM) : Bool := decide (m.most ≤ ((freeM m).length : Nat)) && (!m.over || waitM ((freeM m).headD 0) m)
def turn0M (m : MM) : MM := if m.most ≤ ((freeM m).length : Nat) then { m with row := m.row.erase ((freeM m).headD 0), gone := m.gone + evM ((freeM m).headD 0) m } else m
def turnsM (m : MM) : Bool × MM := if blockedM m then (false, m) else (true, { turn0M m with row := (turn0M m).row ++ [(turn0M m).pages], pages := (turn0M m).pages + 1 })
def spTurnsM (K : PySem.W.Frag) : Sp := fun vs H Q _ => ∃ (v : V) (m : MM) (L : List (As K)), vs = [v] ∧ m.few ∧ 1 ≤ m.most ∧ Ls.Sep (mmA v m :: L) H ∧ ∀ H', Ls.Sep (mmA v (turnsM m).2 :: L) H' → Q (.bl (turnsM m).1) H'
theorem first_of {n : Int} : ∀ {xs : List Int}, n ∈ xs → ∃ j : Nat, xs[j]? = some n ∧ (∀ i : Nat, i < j → xs[i]? ≠ some n) ∧ xs.eraseIdx j = xs.erase n
  | [], h => by cases h
  | x :: xs, h => by
    by_cases e : x = n
    · subst e
      exact ⟨0, rfl, fun i hi => absurd hi (Nat.not_lt_zero _), by simp⟩
    · obtain ⟨j, h1, h2, h3⟩ := first_of (n := n) (xs := xs) (by rcases List.mem_cons.mp h with z | z; exact (e z.symm).elim; exact z)
      refine ⟨j + 1, h1, fun i hi => ?_, ?_⟩
      · cases i with
        | zero => intro z; exact e (Option.some.inj z)
        | succ i => exact h2 i (by omega)
      · rw [List.eraseIdx_cons_succ, h3, List.erase_cons_tail (by simpa using e)]
end Ls
namespace Lw
open PySem PySem.Spec PyProof.Rows L2 Ls
end Lw
-- own part: n10
namespace Ls
open PySem PySem.Spec PyProof.Rows L2
abbrev Sn := Int × Nat × Clm
/-- of one page: what is seen, the place behind it, whether an open claim stopped -/
def seenC (at_ : Nat) : Int → List Clm → List Sn × Int × Bool
  | p, [] => ([], p, false)
  | p, c :: cs => if c.mark = "open" then ([], p, true) else if c.mark = "given" then ((p, at_, c) :: (seenC at_ (p + 1) cs).1, (seenC at_ (p + 1) cs).2) else seenC at_ p cs
def seenB : Int → Nat → List Pg → List Sn
  | _, _, [] => []
  | p, i, g :: gs => if (seenC i (p + g.ahead) g.clms).2.2 then (seenC i (p + g.ahead) g.clms).1 else (seenC i (p + g.ahead) g.clms).1 ++ seenB (seenC i (p + g.ahead) g.clms).2.1 (i + 1) gs
def seenL (l : Ln) : List Sn := seenB 0 0 l.book
/-- what is left to be seen behind the page's claims so far -/
def seenR (i : Nat) (p : Int) (cs : List Clm) (gs : List Pg) : List Sn := if (seenC i p cs).2.2 then (seenC i p cs).1 else (seenC i p cs).1 ++ seenB (seenC i p cs).2.1 (i + 1) gs
theorem seenR_nil {i : Nat} {p : Int} {gs : List Pg} : seenR i p [] gs = seenB p (i + 1) gs := rfl
theorem seenR_open {i : Nat} {p : Int} {c : Clm} {cs : List Clm} {gs : List Pg} (h : c.mark = "open") : seenR i p (c :: cs) gs = [] := by
  unfold seenR seenC
  rw [if_pos h]
  rfl
theorem seenR_given {i : Nat} {p : Int} {c : Clm} {cs : List Clm} {gs : List Pg} (h0 : c.mark ≠ "open") (h : c.mark = "given") : seenR i p (c :: cs) gs = (p, i, c) :: seenR i (p + 1) cs gs := by
  unfold seenR
  rw [show seenC i p (c :: cs) = ((p, i, c) :: (seenC i (p + 1) cs).1, (seenC i (p + 1) cs).2) by
    rw [seenC, if_neg h0, if_pos h]]
  dsimp only
  split <;> rfl
theorem seenR_skip {i : Nat} {p : Int} {c : Clm} {cs : List Clm} {gs : List Pg} (h0 : c.mark ≠ "open") (h : c.mark ≠ "given") : seenR i p (c :: cs) gs = seenR i p cs gs := by
  unfold seenR
  rw [show seenC i p (c :: cs) = seenC i p cs by rw [seenC, if_neg h0, if_neg h]]
section
variable {K : PySem.W.Frag} {L : List (As K)} {H : Hp} {Z : Cz} {v w : V} {z : Sn} {T : Addr}
def seenF (Z : Cz) (v : V) (z : Sn) : As K := ex fun (x : Addr × V) => all [pr (v = .ref x.1), tu x.1 [.int z.1, .int (z.2.1 : Nat), x.2], clmF Z x.2 z.2.2]
instance : Dup (seenF (K := K) Z v z) := by unfold seenF; infer_instance
theorem Sep.seen (h : Ls.Sep (seenF Z v z :: L) H) : ∃ T w, v = .ref T ∧ Ls.Sep (tu T [.int z.1, .int (z.2.1 : Nat), w] :: clmF Z w z.2.2 :: L) H := by
  obtain ⟨⟨T, w⟩, h3⟩ := Sep.ex_iff.mp h
  rw [Sep.all_iff, List.cons_append, Sep.pr_iff] at h3
  exact ⟨T, w, h3.1, h3.2⟩
theorem Sep.toSeen {p : Int} {i : Nat} {c : Clm} (h : Ls.Sep (tu T [.int p, .int (i : Nat), w] :: clmF Z w c :: L) H) : Ls.Sep (seenF Z (.ref T) (p, i, c) :: L) H :=
  Sep.ex_iff.mpr ⟨(T, w), by rw [Sep.all_iff, List.cons_append, Sep.pr_iff]; exact ⟨rfl, h⟩⟩
theorem Sep.snocN {vs : List V} {zs : List Sn} (h : Ls.Sep (seenF Z v z :: al2 (seenF Z) vs zs :: L) H) : Ls.Sep (al2 (seenF Z) (vs ++ [v]) (zs ++ [z]) :: L) H := h.snoc
end
def spSeen (K : PySem.W.Frag) (Z : Cz) : Sp := fun vs H Q _ => ∃ (x : Addr) (l : Ln) (L : List (As K)), vs = [.ref x] ∧ l.fine ∧ Ls.Sep (laneA Z (.ref x) l :: L) H ∧ ∀ p us H', us.length ≤ 1000000 → Ls.Sep (ob p (.lst us) :: al2 (seenF Z) us (seenL l) :: laneA Z (.ref x) l :: L) H' → Q (.ref p) H'
end Ls
namespace Lw
open PySem PySem.Spec PyProof.Rows L2 Ls
theorem ok_Lane_seen {P : Program} {w : World} {K : PySem.W.Frag} {mg : Str → Option Value} {base : Heap} (E : Env K mg) : FnOk P w K mg base CX0 1 E.a_Lane_seen E.fd_Lane_seen ["self"] (spSeen K ⟨E.C_Kind, E.C_Page, E.C_Lane⟩) := by
  refine E.F_Lane_seen.ok sc_Lane_seen (fun vs H Q E h => ?_) (fun cdv A outer s H vs Q E' hr h => ?_)
  · walk_at "hl"
  · have hu := huOf hr
    have hcl_Lane := E.cl_Lane
    have hna_Lane_book := E.na_Lane_book
    have hcl_Kind := E.cl_Kind
    have hcl_Page := E.cl_Page
    have hna_Page_ahead := E.na_Page_ahead
    have hna_Page_claims := E.na_Page_claims
    obtain ⟨x, l, L, rfl, ⟨hm, hl, hp⟩, hS, q⟩ := h
    replace hS := hS.lane
    obtain ⟨x', bk, pl, ps, ex, hS⟩ := hS
    cases ex
    have hlen := hS.len2 (f := pgA ⟨E.C_Kind, E.C_Page, E.C_Lane⟩) (by walk_at "mem")
    refine ⟨_, PSs.nox (pss_cons (ps_set (i := 1) sc_Lane_seen.nd rfl (Or.inl rfl) (pe_lst pa_nil))
(pss_cons (ps_set (i := 2) sc_Lane_seen.nd rfl (Or.inl rfl) pe_int)
(pss_cons (ps_for PassesOwn.never rfl (pi_enumU K rfl rfl E.n_enumerate (pa_cons (kFld K rfl (pe_fld (pv 0) rfl)) pa_nil)) (kGTup (n := 2) K rfl (pg_tup rfl (pgs_cons (pg_name (i := 3) sc_Lane_seen.nd rfl (Or.inl rfl)) (pgs_cons (pg_name (i := 4) sc_Lane_seen.nd rfl (Or.inl rfl)) pgs_nil))))
(pss_cons (ps_aug (i := 2) sc_Lane_seen.nd rfl (Or.inl rfl) (kFld K rfl (pe_fld (pv 4) rfl)) ip_add)
(pss_one (ps_for PassesOwn.never rfl (pi_seqU K rfl (kFld K rfl (pe_fld (pv 4) rfl))) (pg_name (i := 5) sc_Lane_seen.nd rfl (Or.inl rfl))
(pss_cons (ps_if (pt_cmpR (op_eqU K rfl hu) (pe_ix (ix_U K rfl) (pv 5) pe_int (fun _ _ => rfl)) pe_str (nomark _)) (pss_one (ps_ret (pv 1))) pss_nil)
(pss_one (ps_if (pt_cmpR (op_eqU K rfl hu) (pe_ix (ix_U K rfl) (pv 5) pe_int (fun _ _ => rfl)) pe_str (nomark _)) (pss_cons (ps_expr (kBM K rfl (pe_bm PySem.F.plainAttrs_list PySem.F.slot_list_append PySem.F.type_list_append mt_append (pv 1) (pa_cons (pe_tup (pa_cons (pv 2) (pa_cons (pv 3) (pa_cons (pv 5) pa_nil)))) pa_nil))))
(pss_one (ps_aug (i := 2) sc_Lane_seen.nd rfl (Or.inl rfl) pe_int ip_add))) pss_nil)))))))
(pss_one (ps_ret (pv 1)))))), ?_⟩
    refine k_body (s1 := some _ :: [none, none, none, none, none]) rfl ?_
    walk_at "s"
    replace hS := Sep.nil2 (f := seenF ⟨E.C_Kind, E.C_Page, E.C_Lane⟩) hS.ldnil
    refine for_wk (n := l.book.length) (Y := fun i q => ∀ v z T, ps[i]? = some v → l.book[i]? = some z → q (.ref T) [tu T [.int (i : Nat), v]]) (fun i σ L' => ∃ acc so pc c3 c4 c5, L' = al2 (seenF ⟨E.C_Kind, E.C_Page, E.C_Lane⟩) acc so :: ob p (.lst acc) :: inst x E.C_Lane (laneV bk pl l) :: ob bk (.lst ps) :: Ls.ld pl (l.pile.map PyData.int) :: al2 (pgA ⟨E.C_Kind, E.C_Page, E.C_Lane⟩) ps l.book :: L ∧ so ++ seenB pc i (l.book.drop i) = seenL l ∧ acc.length ≤ 100 * i ∧ σ = [some (.ref x), some (.ref p), some (.int pc), c3, c4, c5]) (fun i σ L' e => by obtain ⟨_, _, _, _, _, _, rfl, _⟩ := e; exact wk_en2 (by walk_at "mem") (by walk_at "mem")) hS ⟨[], [], 0, _, _, _, rfl, rfl, Nat.zero_le _, rfl⟩ (fun i σ L' hi iv v g T hv hg H hS => ?_) (fun σ L' H iv hS => ?_)
    · obtain ⟨acc, so, pc, c3, c4, c5, rfl, hso, la, rfl⟩ := iv
      walk_at "ns"
      have fine := (hp g (List.mem_of_getElem? hg)).1
      have hdr : l.book.drop i = g :: l.book.drop (i + 1) := List.drop_eq_getElem_cons hi |>.trans (by rw [(List.getElem?_eq_some_iff.mp hg).2])
      rw [hdr] at hso
      have hso : so ++ seenR i (pc + g.ahead) g.clms (l.book.drop (i + 1)) = seenL l := hso
      replace hS := Sep.opnP (hS.rem (by walk_at "rem")) hv hg
      replace hS := hS.page
      obtain ⟨y, cp, us, ey, hS⟩ := hS
      subst ey
      walk_at "s"
      have hus := hS.len2 (f := clmF ⟨E.C_Kind, E.C_Page, E.C_Lane⟩) (by walk_at "mem")
      replace hS : Ls.Sep (al2 (seenF ⟨E.C_Kind, E.C_Page, E.C_Lane⟩) acc so :: ob p (.lst acc) :: inst y E.C_Page (pageV cp g) :: ob cp (.lst us) :: al2 (clmF ⟨E.C_Kind, E.C_Page, E.C_Lane⟩) us g.clms :: al2 (pgA ⟨E.C_Kind, E.C_Page, E.C_Lane⟩) (ps.eraseIdx i) (l.book.eraseIdx i) :: inst x E.C_Lane (laneV bk pl l) :: ob bk (.lst ps) :: Ls.ld pl (l.pile.map PyData.int) :: L) H := Sub.ok (by walk_at "sub") hS
      refine for_wk (n := g.clms.length) (Y := fun j q => ∀ v c, us[j]? = some v → g.clms[j]? = some c → q v [clmF ⟨E.C_Kind, E.C_Page, E.C_Lane⟩ v c]) (fun j σ L' => ∃ acc so pc c5, L' = al2 (seenF ⟨E.C_Kind, E.C_Page, E.C_Lane⟩) acc so :: ob p (.lst acc) :: inst y E.C_Page (pageV cp g) :: ob cp (.lst us) :: al2 (clmF ⟨E.C_Kind, E.C_Page, E.C_Lane⟩) us g.clms :: al2 (pgA ⟨E.C_Kind, E.C_Page, E.C_Lane⟩) (ps.eraseIdx i) (l.book.eraseIdx i) :: inst x E.C_Lane (laneV bk pl l) :: ob bk (.lst ps) :: Ls.ld pl (l.pile.map PyData.int) :: L ∧ so ++ seenR i pc (g.clms.drop j) (l.book.drop (i + 1)) = seenL l ∧ acc.length ≤ 100 * i + j ∧ σ = [some (.ref x), some (.ref p), some (.int pc), some (.int (i : Nat)), some (.ref y), c5]) (fun j σ L' e => by obtain ⟨_, _, _, _, rfl, _⟩ := e; exact wk_ob2 (by walk_at "mem") (by walk_at "mem")) hS ⟨acc, so, _, _, rfl, hso, la, rfl⟩ (fun j σ L' hj iv vc c hvc hc H hS => ?_) (fun σ L' H iv hS => ?_)
      · obtain ⟨acc, so, pc, c5, rfl, hso, la, rfl⟩ := iv
        walk_at "ns"
        have hdc : g.clms.drop j = c :: g.clms.drop (j + 1) := List.drop_eq_getElem_cons hj |>.trans (by rw [(List.getElem?_eq_some_iff.mp hc).2])
        rw [hdc] at hso
        replace hS := Sep.clm hS
        obtain ⟨tc, kc, dc, ev, hS⟩ := hS
        subst ev
        walk_at "s"
        by_cases eo : c.mark = "open"
        · rw [if_pos (decide_eq_true eo)]
          walk_at "s"
          rw [seenR_open eo, List.append_nil] at hso
          subst hso
          replace hS := Sep.toPage (Z := ⟨E.C_Kind, E.C_Page, E.C_Lane⟩) (g := g) (p := cp) (vs := us) (Sub.ok (by walk_at "sub") hS) (by rfl)
          replace hS := Sep.clsP (Sub.ok (by walk_at "sub") hS) hv hg
          replace hS := Sep.toLane (Z := ⟨E.C_Kind, E.C_Page, E.C_Lane⟩) (bk := bk) (pl := pl) (l := l) (L := ob p (.lst acc) :: al2 (seenF ⟨E.C_Kind, E.C_Page, E.C_Lane⟩) acc (seenL l) :: L) (Sub.ok (by walk_at "sub") hS) (by rfl) (by rfl) (by rfl)
          exact q _ acc _ (by omega) (Sub.ok (by walk_at "sub") hS)
        · rw [if_neg (by rw [decide_eq_false eo]; exact Bool.false_ne_true)]
          walk_at "s"
          by_cases eg : c.mark = "given"
          · rw [if_pos (decide_eq_true eg)]
            rw [seenR_given eo eg] at hso
            walk_at "s"
            replace hS := Sep.toSeen (Z := ⟨E.C_Kind, E.C_Page, E.C_Lane⟩) (p := pc) (i := i) (c := c) (Sub.ok (by walk_at "sub") hS)
            replace hS := Sep.snocN (Sub.ok (by walk_at "sub") hS)
            refine ⟨_, ⟨_, so ++ [(pc, i, c)], pc + 1, _, rfl, by rw [List.append_assoc]; exact hso, ?_, rfl⟩, Sub.ok (by walk_at "sub") hS⟩
            rw [List.length_append, List.length_singleton]
            omega
          · rw [if_neg (by rw [decide_eq_false eg]; exact Bool.false_ne_true)]
            rw [seenR_skip eo eg] at hso
            walk_at "s"
            exact ⟨_, ⟨acc, so, pc, _, rfl, hso, by omega, rfl⟩, Sub.ok (by walk_at "sub") hS⟩
      · obtain ⟨acc, so, pc, c5, rfl, hso, la, rfl⟩ := iv
        rw [List.drop_length, seenR_nil] at hso
        replace hS := Sep.toPage (Z := ⟨E.C_Kind, E.C_Page, E.C_Lane⟩) (g := g) (p := cp) (vs := us) (Sub.ok (by walk_at "sub") hS) (by rfl)
        replace hS := Sep.clsP (Sub.ok (by walk_at "sub") hS) hv hg
        exact ⟨_, ⟨acc, so, pc, _, _, _, rfl, hso, by omega, rfl⟩, Sub.ok (by walk_at "sub") hS⟩
    · obtain ⟨acc, so, pc, c3, c4, c5, rfl, hso, la, rfl⟩ := iv
      rw [List.drop_length] at hso
      have hso : so ++ [] = seenL l := hso
      rw [List.append_nil] at hso
      subst hso
      walk_at "s"
      have hS2 := Sep.toLane (Z := ⟨E.C_Kind, E.C_Page, E.C_Lane⟩) (bk := bk) (pl := pl) (l := l) (L := ob p (.lst acc) :: al2 (seenF ⟨E.C_Kind, E.C_Page, E.C_Lane⟩) acc (seenL l) :: L) (Sub.ok (by walk_at "sub") hS) (by rfl) (by rfl) (by rfl)
      exact q _ acc _ (by omega) (Sub.ok (by walk_at "sub") hS2)
end Lw
-- own part: n8
namespace Ls
open PySem PySem.Spec PyProof.Rows L2
abbrev evD (n : Int) (c : Clm) : PyData := .tuple [.str "event", .int n, .int c.time, .str c.kind.1, intsD c.vals]
def spTold (K : PySem.W.Frag) (Z : Cz) : Sp := fun vs H Q _ => ∃ (n : Int) (v : V) (c : Clm) (L : List (As K)), vs = [.int n, v] ∧ clmF Z v c ∈ L ∧ Ls.Sep L H ∧ ∀ p H', Ls.Sep (im (.ref p) (evD n c) :: L) H' → Q (.ref p) H'
/-! where a ticket stands -/
def spotsP (i : Nat) (n : Int) (g : Pg) : List (Nat × Nat) := g.clms.zipIdx.flatMap fun z => if z.1.tick = n then [(i, z.2)] else []
def spotsB (n : Int) (b : List Pg) : List (Nat × Nat) := b.zipIdx.flatMap fun z => spotsP z.2 n z.1
section
variable {K : PySem.W.Frag} {L : List (As K)} {H : Hp} {v w : V} {ps : List V} {z : Nat × Nat} {T : Addr}
def spotF (ps : List V) (v : V) (z : Nat × Nat) : As K := ex fun (x : Addr × V) => all [pr (v = .ref x.1), pr (ps[z.1]? = some x.2), tu x.1 [x.2, .int (z.2 : Nat)]]
instance : Dup (spotF (K := K) ps v z) := by unfold spotF; infer_instance
theorem Sep.spot (h : Ls.Sep (spotF ps v z :: L) H) : ∃ T w, v = .ref T ∧ ps[z.1]? = some w ∧ Ls.Sep (tu T [w, .int (z.2 : Nat)] :: L) H := by
  obtain ⟨⟨T, w⟩, h3⟩ := Sep.ex_iff.mp h
  rw [Sep.all_iff, List.cons_append, Sep.pr_iff, List.cons_append, Sep.pr_iff] at h3
  exact ⟨T, w, h3.1, h3.2.1, h3.2.2⟩
theorem Sep.toSpot {i j : Nat} (h : Ls.Sep (tu T [w, .int (j : Nat)] :: L) H) (e : ps[i]? = some w) : Ls.Sep (spotF ps (.ref T) (i, j) :: L) H :=
  Sep.ex_iff.mpr ⟨(T, w), by rw [Sep.all_iff, List.cons_append, Sep.pr_iff, List.cons_append, Sep.pr_iff]; exact ⟨rfl, e, h⟩⟩
theorem Sep.catS {us vs : List V} {ws zs : List (Nat × Nat)} (h : Ls.Sep (al2 (spotF ps) us ws :: al2 (spotF ps) vs zs :: L) H) : Ls.Sep (al2 (spotF ps) (vs ++ us) (zs ++ ws) :: L) H := h.cat
end
def spFound (K : PySem.W.Frag) (Z : Cz) : Sp := fun vs H Q _ => ∃ (x : Addr) (n : Int) (i j : Nat) (r : List (Nat × Nat)) (l : Ln) (L : List (As K)), vs = [.ref x, .int n] ∧ n ∈ l.pile ∧ l.fine ∧ spotsB n l.book = (i, j) :: r ∧ Ls.Sep (laneA Z (.ref x) l :: L) H ∧
  ∀ bk pl ps T w H', ps[i]? = some w → Ls.Sep (tu T [w, .int (j : Nat)] :: inst x Z.l (laneV bk pl l) :: ob bk (.lst ps) :: Ls.ld pl (l.pile.map PyData.int) :: al2 (pgA Z) ps l.book :: L) H' → Q (.ref T) H'
theorem sq_len {α : Type} (r : α × Nat → List (Nat × Nat)) (h : ∀ z, (r z).length ≤ 1) : ∀ (xs : List (α × Nat)), (xs.flatMap r).length ≤ xs.length
  | [] => Nat.le_refl _
  | z :: zs => by
    have := sq_len r h zs
    have := h z
    rw [List.flatMap_cons, List.length_append, List.length_cons]
    omega
theorem spotsP_len (i : Nat) (n : Int) (g : Pg) : (spotsP i n g).length ≤ g.clms.length := by
  have := sq_len (fun z : Clm × Nat => if z.1.tick = n then [(i, z.2)] else []) (fun z => by split <;> exact Nat.le_of_ble_eq_true rfl) g.clms.zipIdx
  rw [List.length_zipIdx] at this
  exact this
theorem spots_at {n : Int} {b : List Pg} {i j : Nat} (h : (i, j) ∈ spotsB n b) : ∃ g c, b[i]? = some g ∧ g.clms[j]? = some c ∧ c.tick = n := by
  unfold spotsB spotsP at h
  obtain ⟨⟨g, i'⟩, hg, h⟩ := List.mem_flatMap.mp h
  obtain ⟨⟨c, j'⟩, hc, h⟩ := List.mem_flatMap.mp h
  dsimp only at h
  split at h
  · rename_i e
    obtain ⟨e1, e2⟩ := Prod.mk.inj (List.mem_singleton.mp h)
    subst e1 e2
    exact ⟨g, c, List.mem_zipIdx_iff_getElem?.mp hg, List.mem_zipIdx_iff_getElem?.mp hc, e⟩
  · cases h
theorem atI_lastD {xs : List PyData} {d : PyData} (h : xs[xs.length - 1]? = some d) : atI xs (-1) = some d := by
  have hl := (List.getElem?_eq_some_iff.mp h).1
  unfold atI ixN
  rw [if_neg (by omega), if_pos (by omega)]
  have e : ((-1 : Int) + (xs.length : Int)).toNat = xs.length - 1 := by omega
  simp only [e]
  exact h
theorem Sep.updC {K : PySem.W.Frag} {L : List (As K)} {H : Hp} {Z : Cz} {v : V} {c : Clm} {vs : List V} {cs : List Clm} {i : Nat} (h : Ls.Sep (clmF Z v c :: al2 (clmF Z) vs cs :: L) H) (h1 : i < vs.length) (h2 : i < cs.length) : Ls.Sep (al2 (clmF Z) (vs.set i v) (cs.set i c) :: L) H := h.upd2 h1 h2
def setMark (i j : Nat) (m : Str) (b : List Pg) : List Pg :=
  match b[i]? with
  | some g => match g.clms[j]? with
    | some c => b.set i { g with clms := g.clms.set j { c with mark := m } }
    | none => b
  | none => b
def closeL (i j : Nat) (m : Str) (l : Ln) : Ln := { l with pile := l.pile.dropLast, book := setMark i j m l.book }
def spClose (K : PySem.W.Frag) (Z : Cz) : Sp := fun vs H Q _ => ∃ (x : Addr) (n : Int) (i j : Nat) (r : List (Nat × Nat)) (m : Str) (l : Ln) (L : List (As K)), vs = [.ref x, .int n, .str m] ∧ l.pile = l.pile.dropLast ++ [n] ∧ l.fine ∧ spotsB n l.book = (i, j) :: r ∧ Ls.Sep (laneA Z (.ref x) l :: L) H ∧
  ∀ H', Ls.Sep (laneA Z (.ref x) (closeL i j m l) :: L) H' → Q .non H'
end Ls
namespace Lw
open PySem PySem.Spec PyProof.Rows L2 Ls
theorem ok_told_event {P : Program} {w : World} {K : PySem.W.Frag} {mg : Str → Option Value} {base : Heap} (E : Env K mg) : FnOk P w K mg base CX0 1 E.a_told_event E.fd_told_event ["place", "claim"] (spTold K ⟨E.C_Kind, E.C_Page, E.C_Lane⟩) := by
  refine E.F_told_event.ok sc_told_event (fun vs H Q E h => ?_) (fun cdv A outer s H vs Q E' hr h => ?_)
  · walk_at "hl"
  · have hu := huOf hr
    have hcl_Lane := E.cl_Lane
    have hcl_Kind := E.cl_Kind
    have hna_Kind_name := E.na_Kind_name
    have hcl_Page := E.cl_Page
    obtain ⟨n, v, c, L, rfl, mc, hS, q⟩ := h
    replace hS := Sep.clm (hS.dup mc)
    obtain ⟨t, k, d, rfl, hS⟩ := hS
    refine ⟨_, PSs.nox (pss_one (ps_ret (pe_tup (pa_cons pe_str (pa_cons (pv 0) (pa_cons (pe_ix (ix_U K rfl) (pv 1) pe_int (fun _ _ => rfl)) (pa_cons (kFld K rfl (pe_fld (pe_ix (ix_U K rfl) (pv 1) pe_int (fun _ _ => rfl)) rfl)) (pa_cons (pe_ix (ix_U K rfl) (pv 1) pe_int (fun _ _ => rfl)) pa_nil)))))))), ?_⟩
    refine k_body (s1 := some _ :: some _ :: []) rfl ?_
    walk_at "s"
    exact q _ _ (Sub.ok (by walk_at "sub") hS)
theorem ok_Lane_found {P : Program} {w : World} {K : PySem.W.Frag} {mg : Str → Option Value} {base : Heap} (E : Env K mg) : FnOk P w K mg base CX0 1 E.a_Lane_found E.fd_Lane_found ["self", "ticket"] (spFound K ⟨E.C_Kind, E.C_Page, E.C_Lane⟩) := by
  refine E.F_Lane_found.ok sc_Lane_found (fun vs H Q E h => ?_) (fun cdv A outer s H vs Q E' hr h => ?_)
  · walk_at "hl"
  · have hu := huOf hr
    have hcl_Lane := E.cl_Lane
    have hna_Lane_book := E.na_Lane_book
    have hna_Lane_pile := E.na_Lane_pile
    have hcl_Kind := E.cl_Kind
    have hcl_Page := E.cl_Page
    have hna_Page_claims := E.na_Page_claims
    obtain ⟨x, n, i, j, r, l, L, rfl, hn, ⟨hm, hl, hp⟩, hsp, hS, q⟩ := h
    replace hS := hS.lane
    obtain ⟨x', bk, pl, ps, ex, hS⟩ := hS
    cases ex
    have hlen := hS.len2 (by walk_at "mem")
    refine ⟨_, PSs.nox (pss_cons (ps_if (pt_cmpR (op_notinU K rfl hu) (pv 1) (kFld K rfl (pe_fld (pv 0) rfl)) (by with_unfolding_all rfl)) (pss_one ps_never) pss_nil)
(pss_cons (ps_set (i := 2) sc_Lane_found.nd rfl (Or.inl rfl) (pe_lst pa_nil))
(pss_cons (ps_for PassesOwn.never rfl (pi_seqU K rfl (kFld K rfl (pe_fld (pv 0) rfl))) (pg_name (i := 3) sc_Lane_found.nd rfl (Or.inr rfl))
(pss_one (ps_expr (kBM K rfl (pe_bm PySem.F.plainAttrs_list PySem.F.slot_list_extend PySem.F.type_list_extend mt_extend (pv 2) (pa_cons (pe_lc (own := [("at", 4), ("claim", 5)]) rfl sc_Lane_found.nd (pi_enumU K rfl rfl E.n_enumerate (pa_cons (kFld K rfl (pe_fld (pv 3) rfl)) pa_nil)) (blkOk_by (N := ["self", "ticket", "spots", "page", "at", "claim"]) (sc := defScope s_Lane_found) (by decide +kernel)) (fun _ _ _ _ _ => (kGTup (n := 2) K rfl (pg_tup rfl (pgs_cons (pg_name (i := 4) sc_Lane_found.nd rfl (Or.inl rfl)) (pgs_cons (pg_name (i := 5) sc_Lane_found.nd rfl (Or.inl rfl)) pgs_nil))))) (fun _ _ _ _ _ => (pts_one (pt_cmpR (op_eqU K rfl hu) (pe_ix (ix_U K rfl) (pv 5) pe_int (fun _ _ => rfl)) (pv 1) (nomark _)))) (fun _ _ _ _ _ => (pe_tup (pa_cons (pv 3) (pa_cons (pv 4) pa_nil))))) pa_nil))))))
(pss_one (ps_ret (pe_ix (ix_U K rfl) (pv 2) pe_int (fun _ _ => rfl))))))), ?_⟩
    refine k_body (s1 := some _ :: some _ :: [none, none, none, none]) rfl ?_
    walk_at "s"
    replace hS := hS.ldnil
    replace hS := Sep.nil2 (f := spotF ps) hS
    refine for_wk (n := l.book.length) (Y := fun i q => ∀ v z, ps[i]? = some v → l.book[i]? = some z → q v []) (fun i σ L' => ∃ acc c3 c4 c5, L' = al2 (spotF ps) acc ((l.book.zipIdx.take i).flatMap fun z => spotsP z.2 n z.1) :: ob p (.lst acc) :: inst x E.C_Lane (laneV bk pl l) :: ob bk (.lst ps) :: Ls.ld pl (l.pile.map PyData.int) :: al2 (pgA ⟨E.C_Kind, E.C_Page, E.C_Lane⟩) ps l.book :: L ∧ acc.length ≤ 100 * i ∧ σ = [some (.ref x), some (.int n), some (.ref p), c3, c4, c5]) (fun i σ L' e => by obtain ⟨_, _, _, _, rfl, _⟩ := e; exact wk_obo (by walk_at "mem") (by walk_at "mem")) hS ⟨[], _, _, _, rfl, Nat.zero_le _, rfl⟩ (fun i σ L' hi iv v g hv hg H hS => ?_) (fun σ L' H iv hS => ?_)
    · obtain ⟨acc, c3, c4, c5, rfl, la, rfl⟩ := iv
      walk_at "ns"
      have fine := (hp g (List.mem_of_getElem? hg)).1
      replace hS := Sep.opnP (hS.rem (by walk_at "rem")) hv hg
      replace hS := hS.page
      obtain ⟨y, cp, us, ey, hS⟩ := hS
      subst ey
      walk_at "s"
      refine lc_objs (F := spotF ps) (zs := g.clms) (fun j (c : Clm) => if c.tick = n then [(i, j)] else []) hS (by rw [sizeLine_eq]; omega) (fun acc N => wk_en2 (by walk_at "mem") (by walk_at "mem")) (fun j c acc N hc kp sk u c' T hu2 hc' H hS => ?_) (fun acc2 H la2 hS => ?_)
      · cases hc.symm.trans hc'
        walk_at "ns"
        have hS := hS.get2 (f := clmF ⟨E.C_Kind, E.C_Page, E.C_Lane⟩) (by walk_at "mem") hu2 hc
        replace hS := Sep.clm hS
        obtain ⟨tc, kc, dc, eu, hS⟩ := hS
        subst eu
        walk_at "ls"
        by_cases e : c.tick = n
        · rw [if_pos (decide_eq_true e)]
          walk_at "s"
          replace hS := Sep.toSpot (ps := ps) (i := i) (j := j) (Sub.ok (by walk_at "sub") hS) hv
          exact kp _ (if_pos e) hS (by walk_at "sub")
        · rw [if_neg (by rw [decide_eq_false e]; exact Bool.false_ne_true)]
          exact sk (if_neg e) hS (by walk_at "sub")
      · have e0 : (g.clms.zipIdx.flatMap fun z => if z.1.tick = n then [(i, z.2)] else []) = spotsP i n g := rfl
        rw [e0] at hS
        walk_at "s"
        replace hS := Sep.catS (Sub.ok (by walk_at "sub") hS)
        replace hS := Sep.toPage (Z := ⟨E.C_Kind, E.C_Page, E.C_Lane⟩) (g := g) (p := cp) (vs := us) (Sub.ok (by walk_at "sub") hS) (by rfl)
        replace hS := Sep.clsP (Sub.ok (by walk_at "sub") hS) hv hg
        have e1 : l.book.zipIdx.take (i + 1) = l.book.zipIdx.take i ++ [(g, i)] := by rw [List.take_add_one, List.getElem?_zipIdx, hg]; simp
        refine ⟨_, ⟨acc ++ acc2, _, _, _, rfl, by rw [List.length_append]; omega, rfl⟩, ?_⟩
        rw [e1, List.flatMap_append, List.flatMap_cons, List.flatMap_nil, List.append_nil]
        exact Sub.ok (by walk_at "sub") hS
    · obtain ⟨acc, c3, c4, c5, rfl, la, rfl⟩ := iv
      rw [List.take_of_length_le (by rw [List.length_zipIdx]; exact Nat.le_refl _)] at hS
      have e : (l.book.zipIdx.flatMap fun z => spotsP z.2 n z.1) = spotsB n l.book := rfl
      rw [e, hsp] at hS
      have el := hS.len2 (f := spotF ps) List.mem_cons_self
      obtain ⟨v, hv⟩ : ∃ v, acc[0]? = some v := ⟨_, List.getElem?_eq_getElem (by rw [el, List.length_cons]; omega)⟩
      replace hS := hS.get2 (f := spotF ps) List.mem_cons_self hv rfl
      replace hS := Sep.spot hS
      obtain ⟨T, w, ev, hw, hS⟩ := hS
      subst ev
      have hx : atI acc 0 = some (V.ref T) := atI_nat hv
      walk_at "s"
      exact q _ _ _ _ _ _ hw (Sub.ok (by walk_at "sub") hS)
theorem ok_Lane_close {P : Program} {w : World} {K : PySem.W.Frag} {mg : Str → Option Value} {base : Heap} (E : Env K mg) : FnOk P w K mg base CX0 2 E.a_Lane_close E.fd_Lane_close ["self", "ticket", "mark"] (spClose K ⟨E.C_Kind, E.C_Page, E.C_Lane⟩) := by
  refine E.F_Lane_close.ok sc_Lane_close (fun vs H Q E h => ?_) (fun cdv A outer s H vs Q E' hr h => ?_)
  · walk_at "hl"
  · have hu := huOf hr
    have G_Lane_found := ok_Lane_found (P := P) (w := w) (base := base) E
    have hr_Lane_found := hr.mono (show 1 ≤ 1 by decide)
    have b_Lane_found := b_Lane_found E
    have hcl_Lane := E.cl_Lane
    have hna_Lane_pile := E.na_Lane_pile
    have hcl_Kind := E.cl_Kind
    have hcl_Page := E.cl_Page
    have hna_Page_claims := E.na_Page_claims
    obtain ⟨x, n, i, j, r, m, l, L, rfl, hn, fi, hsp, hS, q⟩ := h
    have ⟨hm, hl, hp⟩ := fi
    obtain ⟨g, c, hg, hc, ec⟩ := spots_at (hsp ▸ List.mem_cons_self)
    have hmem : n ∈ l.pile := by rw [hn]; exact List.mem_append_right _ List.mem_cons_self
    have hpl : atI (l.pile.map PyData.int) (-1) = some (.int n) := by
      refine atI_lastD ?_
      rw [hn, List.map_append, List.length_append]
      exact List.getElem?_concat_length ..
    have hpd : (l.pile.map PyData.int)[(l.pile.map PyData.int).length - 1]? = some (.int n) := by
      rw [hn, List.map_append, List.length_append]
      exact List.getElem?_concat_length ..
    refine ⟨_, PSs.nox (pss_cons (ps_asg (pe_meth (pv 0) E.cl_Lane E.m_Lane_found G_Lane_found hr_Lane_found b_Lane_found .nil pass0 (pa_cons (pv 1) pa_nil)) (kGTup (n := 2) K rfl (pg_tup rfl (pgs_cons (pg_name (i := 3) sc_Lane_close.nd rfl (Or.inl rfl)) (pgs_cons (pg_name (i := 4) sc_Lane_close.nd rfl (Or.inl rfl)) pgs_nil)))))
(pss_cons (ps_if (pt_cmpR (op_neU K rfl hu) (pe_ix (ix_U K rfl) (kFld K rfl (pe_fld (pv 0) rfl)) (pe_un un_neg pe_int) (fun _ _ => rfl)) (pv 1) (nomark _)) (pss_one ps_never) pss_nil)
(pss_cons (ps_expr (kBM0 K rfl (pe_bm0 PySem.F.plainAttrs_list PySem.F.slot_list_pop PySem.F.type_list_pop mt_pop (kFld K rfl (pe_fld (pv 0) rfl)))))
(pss_one (ps_asg (pe_op (op_addU K rfl) (pe_slice (sl_U K rfl) (pe_ix (ix_U K rfl) (kFld K rfl (pe_fld (pv 3) rfl)) (pv 4) (fun _ _ => rfl)) po_none (po_some pe_int)) (pe_tup (pa_cons (pv 2) pa_nil))) (pg_sub (kFld K rfl (pe_fld (pv 3) rfl)) (pv 4) set_list)))))), ?_⟩
    refine k_body (s1 := some _ :: some _ :: some _ :: [none, none]) rfl ?_
    walk_at "s"
    refine ⟨x, n, i, j, r, l, _, rfl, hmem, fi, hsp, hS, ?_⟩
    clear hS
    intro bk pl ps T w H hw hS
    walk_at "s"
    refine k_popD hS (by walk_at "rep") hpd ?_
    clear hS
    dsimp only [Gv, List.nil_append]
    intro H hS
    have hlen := hS.len2 (f := pgA ⟨E.C_Kind, E.C_Page, E.C_Lane⟩) (by walk_at "mem")
    have hib := (List.getElem?_eq_some_iff.mp hg).1
    have hjb := (List.getElem?_eq_some_iff.mp hc).1
    replace hS := Sep.opnP (hS.rem (by walk_at "rem")) hw hg
    replace hS := hS.page
    obtain ⟨y, cp, us, ey, hS⟩ := hS
    subst ey
    have hus := hS.len2 (f := clmF ⟨E.C_Kind, E.C_Page, E.C_Lane⟩) (by walk_at "mem")
    obtain ⟨vc, hvc⟩ : ∃ v, us[j]? = some v := ⟨_, List.getElem?_eq_getElem (by omega)⟩
    have hxc := atI_nat hvc
    have hix : ixN us.length (j : Int) = some j := ixN_nat (by omega)
    replace hS := hS.get2 (f := clmF ⟨E.C_Kind, E.C_Page, E.C_Lane⟩) (by walk_at "mem") hvc hc
    replace hS := Sep.clm hS
    obtain ⟨tc, kc, dc, ev, hS⟩ := hS
    subst ev
    walk_at "s"
    refine k_addTI hS (by walk_at "mem") (by walk_at "mem") ?_ ?_ ?_ ?_
    · exact Nat.le_of_ble_eq_true rfl
    · intro h; cases h
    · intro h; cases h
    dsimp only [Gv, GvAll, List.nil_append, List.append_nil]
    clear hS
    intro q0 H hS
    walk_at "s"
    have ecut : cutV [V.int c.tick, V.int c.time, V.ref kc, V.ref dc, V.str c.mark] none (some 4) ++ [V.str m] = [V.int c.tick, V.int c.time, V.ref kc, V.ref dc, V.str m] := rfl
    rw [ecut] at hS
    replace hS := Sep.toClm' (Z := ⟨E.C_Kind, E.C_Page, E.C_Lane⟩) (Sub.ok (by walk_at "sub") hS)
    replace hS := Sep.updC (i := j) (Sub.ok (by walk_at "sub") hS) (by omega) hjb
    replace hS := Sep.toPage (Z := ⟨E.C_Kind, E.C_Page, E.C_Lane⟩) (g := ⟨g.ahead, g.clms.set j ⟨c.tick, c.time, c.kind, c.vals, m⟩, g.held⟩) (p := cp) (Sub.ok (by walk_at "sub") hS) (by rfl)
    replace hS := Sep.setP (Sub.ok (by walk_at "sub") hS) hw hib
    refine q _ ?_
    walk_at "tl"
    · show _ = (l.pile.dropLast).map _
      rw [List.map_dropLast]
    · show _ = setMark i j m l.book
      unfold setMark
      rw [hg]
      dsimp only
      rw [hc]
end Lw
-- own part: n11
namespace Ls
open PySem PySem.Spec PyProof.Rows L2
def leaveI : Nat → Ln → Ln
  | 0, l => l
  | i + 1, l => leaveL 0 false (leaveI i l)
def heldB : List Pg → List Pg
  | g :: gs => { g with held := true } :: gs
  | [] => []
def heldL (l : Ln) : Ln := { l with book := heldB l.book }
def dueL (l : Ln) : List Sn := (seenL l).filter fun z => decide (l.coming ≤ z.1)
def takeL (l : Ln) : PyData × Ln :=
  match dueL l with
  | [] => (.none, l)
  | (p, i, c) :: _ => if 0 < p - l.coming then (.tuple [.str "lost", .int (p - l.coming)], { l with coming := p }) else (evD p c, heldL (leaveI i { l with coming := p + 1 }))
def spTake (K : PySem.W.Frag) (Z : Cz) : Sp := fun vs H Q _ => ∃ (x : Addr) (l : Ln) (L : List (As K)), vs = [.ref x] ∧ l.fine ∧ Ls.Sep (laneA Z (.ref x) l :: L) H ∧ ∀ v H', Ls.Sep (im v (takeL l).1 :: laneA Z (.ref x) (takeL l).2 :: L) H' → Q v H'
theorem seenC_at {i : Nat} : ∀ {cs : List Clm} {p : Int}, ∀ z ∈ (seenC i p cs).1, z.2.1 = i
  | [], p, z, h => by cases h
  | c :: cs, p, z, h => by
    unfold seenC at h
    split at h
    · cases h
    · split at h
      · rcases List.mem_cons.mp h with e | h
        · rw [e]
        · exact seenC_at z h
      · exact seenC_at z h
theorem seenB_at : ∀ {gs : List Pg} {p : Int} {i : Nat}, ∀ z ∈ seenB p i gs, i ≤ z.2.1 ∧ z.2.1 < i + gs.length
  | [], p, i, z, h => by cases h
  | g :: gs, p, i, z, h => by
    unfold seenB at h
    rw [List.length_cons]
    split at h
    · have := seenC_at z h
      omega
    · rcases List.mem_append.mp h with h | h
      · have := seenC_at z h
        omega
      · have := seenB_at z h
        omega
theorem leaveB_len0 {b : List Pg} (h : 2 ≤ b.length) : (leaveB 0 b).length = b.length - 1 := by
  match b, h with
  | g :: g2 :: gs, _ => rfl
theorem leaveI_len {l : Ln} : ∀ {i : Nat}, i < l.book.length → (leaveI i l).book.length = l.book.length - i
  | 0, h => rfl
  | i + 1, h => by
    have ih := leaveI_len (l := l) (i := i) (by omega)
    show (leaveB 0 (leaveI i l).book).length = _
    rw [leaveB_len0 (by omega), ih]
    omega
theorem leaveI_mem {l : Ln} {P : Pg → Prop} (hp : ∀ g a, P g → P { g with ahead := a }) (h : ∀ g ∈ l.book, P g) : ∀ i, ∀ g ∈ (leaveI i l).book, P g
  | 0 => h
  | i + 1 => leaveB_mem hp (leaveI_mem hp h i)
theorem dueL_at {l : Ln} {p : Int} {i : Nat} {c : Clm} {r : List Sn} (h : dueL l = (p, i, c) :: r) : i < l.book.length := by
  have hm : (p, i, c) ∈ dueL l := by rw [h]; exact List.mem_cons_self
  have := seenB_at _ (List.mem_filter.mp hm).1
  dsimp only at this
  omega
end Ls
namespace Lw
open PySem PySem.Spec PyProof.Rows L2 Ls
theorem ok_Lane_take {P : Program} {w : World} {K : PySem.W.Frag} {mg : Str → Option Value} {base : Heap} (E : Env K mg) : FnOk P w K mg base CX0 3 E.a_Lane_take E.fd_Lane_take ["self"] (spTake K ⟨E.C_Kind, E.C_Page, E.C_Lane⟩) := by
  refine E.F_Lane_take.ok sc_Lane_take (fun vs H Q E h => ?_) (fun cdv A outer s H vs Q E' hr h => ?_)
  · walk_at "hl"
  · have hu := huOf hr
    have G_told_event := ok_told_event (P := P) (w := w) (base := base) E
    have hr_told_event := hr.mono (show 1 ≤ 2 by decide)
    have b_told_event := b_told_event E
    have G_Lane_leave := ok_Lane_leave (P := P) (w := w) (base := base) E
    have hr_Lane_leave := hr.mono (show 2 ≤ 2 by decide)
    have G_Lane_seen := ok_Lane_seen (P := P) (w := w) (base := base) E
    have hr_Lane_seen := hr.mono (show 1 ≤ 2 by decide)
    have b_Lane_seen := b_Lane_seen E
    have hcl_Lane := E.cl_Lane
    have hna_Lane_book := E.na_Lane_book
    have hna_Lane_coming := E.na_Lane_coming
    have hcl_Kind := E.cl_Kind
    have hcl_Page := E.cl_Page
    have hna_Page_held := E.na_Page_held
    have kb_Lane_leave__lost := kb_Lane_leave__lost E
    obtain ⟨x, l, L, rfl, fi, hS, q⟩ := h
    have ⟨hm, hl, hp⟩ := fi
    refine ⟨_, PSs.nox (pss_cons (ps_setLc (i := 1) (own := [("one", 2)]) rfl sc_Lane_take.nd rfl rfl (sw_true rfl rfl rfl (by decide +kernel)) (pi_seqU K rfl (pe_meth0 (pv 0) E.cl_Lane E.m_Lane_seen G_Lane_seen hr_Lane_seen b_Lane_seen .nil pass0)) (blkOk_by (N := ["self", "left", "one", "place", "at", "claim", "many", "step"]) (sc := defScope s_Lane_take) (by decide +kernel)) (fun _ _ _ _ _ => (pg_name (i := 2) sc_Lane_take.nd rfl (Or.inl rfl))) (fun _ _ _ _ _ => (pts_one (pt_cmpR (op_ge) (pe_ix (ix_U K rfl) (pv 2) pe_int (fun _ _ => rfl)) (kFld K rfl (pe_fld (pv 0) rfl)) (nomark _)))) (fun _ _ _ _ _ => (pv 2)))
(pss_cons (ps_if (pt_cmpR (op_eqZ K rfl hu) (pv 1) (pe_lst pa_nil) (nomark _)) (pss_one (ps_ret pe_non)) pss_nil)
(pss_cons (ps_asg (pe_ix (ix_U K rfl) (pv 1) pe_int (fun _ _ => rfl)) (kGTup (n := 3) K rfl (pg_tup rfl (pgs_cons (pg_name (i := 3) sc_Lane_take.nd rfl (Or.inl rfl)) (pgs_cons (pg_name (i := 4) sc_Lane_take.nd rfl (Or.inl rfl)) (pgs_cons (pg_name (i := 5) sc_Lane_take.nd rfl (Or.inl rfl)) pgs_nil))))))
(pss_cons (ps_set (i := 6) sc_Lane_take.nd rfl (Or.inl rfl) (pe_op op_sub (pv 3) (kFld K rfl (pe_fld (pv 0) rfl))))
(pss_cons (ps_if (pt_cmpR (op_gt) (pv 6) pe_int (nomark _)) (pss_cons (kSF K rfl (ps_fld (pv 0) (pv 3) rfl))
(pss_one (ps_ret (pe_tup (pa_cons pe_str (pa_cons (pv 6) pa_nil)))))) pss_nil)
(pss_cons (kSF K rfl (ps_fld (pv 0) (pe_op (op_addU K rfl) (pv 3) pe_int) rfl))
(pss_cons (ps_for PassesOwn.never rfl (pi_range1 rfl E.n_range (pa_cons (pv 4) pa_nil)) (pg_name (i := 7) sc_Lane_take.nd rfl (Or.inl rfl))
(pss_one (ps_expr (pe_methN (pv 0) E.cl_Lane E.m_Lane_leave G_Lane_leave hr_Lane_leave kb_Lane_leave__lost pass0 (pa_cons pe_int pa_nil) (pk_cons pe_bl pk_nil)))))
(pss_cons (kSF K rfl (ps_fld (pe_ix (ix_U K rfl) (kFld K rfl (pe_fld (pv 0) rfl)) pe_int (fun _ _ => rfl)) pe_bl rfl))
(pss_one (ps_ret (pe_call G_told_event hr_told_event rfl E.g_told_event E.F_told_event.kp b_told_event .nil pass0 (pa_cons (pv 3) (pa_cons (pv 5) pa_nil))))))))))))), ?_⟩
    refine k_body (s1 := some _ :: [none, none, none, none, none, none, none]) rfl ?_
    walk_at "s"
    refine ⟨x, l, _, rfl, fi, hS, ?_⟩
    clear hS
    intro p0 us H hul hS
    have hus := hS.len2 (f := seenF ⟨E.C_Kind, E.C_Page, E.C_Lane⟩) (by walk_at "mem")
    walk_at "s"
    refine lc_filt (f := seenF ⟨E.C_Kind, E.C_Page, E.C_Lane⟩) (vs := us) (zs := seenL l) (fun z => decide (l.coming ≤ z.1)) hS (fun acc N => wk_ob2 (by walk_at "mem") (by walk_at "mem")) (fun i v z acc N hv hz la li eN kp sk H hS => ?_) (fun acc H hS => ?_)
    · replace hS := hS.dup List.mem_cons_self
      replace hS := Sep.seen hS
      obtain ⟨T, w, ev, hS⟩ := hS
      subst ev
      walk_at "ls"
      by_cases e : l.coming ≤ z.1
      · rw [if_pos (decide_eq_true e)]
        walk_at "s"
        exact kp (decide_eq_true e) hS (by walk_at "sub") (by rw [sizeLine_eq]; omega)
      · rw [if_neg (by rw [decide_eq_false e]; exact Bool.false_ne_true)]
        exact sk (decide_eq_false e) hS (by walk_at "sub")
    · have hd : (seenL l).filter (fun z => decide (l.coming ≤ z.1)) = dueL l := rfl
      rw [hd] at hS
      have hac := hS.len2 (f := seenF ⟨E.C_Kind, E.C_Page, E.C_Lane⟩) (by walk_at "mem")
      walk_at "s"
      cases edu : dueL l with
      | nil =>
        have e0 : acc = [] := List.eq_nil_of_length_eq_zero (by rw [hac, edu]; rfl)
        rw [if_pos (decide_eq_true e0)]
        walk_at "s"
        have et : takeL l = (.none, l) := by unfold takeL; rw [edu]
        rw [et] at q
        exact q _ _ (Sep.im_iff.mpr ⟨.non, Sub.ok (by walk_at "sub") hS⟩)
      | cons z r =>
        obtain ⟨pc, i, c⟩ := z
        have hi := dueL_at edu
        rw [edu] at hS hac
        rw [List.length_cons] at hac
        obtain ⟨v, hv⟩ : ∃ v, acc[0]? = some v := ⟨_, List.getElem?_eq_getElem (by omega)⟩
        have hx : atI acc 0 = some v := atI_nat hv
        have e0 : acc ≠ [] := fun z => by rw [z] at hac; cases hac
        rw [if_neg (by rw [decide_eq_false e0]; exact Bool.false_ne_true)]
        replace hS := hS.get2 (f := seenF ⟨E.C_Kind, E.C_Page, E.C_Lane⟩) (by walk_at "mem") hv rfl
        replace hS := Sep.seen hS
        obtain ⟨T, w, ev, hS⟩ := hS
        subst ev
        dsimp only at hS
        replace hS := Sep.lane (hS.rem (by walk_at "rem"))
        obtain ⟨x', bk, pl, ps, ex, hS⟩ := hS
        cases ex
        walk_at "s"
        by_cases em : 0 < pc - l.coming
        · rw [if_pos (decide_eq_true em)]
          have et : takeL l = (.tuple [.str "lost", .int (pc - l.coming)], { l with coming := pc }) := by unfold takeL; rw [edu]; dsimp only; rw [if_pos em]
          rw [et] at q
          walk_at "s"
          replace hS := Sep.toLane (Z := ⟨E.C_Kind, E.C_Page, E.C_Lane⟩) (bk := bk) (pl := pl) (l := { l with coming := pc }) (Sub.ok (by walk_at "sub") hS) (by rfl) (by rfl) (by rfl)
          exact q _ _ (Sub.ok (by walk_at "sub") hS)
        · rw [if_neg (by rw [decide_eq_false em]; exact Bool.false_ne_true)]
          have et : takeL l = (evD pc c, heldL (leaveI i { l with coming := pc + 1 })) := by unfold takeL; rw [edu]; dsimp only; rw [if_neg em]
          rw [et] at q
          generalize hl1 : ({ l with coming := pc + 1 } : Ln) = l1 at q
          have hb1 : l1.book = l.book := by rw [← hl1]
          have hbl : l1.book.length = l.book.length := by rw [hb1]
          walk_at "s"
          replace hS := Sep.toLane (Z := ⟨E.C_Kind, E.C_Page, E.C_Lane⟩) (bk := bk) (pl := pl) (l := l1) (L := clmF ⟨E.C_Kind, E.C_Page, E.C_Lane⟩ w c :: L) (Sub.ok (by walk_at "sub") hS) (by subst hl1; rfl) (by subst hl1; rfl) (by subst hl1; rfl)
          refine for_wk (n := (i : Int).toNat) (Y := fun j q => q (.int (0 + (j : Nat))) []) (fun j σ L' => L' = laneA ⟨E.C_Kind, E.C_Page, E.C_Lane⟩ (.ref x) (leaveI j l1) :: clmF ⟨E.C_Kind, E.C_Page, E.C_Lane⟩ w c :: L ∧ ∃ c1 c7, σ = [some (.ref x), c1, none, some (.int pc), some (.int (i : Nat)), some w, some (.int (pc - l.coming)), c7]) (fun j σ L' _ => wk_rng) hS ⟨rfl, _, _, rfl⟩ (fun j σ L' hj iv H hS => ?_) (fun σ L' H iv hS => ?_)
          · obtain ⟨rfl, c1, c7, rfl⟩ := iv
            walk_at "ns"
            have hlj := leaveI_len (l := l1) (i := j) (by omega)
            walk_at "s"
            refine ⟨rfl, rfl, ?_⟩
            refine ⟨.ref x, 0, false, leaveI j l1, _, rfl, by omega, by omega, leaveI_mem (fun g a h => h) (by rw [hb1]; exact hp) j, hS, ?_⟩
            clear hS
            intro H hS
            have e : leaveL 0 false (leaveI j l1) = leaveI (j + 1) l1 := rfl
            rw [e] at hS
            exact ⟨_, ⟨rfl, _, _, rfl⟩, Sub.ok (by walk_at "sub") hS⟩
          · obtain ⟨rfl, c1, c7, rfl⟩ := iv
            rw [Int.toNat_natCast] at hS
            have hlj := leaveI_len (l := l1) (i := i) (by omega)
            replace hS := Sep.lane hS
            obtain ⟨x', bk, pl, ps, ex, hS⟩ := hS
            cases ex
            have hps := hS.len2 (f := pgA ⟨E.C_Kind, E.C_Page, E.C_Lane⟩) (by walk_at "mem")
            obtain ⟨v0, hv0⟩ : ∃ v, ps[0]? = some v := ⟨_, List.getElem?_eq_getElem (by omega)⟩
            obtain ⟨g0, hg0⟩ : ∃ v, (leaveI i l1).book[0]? = some v := ⟨_, List.getElem?_eq_getElem (by omega)⟩
            have hx0 : atI ps 0 = some v0 := atI_nat hv0
            replace hS := Sep.opnP (hS.rem (by walk_at "rem")) hv0 hg0
            replace hS := hS.page
            obtain ⟨y, cp, us, ey, hS⟩ := hS
            subst ey
            walk_at "s"
            have hh : (leaveI i l1).book.set 0 ⟨g0.ahead, g0.clms, true⟩ = (heldL (leaveI i l1)).book := by
              show _ = heldB _
              cases e : (leaveI i l1).book with
              | nil => rw [e] at hg0; cases hg0
              | cons a b => rw [e] at hg0; cases hg0; rfl
            replace hS := Sep.toPage (Z := ⟨E.C_Kind, E.C_Page, E.C_Lane⟩) (g := ⟨g0.ahead, g0.clms, true⟩) (p := cp) (vs := us) (Sub.ok (by walk_at "sub") hS) (by rfl)
            replace hS := Sep.setP (Sub.ok (by walk_at "sub") hS) hv0 (by omega)
            replace hS := Sep.toLane (Z := ⟨E.C_Kind, E.C_Page, E.C_Lane⟩) (bk := bk) (pl := pl) (l := heldL (leaveI i l1)) (L := clmF ⟨E.C_Kind, E.C_Page, E.C_Lane⟩ w c :: L) (Sub.ok (by walk_at "sub") hS) (by rfl) (by rfl) hh
            refine ⟨pc, w, c, _, rfl, by walk_at "mem", hS, fun p H hS => ?_⟩
            exact q _ _ (Sub.ok (by walk_at "sub") hS)
end Lw
-- own part: n9
namespace Ls
open PySem PySem.Spec PyProof.Rows L2
def giveL (i j : Nat) (l : Ln) : Ln := { closeL i j "given" l with given := l.given + 1 }
def popHead (n : Int) (b : List Pg) : List Pg :=
  match b[b.length - 1]? with
  | some g => match g.clms[g.clms.length - 1]? with
    | some c => if c.tick = n then b.set (b.length - 1) { g with clms := g.clms.dropLast } else b
    | none => b
  | none => b
def throwL (i j : Nat) (n : Int) (l : Ln) : Ln := { closeL i j "thrown" l with back := l.back + 1, book := popHead n (closeL i j "thrown" l).book }
def spShut (K : PySem.W.Frag) (Z : Cz) (f : Nat → Nat → Int → Ln → Ln) : Sp := fun vs H Q _ => ∃ (x : Addr) (n : Int) (i j : Nat) (r : List (Nat × Nat)) (l : Ln) (L : List (As K)), vs = [.ref x, .int n] ∧ l.pile = l.pile.dropLast ++ [n] ∧ l.fine ∧ spotsB n l.book = (i, j) :: r ∧ Ls.Sep (laneA Z (.ref x) l :: L) H ∧
  ∀ H', Ls.Sep (laneA Z (.ref x) (f i j n l) :: L) H' → Q .non H'
theorem Sep.dropC {K : PySem.W.Frag} {L : List (As K)} {H : Hp} {Z : Cz} {vs : List V} {cs : List Clm} (h : Ls.Sep (al2 (clmF Z) vs cs :: L) H) : Ls.Sep (al2 (clmF Z) vs.dropLast cs.dropLast :: L) H := h.dropLast2
theorem setMark_len {i j : Nat} {m : Str} {b : List Pg} : (setMark i j m b).length = b.length := by
  unfold setMark
  split
  · split
    · rw [List.length_set]
    · rfl
  · rfl
theorem setMark_mem {i j : Nat} {m : Str} {b : List Pg} {P : Pg → Prop} (hp : ∀ (g : Pg) (c : Clm), P g → g.clms[j]? = some c → P { g with clms := g.clms.set j { c with mark := m } }) (h : ∀ g ∈ b, P g) : ∀ g ∈ setMark i j m b, P g := by
  unfold setMark
  split
  · rename_i g hg
    split
    · rename_i c hc
      intro g2 h2
      rcases List.mem_or_eq_of_mem_set h2 with z | z
      · exact h g2 z
      · rw [z]
        exact hp g c (h g (List.mem_of_getElem? hg)) hc
    · exact h
  · exact h
theorem fine_set {g : Pg} {j : Nat} {c : Clm} {m : Str} (h : g.fine) (hc : g.clms[j]? = some c) : Pg.fine { g with clms := g.clms.set j { c with mark := m } } := by
  refine ⟨by show (g.clms.set _ _).length ≤ 100; rw [List.length_set]; exact h.1, fun c2 h2 => ?_⟩
  rcases List.mem_or_eq_of_mem_set h2 with z | z
  · exact h.2 c2 z
  · rw [z]
    exact h.2 c (List.mem_of_getElem? hc)
end Ls
namespace Lw
open PySem PySem.Spec PyProof.Rows L2 Ls
theorem ok_Lane_give {P : Program} {w : World} {K : PySem.W.Frag} {mg : Str → Option Value} {base : Heap} (E : Env K mg) : FnOk P w K mg base CX0 3 E.a_Lane_give E.fd_Lane_give ["self", "ticket"] (spShut K ⟨E.C_Kind, E.C_Page, E.C_Lane⟩ (fun i j _ l => giveL i j l)) := by
  refine E.F_Lane_give.ok sc_Lane_give (fun vs H Q E h => ?_) (fun cdv A outer s H vs Q E' hr h => ?_)
  · walk_at "hl"
  · have hu := huOf hr
    have G_Lane_close := ok_Lane_close (P := P) (w := w) (base := base) E
    have hr_Lane_close := hr.mono (show 2 ≤ 2 by decide)
    have b_Lane_close := b_Lane_close E
    have hcl_Lane := E.cl_Lane
    have hna_Lane_given := E.na_Lane_given
    have hcl_Kind := E.cl_Kind
    have hcl_Page := E.cl_Page
    obtain ⟨x, n, i, j, r, l, L, rfl, hn, fi, hsp, hS, q⟩ := h
    refine ⟨_, PSs.nox (pss_cons (ps_expr (pe_meth (pv 0) E.cl_Lane E.m_Lane_close G_Lane_close hr_Lane_close b_Lane_close .nil pass0 (pa_cons (pv 1) (pa_cons pe_str pa_nil))))
(pss_one (kSFA K rfl (ps_fldaug (pv 0) pe_int in_add)))), ?_⟩
    refine k_body (s1 := some _ :: some _ :: []) rfl ?_
    walk_at "s"
    refine ⟨x, n, i, j, r, _, l, _, rfl, hn, fi, hsp, hS, ?_⟩
    clear hS
    intro H hS
    replace hS := hS.lane
    obtain ⟨x', bk, pl, ps, ex, hS⟩ := hS
    cases ex
    walk_at "s"
    refine q _ ?_
    walk_at "tl"
theorem ok_Lane_throw {P : Program} {w : World} {K : PySem.W.Frag} {mg : Str → Option Value} {base : Heap} (E : Env K mg) : FnOk P w K mg base CX0 3 E.a_Lane_throw E.fd_Lane_throw ["self", "ticket"] (spShut K ⟨E.C_Kind, E.C_Page, E.C_Lane⟩ throwL) := by
  refine E.F_Lane_throw.ok sc_Lane_throw (fun vs H Q E h => ?_) (fun cdv A outer s H vs Q E' hr h => ?_)
  · walk_at "hl"
  · have hu := huOf hr
    have G_Lane_close := ok_Lane_close (P := P) (w := w) (base := base) E
    have hr_Lane_close := hr.mono (show 2 ≤ 2 by decide)
    have b_Lane_close := b_Lane_close E
    have hcl_Lane := E.cl_Lane
    have hna_Lane_book := E.na_Lane_book
    have hna_Lane_back_thrown := E.na_Lane_back_thrown
    have hcl_Kind := E.cl_Kind
    have hcl_Page := E.cl_Page
    have hna_Page_claims := E.na_Page_claims
    obtain ⟨x, n, i, j, r, l, L, rfl, hn, fi, hsp, hS, q⟩ := h
    have ⟨hm, hl, hp⟩ := fi
    obtain ⟨g0, c0, hg0, hc0, ec⟩ := spots_at (hsp ▸ List.mem_cons_self)
    have hib := (List.getElem?_eq_some_iff.mp hg0).1
    refine ⟨_, PSs.nox (pss_cons (ps_expr (pe_meth (pv 0) E.cl_Lane E.m_Lane_close G_Lane_close hr_Lane_close b_Lane_close .nil pass0 (pa_cons (pv 1) (pa_cons pe_str pa_nil))))
(pss_cons (kSFA K rfl (ps_fldaug (pv 0) pe_int in_add))
(pss_cons (ps_set (i := 2) sc_Lane_throw.nd rfl (Or.inl rfl) (kFld K rfl (pe_fld (pe_ix (ix_U K rfl) (kFld K rfl (pe_fld (pv 0) rfl)) (pe_un un_neg pe_int) (fun _ _ => rfl)) rfl)))
(pss_one (ps_if (PW.pt (pw_and (pt_cmpR (op_neZ K rfl hu) (pv 2) (pe_lst pa_nil) (nomark _)) (pw_and1 (pt_cmpR (op_eqU K rfl hu) (pe_ix (ix_U K rfl) (pe_ix (ix_U K rfl) (pv 2) (pe_un un_neg pe_int) (fun _ _ => rfl)) pe_int (fun _ _ => rfl)) (pv 1) (nomark _))))) (pss_one (ps_expr (kBM0 K rfl (pe_bm0 PySem.F.plainAttrs_list PySem.F.slot_list_pop PySem.F.type_list_pop mt_pop (pv 2))))) pss_nil))))), ?_⟩
    refine k_body (s1 := some _ :: some _ :: [none]) rfl ?_
    walk_at "s"
    refine ⟨x, n, i, j, r, _, l, _, rfl, hn, fi, hsp, hS, ?_⟩
    clear hS
    intro H hS
    replace hS := hS.lane
    obtain ⟨x', bk, pl, ps, ex, hS⟩ := hS
    cases ex
    have hlen := hS.len2 (f := pgA ⟨E.C_Kind, E.C_Page, E.C_Lane⟩) (by walk_at "mem")
    have hlb : (closeL i j "thrown" l).book.length = l.book.length := setMark_len
    obtain ⟨w, hw⟩ : ∃ v, ps[ps.length - 1]? = some v := ⟨_, List.getElem?_eq_getElem (by omega)⟩
    obtain ⟨g, hg⟩ : ∃ g, (closeL i j "thrown" l).book[ps.length - 1]? = some g := ⟨_, List.getElem?_eq_getElem (by omega)⟩
    have hx := atI_last hw
    replace hS := Sep.opnP (hS.rem (by walk_at "rem")) hw hg
    replace hS := hS.page
    obtain ⟨y, cp, us, ey, hS⟩ := hS
    subst ey
    have hus := hS.len2 (f := clmF ⟨E.C_Kind, E.C_Page, E.C_Lane⟩) (by walk_at "mem")
    walk_at "s"
    have eth : ∀ b2, popHead n (closeL i j "thrown" l).book = b2 → (throwL i j n l).book = b2 := fun b2 e => e
    by_cases hu0 : us = []
    · rw [if_neg (by rw [decide_eq_true hu0]; exact Bool.false_ne_true), if_neg Bool.false_ne_true]
      walk_at "s"
      replace hS := Sep.toPage (Z := ⟨E.C_Kind, E.C_Page, E.C_Lane⟩) (g := g) (p := cp) (vs := us) (Sub.ok (by walk_at "sub") hS) (by rfl)
      replace hS := Sep.clsP (Sub.ok (by walk_at "sub") hS) hw hg
      refine q _ ?_
      walk_at "tl"
      refine (eth _ ?_).symm
      unfold popHead
      rw [← hlen, hg]
      dsimp only
      have e0 : g.clms = [] := List.eq_nil_of_length_eq_zero (by rw [← hus, hu0]; rfl)
      rw [e0]
      rfl
    · have hup : 0 < us.length := List.length_pos_iff.mpr hu0
      obtain ⟨vc, hvc⟩ : ∃ v, us[us.length - 1]? = some v := ⟨_, List.getElem?_eq_getElem (by omega)⟩
      obtain ⟨c, hc⟩ : ∃ c, g.clms[us.length - 1]? = some c := ⟨_, List.getElem?_eq_getElem (by omega)⟩
      have hxc := atI_last hvc
      replace hS := hS.get2 (f := clmF ⟨E.C_Kind, E.C_Page, E.C_Lane⟩) (by walk_at "mem") hvc hc
      replace hS := Sep.clm hS
      obtain ⟨tc, kc, dc, ev, hS⟩ := hS
      subst ev
      rw [if_pos (by rw [decide_eq_false hu0]; rfl)]
      walk_at "s"
      by_cases e : c.tick = n
      · rw [if_pos (decide_eq_true e)]
        walk_at "s"
        replace hS := Sep.dropC (Sub.ok (by walk_at "sub") hS)
        replace hS := Sep.toPage (Z := ⟨E.C_Kind, E.C_Page, E.C_Lane⟩) (g := ⟨g.ahead, g.clms.dropLast, g.held⟩) (p := cp) (vs := us.dropLast) (Sub.ok (by walk_at "sub") hS) (by rfl)
        replace hS := Sep.setP (Sub.ok (by walk_at "sub") hS) hw (by omega)
        refine q _ ?_
        walk_at "tl"
        refine (eth _ ?_).symm
        unfold popHead
        rw [← hlen, hg]
        dsimp only
        rw [← hus, hc]
        dsimp only
        rw [if_pos e]
      · rw [if_neg (by rw [decide_eq_false e]; exact Bool.false_ne_true)]
        walk_at "s"
        replace hS := Sep.toPage (Z := ⟨E.C_Kind, E.C_Page, E.C_Lane⟩) (g := g) (p := cp) (vs := us) (Sub.ok (by walk_at "sub") hS) (by rfl)
        replace hS := Sep.clsP (Sub.ok (by walk_at "sub") hS) hw hg
        refine q _ ?_
        walk_at "tl"
        refine (eth _ ?_).symm
        unfold popHead
        rw [← hlen, hg]
        dsimp only
        rw [← hus, hc]
        dsimp only
        rw [if_neg e]
end Lw
-- own part: n12
namespace Ls
open PySem PySem.Spec PyProof.Rows L2
/-! ### pages apart from what is gone ahead of them -/
abbrev Pa := List Clm × Bool
def Pg.a (g : Pg) : Pa := (g.clms, g.held)
def usedA (x : Pa) : Int := (x.1.map Clm.size).sum
def cntA (b : List Pa) : Nat := (b.filter fun x => !x.2).length
theorem set_mapA {b : List Pg} {i : Nat} {h g : Pg} (hg : b[i]? = some g) (e : h.a = g.a) : (b.set i h).map Pg.a = b.map Pg.a := by
  rw [List.map_set, e]
  have : (b.map Pg.a)[i]? = some g.a := by rw [List.getElem?_map, hg]; rfl
  obtain ⟨h1, h2⟩ := List.getElem?_eq_some_iff.mp this
  rw [← h2, List.set_getElem_self]
theorem map_erase {α β : Type} (f : α → β) : ∀ (b : List α) (i : Nat), (b.eraseIdx i).map f = (b.map f).eraseIdx i
  | [], _ => rfl
  | _ :: _, 0 => rfl
  | x :: b, i + 1 => by
    show f x :: (b.eraseIdx i).map f = f x :: (b.map f).eraseIdx i
    rw [map_erase f b i]
theorem leaveB_a {i : Nat} {b : List Pg} (h : i + 1 < b.length) : (leaveB i b).map Pg.a = (b.map Pg.a).eraseIdx i := by
  have l2 := List.length_eraseIdx_of_lt (l := b) (i := i) (by omega)
  obtain ⟨g, hg⟩ : ∃ g, b[i]? = some g := ⟨_, List.getElem?_eq_getElem (by omega)⟩
  obtain ⟨g2, hg2⟩ : ∃ g, (b.eraseIdx i)[i]? = some g := ⟨_, List.getElem?_eq_getElem (by omega)⟩
  unfold leaveB
  rw [hg, hg2]
  dsimp only
  rw [set_mapA (h := { g2 with ahead := g2.ahead + (g.ahead + g.events) }) hg2 rfl, map_erase]
theorem freeN_len (b : List Pg) : (freeN b).length = cntA (b.map Pg.a) := by
  unfold freeN cntA
  rw [List.length_map, ← List.countP_eq_length_filter, ← List.countP_eq_length_filter, List.countP_map]
  have : ∀ (b : List Pg) (k : Nat), List.countP (fun z : Pg × Nat => !z.1.held) (b.zipIdx k) = List.countP ((fun x : Pa => !x.2) ∘ Pg.a) b := by
    intro b
    induction b with
    | nil => intro k; rfl
    | cons g gs ih =>
      intro k
      rw [List.zipIdx_cons, List.countP_cons, List.countP_cons, ih]
      rfl
  exact this b 0
theorem freeN_mem {b : List Pg} {i : Nat} (h : i ∈ freeN b) : ∃ g, b[i]? = some g ∧ g.held = false := by
  unfold freeN at h
  obtain ⟨⟨g, j⟩, hz, e⟩ := List.mem_map.mp h
  obtain ⟨h1, h2⟩ := List.mem_filter.mp hz
  dsimp only at e h2
  subst e
  exact ⟨g, List.mem_zipIdx_iff_getElem?.mp h1, by cases q : g.held with | true => rw [q] at h2; cases h2 | false => rfl⟩
theorem cntA_erase : ∀ {b : List Pa} {i : Nat} {x : Pa}, b[i]? = some x → x.2 = false → cntA (b.eraseIdx i) + 1 = cntA b
  | y :: b, 0, x, h, e => by
    cases h
    unfold cntA
    rw [List.filter_cons_of_pos (by rw [e]; rfl)]
    rfl
  | y :: b, i + 1, x, h, e => by
    have ih := cntA_erase (b := b) (i := i) h e
    show cntA (y :: b.eraseIdx i) + 1 = cntA (y :: b)
    unfold cntA at ih ⊢
    by_cases q : (!y.2) = true
    · rw [List.filter_cons_of_pos (p := fun x : Pa => !x.2) q, List.filter_cons_of_pos (p := fun x : Pa => !x.2) q, List.length_cons, List.length_cons, ih]
    · rw [List.filter_cons_of_neg (p := fun x : Pa => !x.2) q, List.filter_cons_of_neg (p := fun x : Pa => !x.2) q, ih]
theorem cntA_app (b c : List Pa) : cntA (b ++ c) = cntA b + cntA c := by
  unfold cntA
  rw [List.filter_append, List.length_append]
theorem cntA_sub {b c : List Pa} (h : b.Sublist c) : cntA b ≤ cntA c := (h.filter _).length_le
theorem cntA_le (b : List Pa) : cntA b ≤ b.length := List.length_filter_le _ _
/-- what holds of a lane of one size of events -/
structure LInv (size room most : Int) (took : Bool) (l : Ln) : Prop where
  emost : l.most = most
  eroom : l.room = room
  over : l.over = true
  ne : 1 ≤ l.book.length
  free : (cntA (l.book.map Pg.a) : Int) ≤ most
  tail : ∀ x ∈ (l.book.map Pg.a).tail, x.2 = false
  took : took = false → ∀ x ∈ l.book.map Pg.a, x.2 = false
  pgs : ∀ x ∈ l.book.map Pg.a, usedA x ≤ room ∧ ∀ c ∈ x.1, c.size = size
  opn : ∀ n ∈ l.pile, ∃ x ∈ l.book.map Pg.a, ∃ c ∈ x.1, c.tick = n ∧ c.mark = "open"
  inc : l.pile.Pairwise (· < ·)
  top : ∀ n ∈ l.pile, n ≤ l.last
section
variable {size room most : Int} {took : Bool} {l : Ln} {k : Kd} {t : Int}
theorem cnt_tail : ∀ {b : List Pa}, (∀ x ∈ b.tail, x.2 = false) → b.length ≤ cntA b + 1
  | [], _ => Nat.zero_le _
  | x :: b, h => by
    have e : b.filter (fun x => !x.2) = b := List.filter_eq_self.mpr fun y hy => by rw [h y hy]; rfl
    have : b.length ≤ cntA (x :: b) := by
      unfold cntA
      by_cases q : (!x.2) = true
      · rw [List.filter_cons_of_pos (p := fun x : Pa => !x.2) q, List.length_cons, e]; omega
      · rw [List.filter_cons_of_neg (p := fun x : Pa => !x.2) q, e]; exact Nat.le_refl _
    rw [List.length_cons]
    omega
theorem cnt_all {b : List Pa} (h : ∀ x ∈ b, x.2 = false) : b.length = cntA b := by
  have e : b.filter (fun x => !x.2) = b := List.filter_eq_self.mpr fun y hy => by rw [h y hy]; rfl
  unfold cntA
  rw [e]
theorem LInv.len (I : LInv size room most took l) : (l.book.length : Int) ≤ most + (if took = true then 1 else 0) := by
  have h1 := cnt_tail I.tail
  have h2 := I.free
  rw [List.length_map] at h1
  cases ht : took with
  | true => rw [if_pos rfl]; omega
  | false =>
    have h3 := cnt_all (I.took ht)
    rw [List.length_map] at h3
    rw [if_neg Bool.false_ne_true]
    omega
theorem sum_len {cs : List Clm} (hs : 1 ≤ size) (h : ∀ c ∈ cs, c.size = size) : (cs.map Clm.size).sum = size * cs.length := by
  induction cs with
  | nil => simp
  | cons c cs ih =>
    rw [List.map_cons, List.sum_cons, ih fun c hc => h c (List.mem_cons_of_mem _ hc), h c List.mem_cons_self, List.length_cons]
    push_cast
    rw [Int.mul_add, Int.mul_one, Int.add_comm]
theorem LInv.fine (I : LInv size room most took l) (h1 : 1 ≤ size) (h5 : size ≤ 5) (hr : room ≤ 12) (hm : 2 ≤ most) (hm6 : most ≤ 6) : l.fine := by
  have := I.len
  refine ⟨by rw [I.emost]; exact hm, by split at this <;> omega, fun g hg => ?_⟩
  obtain ⟨hu, hc⟩ := I.pgs g.a (List.mem_map_of_mem hg)
  have e := sum_len (cs := g.clms) h1 hc
  have hu' : (g.clms.map Clm.size).sum ≤ room := hu
  rw [e] at hu'
  refine ⟨?_, fun c hm => ?_⟩
  · have : (g.clms.length : Int) ≤ size * g.clms.length := by
      have := Int.mul_le_mul_of_nonneg_right h1 (Int.natCast_nonneg g.clms.length)
      rw [Int.one_mul] at this
      exact this
    show g.clms.length ≤ 100
    have e2 : (g.clms.length : Int) ≤ 12 := by
      omega
    omega
  · have := hc c hm
    unfold Clm.size at this
    omega
end
end Ls
-- own part: n13
namespace Ls
open PySem PySem.Spec PyProof.Rows L2
section
variable {size room most : Int} {took : Bool} {l : Ln} {k : Kd} {t : Int}
theorem LInv.start (hm : 2 ≤ most) (hr : 0 ≤ room) : LInv size room most false (newLn most room true) where
  emost := rfl
  eroom := rfl
  over := rfl
  ne := Nat.le_refl _
  free := by
    show ((1 : Nat) : Int) ≤ most
    omega
  tail := fun x h => by cases h
  took := fun _ x h => by
    rcases List.mem_singleton.mp h with rfl
    rfl
  pgs := fun x h => by
    rcases List.mem_singleton.mp h with rfl
    exact ⟨hr, fun c h => by cases h⟩
  opn := fun n h => by cases h
  inc := .nil
  top := fun n h => by cases h
def noOpen (x : Pa) : Prop := ∀ c ∈ x.1, c.mark ≠ "open"
theorem waits_no {g : Pg} (h : g.waits = false) : noOpen g.a := by
  intro c hc e
  unfold Pg.waits at h
  have := List.any_eq_false.mp h c hc
  exact this (decide_eq_true e)
theorem tail_erase : ∀ {b : List Pa} {i : Nat}, ∀ x ∈ (b.eraseIdx i).tail, x ∈ b.tail
  | [], _, x, h => by cases h
  | y :: b, 0, x, h => List.mem_of_mem_tail h
  | y :: b, i + 1, x, h => (List.eraseIdx_sublist b i).subset h
theorem erase_or : ∀ {b : List Pa} {i : Nat} {y : Pa}, b[i]? = some y → ∀ x ∈ b, x ∈ b.eraseIdx i ∨ x = y
  | z :: b, 0, y, h, x, hx => by
    cases h
    rcases List.mem_cons.mp hx with e | e
    · exact .inr e
    · exact .inl e
  | z :: b, i + 1, y, h, x, hx => by
    rcases List.mem_cons.mp hx with e | e
    · exact .inl (e ▸ List.mem_cons_self)
    · rcases erase_or (b := b) (i := i) h x e with q | q
      · exact .inl (List.mem_cons_of_mem _ q)
      · exact .inr q
theorem turn1_a (I : LInv size room most took l) (hm : 2 ≤ most) (hb : blocked l = false) : ∃ X, (turn1 l).book.map Pg.a = X ++ [([], false)] ∧ X.Sublist (l.book.map Pg.a) ∧ (cntA X : Int) + 1 ≤ most ∧ (∀ x ∈ X.tail, x ∈ (l.book.map Pg.a).tail) ∧ ∀ x ∈ l.book.map Pg.a, x ∈ X ∨ noOpen x := by
  have eb : (turn1 l).book.map Pg.a = (turn0 l).book.map Pg.a ++ [([], false)] := by
    show ((turn0 l).book ++ [newPg]).map Pg.a = _
    rw [List.map_append]
    rfl
  refine ⟨(turn0 l).book.map Pg.a, eb, ?_⟩
  have hf := I.free
  rw [← freeN_len] at hf
  by_cases h : l.most ≤ ((freeN l.book).length : Nat)
  · have h1 := h
    rw [I.emost] at h1
    obtain ⟨i, j, r, hi⟩ : ∃ i j r, freeN l.book = i :: j :: r := by
      match q : freeN l.book with
      | [] => rw [q, List.length_nil] at h1; omega
      | [_] => rw [q, List.length_singleton] at h1; omega
      | i :: j :: r => exact ⟨i, j, r, rfl⟩
    have ij := freeN_two hi
    obtain ⟨g, hg, gh⟩ := freeN_mem (b := l.book) (i := i) (by rw [hi]; exact List.mem_cons_self)
    have ga : (l.book.map Pg.a)[i]? = some g.a := by rw [List.getElem?_map, hg]; rfl
    have e0 : turn0 l = leaveL i true l := by
      unfold turn0
      rw [if_pos h, hi]
      rfl
    have e1 : (turn0 l).book.map Pg.a = (l.book.map Pg.a).eraseIdx i := by
      rw [e0]
      exact leaveB_a (by omega)
    have gw : g.waits = false := by
      unfold blocked at hb
      rw [decide_eq_true h, I.over, hi] at hb
      have hb : waitsB i l.book = false := hb
      unfold waitsB at hb
      rw [hg] at hb
      exact hb
    have hc := cntA_erase ga gh
    rw [e1]
    refine ⟨List.eraseIdx_sublist _ _, ?_, tail_erase, fun x hx => ?_⟩
    · rw [freeN_len] at hf
      omega
    · rcases erase_or ga x hx with q | q
      · exact .inl q
      · exact .inr (q ▸ waits_no gw)
  · have e0 : turn0 l = l := by unfold turn0; rw [if_neg h]
    rw [e0]
    refine ⟨List.Sublist.refl _, ?_, fun x h => h, fun x h => .inl h⟩
    rw [← freeN_len]
    rw [I.emost] at h
    omega
theorem snoc_ex {b : List Pg} (h : 1 ≤ b.length) : ∃ bs g, b = bs ++ [g] := by
  have hn : b ≠ [] := fun e => by rw [e] at h; cases h
  exact ⟨b.dropLast, b.getLast hn, (List.dropLast_concat_getLast hn).symm⟩
theorem set_snoc {α : Type} (x y : α) : ∀ bs : List α, (bs ++ [y]).set bs.length x = bs ++ [x]
  | [] => rfl
  | z :: bs => by
    show z :: (bs ++ [y]).set bs.length x = _
    rw [set_snoc x y bs]
    rfl
theorem pushHead_snoc (c : Clm) (bs : List Pg) (g : Pg) : pushHead c (bs ++ [g]) = bs ++ [g.push c] := by
  unfold pushHead
  rw [List.length_append, List.length_singleton, Nat.add_sub_cancel, List.getElem?_concat_length]
  exact set_snoc _ _ _
theorem headUsed_snoc (bs : List Pg) (g : Pg) : headUsed (bs ++ [g]) = g.used := by
  unfold headUsed
  rw [List.length_append, List.length_singleton, Nat.add_sub_cancel, List.getElem?_concat_length]
theorem pushA {c : Clm} {b : List Pg} {Y : List Pa} {cs : List Clm} {h : Bool} (e : b.map Pg.a = Y ++ [(cs, h)]) : (pushHead c b).map Pg.a = Y ++ [(cs ++ [c], h)] := by
  have hl : 1 ≤ b.length := by
    have := congrArg List.length e
    rw [List.length_map, List.length_append, List.length_singleton] at this
    omega
  obtain ⟨bs, g, rfl⟩ := snoc_ex hl
  rw [pushHead_snoc]
  rw [List.map_append] at e ⊢
  obtain ⟨e1, e2⟩ := List.append_inj' e rfl
  rw [e1]
  have e3 : g.a = (cs, h) := (List.cons.inj e2).1
  obtain ⟨e4, e5⟩ := Prod.mk.inj e3
  show Y ++ [((g.push c).clms, (g.push c).held)] = _
  unfold Pg.push
  dsimp only
  rw [e4, e5]
theorem sum_snoc (cs : List Clm) (c : Clm) : ((cs ++ [c]).map Clm.size).sum = (cs.map Clm.size).sum + c.size := by
  rw [List.map_append, List.sum_append]
  simp
theorem LInv.claim1 (I : LInv size room most took l) (t : Int) : LInv size room most took (claim1 t l) :=
  ⟨I.emost, I.eroom, I.over, I.ne, I.free, I.tail, I.took, I.pgs, I.opn, I.inc, fun n h => by have := I.top n h; show n ≤ l.last + 1; omega⟩
theorem LInv.turn1 (I : LInv size room most took l) (hm : 2 ≤ most) (hr : 0 ≤ room) (hb : blocked l = false) : LInv size room most took (turn1 l) := by
  obtain ⟨X, e, hs, hc, ht, ho⟩ := turn1_a I hm hb
  have ep : (Ls.turn1 l).most = l.most ∧ (Ls.turn1 l).room = l.room ∧ (Ls.turn1 l).over = l.over ∧ (Ls.turn1 l).pile = l.pile ∧ (Ls.turn1 l).last = l.last := by
    unfold Ls.turn1 turn0 leaveL
    dsimp only
    split <;> exact ⟨rfl, rfl, rfl, rfl, rfl⟩
  obtain ⟨e1, e2, e3, e4, e5⟩ := ep
  refine ⟨e1.trans I.emost, e2.trans I.eroom, e3.trans I.over, turn1_len.1, ?_, ?_, fun h => ?_, ?_, ?_, by rw [e4]; exact I.inc, by rw [e4, e5]; exact I.top⟩
  · rw [e, cntA_app]
    show ((cntA X + 1 : Nat) : Int) ≤ most
    omega
  · rw [e]
    intro x hx
    cases X with
    | nil => cases hx
    | cons y X =>
      rcases List.mem_append.mp (show x ∈ X ++ [([], false)] from hx) with q | q
      · exact I.tail x (ht x q)
      · rw [List.mem_singleton.mp q]
  · rw [e]
    intro x hx
    rcases List.mem_append.mp hx with q | q
    · exact I.took h x (hs.subset q)
    · rw [List.mem_singleton.mp q]
  · rw [e]
    intro x hx
    rcases List.mem_append.mp hx with q | q
    · exact I.pgs x (hs.subset q)
    · rw [List.mem_singleton.mp q]
      exact ⟨hr, fun d hd => by cases hd⟩
  · rw [e, e4]
    intro n hn
    obtain ⟨x, hx, d, hd, h1, h2⟩ := I.opn n hn
    rcases ho x hx with z | z
    · exact ⟨x, List.mem_append_left _ z, d, hd, h1, h2⟩
    · exact (z d hd h2).elim
theorem LInv.push {X : List Pa} {cs : List Clm} {h : Bool} {c : Clm} {l' : Ln} (I : LInv size room most took l) (e : l.book.map Pg.a = X ++ [(cs, h)]) (eb : l'.book = pushHead c l.book) (e1 : l'.most = l.most) (e2 : l'.room = l.room) (e3 : l'.over = l.over) (e4 : l'.pile = l.pile ++ [c.tick])
    (hl : ∀ n ∈ l.pile, n < c.tick) (hl2 : c.tick ≤ l'.last) (hu : (cs.map Clm.size).sum + size ≤ room) (hc1 : c.size = size) (hc3 : c.mark = "open") : LInv size room most took l' := by
  have e' : l'.book.map Pg.a = X ++ [(cs ++ [c], h)] := by rw [eb]; exact pushA e
  have hmem : ∀ x ∈ X, x ∈ l.book.map Pg.a := fun x hx => by rw [e]; exact List.mem_append_left _ hx
  have hlast : (cs, h) ∈ l.book.map Pg.a := by rw [e]; exact List.mem_append_right _ List.mem_cons_self
  refine ⟨e1.trans I.emost, e2.trans I.eroom, e3.trans I.over, ?_, ?_, ?_, fun ht => ?_, ?_, ?_, ?_, ?_⟩
  · have := congrArg List.length e'
    rw [List.length_map, List.length_append, List.length_singleton] at this
    omega
  · have h1 := I.free
    rw [e, cntA_app] at h1
    rw [e', cntA_app]
    have : cntA [(cs ++ [c], h)] = cntA [(cs, h)] := by unfold cntA; cases h <;> rfl
    rw [this]
    exact h1
  · have h1 := I.tail
    rw [e] at h1
    rw [e']
    intro x hx
    cases X with
    | nil => cases hx
    | cons y X =>
      rcases List.mem_append.mp (show x ∈ X ++ [(cs ++ [c], h)] from hx) with q | q
      · exact h1 x (List.mem_append_left _ q)
      · rw [List.mem_singleton.mp q]
        exact h1 (cs, h) (List.mem_append_right _ List.mem_cons_self)
  · rw [e']
    intro x hx
    rcases List.mem_append.mp hx with q | q
    · exact I.took ht x (hmem x q)
    · rw [List.mem_singleton.mp q]
      exact I.took ht (cs, h) hlast
  · rw [e']
    intro x hx
    rcases List.mem_append.mp hx with q | q
    · exact I.pgs x (hmem x q)
    · rw [List.mem_singleton.mp q]
      refine ⟨?_, fun d hd => ?_⟩
      · show ((cs ++ [c]).map Clm.size).sum ≤ room
        rw [sum_snoc, hc1]
        exact hu
      · rcases List.mem_append.mp hd with q | q
        · exact (I.pgs _ hlast).2 d q
        · rw [List.mem_singleton.mp q]; exact hc1
  · rw [e', e4]
    intro n hn
    rcases List.mem_append.mp hn with q | q
    · obtain ⟨x, hx, d, hd, h1, h2⟩ := I.opn n q
      rw [e] at hx
      rcases List.mem_append.mp hx with z | z
      · exact ⟨x, List.mem_append_left _ z, d, hd, h1, h2⟩
      · rw [List.mem_singleton.mp z] at hd
        exact ⟨_, List.mem_append_right _ List.mem_cons_self, d, List.mem_append_left _ hd, h1, h2⟩
    · rw [List.mem_singleton.mp q]
      exact ⟨_, List.mem_append_right _ List.mem_cons_self, c, List.mem_append_right _ List.mem_cons_self, rfl, hc3⟩
  · rw [e4, List.pairwise_append]
    refine ⟨I.inc, List.pairwise_singleton _ _, fun a ha b hb => ?_⟩
    rw [List.mem_singleton.mp hb]
    exact hl a ha
  · rw [e4]
    intro n hn
    rcases List.mem_append.mp hn with q | q
    · have := hl n q
      omega
    · rw [List.mem_singleton.mp q]
      exact hl2
theorem last_a (h : 1 ≤ l.book.length) : ∃ X cs hd, l.book.map Pg.a = X ++ [(cs, hd)] ∧ headUsed l.book = (cs.map Clm.size).sum ∧ usesL l = X.map usedA ++ [(cs.map Clm.size).sum] := by
  obtain ⟨bs, g, e⟩ := snoc_ex h
  refine ⟨bs.map Pg.a, g.clms, g.held, by rw [e, List.map_append]; rfl, by rw [e]; exact headUsed_snoc _ _, ?_⟩
  unfold usesL
  rw [e, List.map_append, List.map_map]
  rfl
theorem uses_a (l : Ln) : usesL l = (l.book.map Pg.a).map usedA := by
  unfold usesL
  rw [List.map_map]
  rfl
/-- a claim -/
theorem LInv.claim (I : LInv size room most took l) (hm : 2 ≤ most) (hr : 0 ≤ room) (hsr : size ≤ room) (hk : kSize k = size) (t : Int) : LInv size room most took (claimL k t l).2 ∧ (claimL k t l).2.last = l.last + 1 ∧ (claimL k t l).2.latest = some t ∧
    ((claimL k t l).1 = none → (claimL k t l).2.book = l.book ∧ (claimL k t l).2.pile = l.pile ∧ room < headUsed l.book + size) ∧
    (∀ n, (claimL k t l).1 = some n → n = l.last + 1 ∧ (claimL k t l).2.pile = l.pile ++ [l.last + 1] ∧ (headUsed l.book + size ≤ room → usesL (claimL k t l).2 = (usesL l).dropLast ++ [headUsed l.book + size])) := by
  have I1 := I.claim1 t
  have hcs : (newClm k t l).size = size := hk
  have htk : ∀ n ∈ l.pile, n < l.last + 1 := fun n h => by have := I.top n h; omega
  by_cases hq : missedQ k t l = true
  · have e : claimL k t l = (none, { Ls.claim1 t l with missed := l.missed + 1 }) := by unfold claimL; rw [if_pos hq]
    rw [e]
    unfold missedQ full at hq
    rw [Bool.and_eq_true, decide_eq_true_eq, hk, I.eroom] at hq
    refine ⟨⟨I1.emost, I1.eroom, I1.over, I1.ne, I1.free, I1.tail, I1.took, I1.pgs, I1.opn, I1.inc, I1.top⟩, rfl, rfl, fun _ => ⟨rfl, rfl, hq.1⟩, fun n h => by cases h⟩
  · have e : claimL k t l = (some (l.last + 1), claim2 k t l) := by unfold claimL; rw [if_neg hq]
    rw [e]
    have hq : missedQ k t l = false := by cases z : missedQ k t l with | true => exact (hq z).elim | false => rfl
    obtain ⟨c1, c2, c3⟩ := claim0_last (k := k) (t := t) (l := l)
    refine ⟨?_, c1, c3, fun h => (by cases h), fun n h => ⟨(Option.some.inj h).symm, rfl, fun hle => ?_⟩⟩
    · by_cases hf : full k l = true
      · have hb : blocked (Ls.claim1 t l) = false := by
          unfold missedQ at hq
          rw [hf, Bool.true_and] at hq
          exact hq
        have I2 := I1.turn1 hm hr hb
        obtain ⟨X, eX, _⟩ := turn1_a I1 hm hb
        have e0 : claim0 k t l = Ls.turn1 (Ls.claim1 t l) := by unfold claim0; rw [if_pos hf]
        refine I2.push (c := newClm k t l) (l' := claim2 k t l) eX ?_ ?_ ?_ ?_ ?_ ?_ ?_ ?_ hcs rfl
        · show pushHead _ (claim0 k t l).book = _
          rw [e0]
        · show (claim0 k t l).most = _
          rw [e0]
        · show (claim0 k t l).room = _
          rw [e0]
        · show (claim0 k t l).over = _
          rw [e0]
        · show l.pile ++ [l.last + 1] = (Ls.turn1 (Ls.claim1 t l)).pile ++ [l.last + 1]
          rw [← e0, c2]
        · rw [← e0, c2]
          exact htk
        · show l.last + 1 ≤ (claim0 k t l).last
          rw [c1]
          exact Int.le_refl _
        · show ([].map Clm.size).sum + size ≤ room
          rw [List.map_nil, List.sum_nil]
          omega
      · have hf : full k l = false := by cases z : full k l with | true => exact (hf z).elim | false => rfl
        have e0 : claim0 k t l = Ls.claim1 t l := by unfold claim0; rw [if_neg (by rw [hf]; exact Bool.false_ne_true)]
        obtain ⟨X, cs, hd, eX, hu, _⟩ := last_a I.ne
        have hfit : headUsed l.book + size ≤ room := by
          unfold full at hf
          rw [decide_eq_false_iff_not, hk, I.eroom] at hf
          omega
        refine I1.push (c := newClm k t l) (l' := claim2 k t l) (X := X) (cs := cs) (h := hd) eX ?_ ?_ ?_ ?_ rfl htk ?_ (by rw [← hu]; exact hfit) hcs rfl
        · show pushHead _ (claim0 k t l).book = _
          rw [e0]
        · show (claim0 k t l).most = _
          rw [e0]
        · show (claim0 k t l).room = _
          rw [e0]
        · show (claim0 k t l).over = _
          rw [e0]
        · show l.last + 1 ≤ (claim0 k t l).last
          rw [c1]
          exact Int.le_refl _
    · have hf : full k l = false := by
        unfold full
        rw [hk, I.eroom]
        exact decide_eq_false (by omega)
      have e0 : claim0 k t l = Ls.claim1 t l := by unfold claim0; rw [if_neg (by rw [hf]; exact Bool.false_ne_true)]
      obtain ⟨X, cs, hd, eX, hu, hus⟩ := last_a I.ne
      have e1 : (claim2 k t l).book.map Pg.a = X ++ [(cs ++ [newClm k t l], hd)] := by
        show (pushHead _ (claim0 k t l).book).map _ = _
        rw [e0]
        exact pushA eX
      rw [uses_a, e1, hus, List.dropLast_concat, List.map_append, hu]
      show X.map usedA ++ [((cs ++ [newClm k t l]).map Clm.size).sum] = _
      rw [sum_snoc, hcs]
end
end Ls
-- own part: n14
namespace Ls
open PySem PySem.Spec PyProof.Rows L2
section
variable {size room most : Int} {took : Bool} {l : Ln} {k : Kd} {t : Int}
def isN : PyData → Bool
  | .none => true
  | _ => false
theorem LInv.weak (I : LInv size room most took l) : LInv size room most true l := { I with took := fun h => by cases h }
theorem seenC_no {i : Nat} : ∀ {cs : List Clm} {p : Int}, (seenC i p cs).2.2 = false → ∀ c ∈ cs, c.mark ≠ "open"
  | [], _, _, c, h => by cases h
  | d :: cs, p, e, c, h => by
    by_cases h0 : d.mark = "open"
    · rw [seenC, if_pos h0] at e
      cases e
    · by_cases h1 : d.mark = "given"
      · rw [seenC, if_neg h0, if_pos h1] at e
        rcases List.mem_cons.mp h with q | q
        · rw [q]; exact h0
        · exact seenC_no e c q
      · rw [seenC, if_neg h0, if_neg h1] at e
        rcases List.mem_cons.mp h with q | q
        · rw [q]; exact h0
        · exact seenC_no e c q
theorem seenB_no : ∀ {gs : List Pg} {p : Int} {k : Nat} {z : Sn}, z ∈ seenB p k gs → ∀ j g, gs[j]? = some g → k + j < z.2.1 → noOpen g.a
  | [], _, _, z, h, _, _, _, _ => by cases h
  | g0 :: gs, p, k, z, h, j, g, hg, hj => by
    unfold seenB at h
    split at h
    · have := seenC_at z h
      omega
    · rename_i e
      rcases List.mem_append.mp h with h | h
      · have := seenC_at z h
        omega
      · cases j with
        | zero =>
          cases hg
          exact seenC_no (i := k) (p := p + g0.ahead) (by cases q : (seenC k (p + g0.ahead) g0.clms).2.2 with | true => exact (e q).elim | false => exact q)
        | succ j => exact seenB_no h j g hg (by omega)
theorem leaveI_f : ∀ i, (leaveI i l).most = l.most ∧ (leaveI i l).room = l.room ∧ (leaveI i l).over = l.over ∧ (leaveI i l).pile = l.pile ∧ (leaveI i l).last = l.last ∧ (leaveI i l).latest = l.latest
  | 0 => ⟨rfl, rfl, rfl, rfl, rfl, rfl⟩
  | i + 1 => leaveI_f i
theorem leaveI_a : ∀ {i : Nat}, i < l.book.length → (leaveI i l).book.map Pg.a = (l.book.map Pg.a).drop i
  | 0, _ => rfl
  | i + 1, h => by
    have ih := leaveI_a (i := i) (by omega)
    have hl := leaveI_len (l := l) (i := i) (by omega)
    show (leaveB 0 (leaveI i l).book).map Pg.a = _
    rw [leaveB_a (by omega), ih, List.eraseIdx_zero, List.tail_drop]
theorem LInv.take (I : LInv size room most took l) : LInv size room most (took || !isN (takeL l).1) (takeL l).2 ∧ (takeL l).2.pile = l.pile ∧ (takeL l).2.last = l.last ∧ (takeL l).2.latest = l.latest := by
  unfold takeL
  cases e : dueL l with
  | nil =>
    dsimp only
    rw [show (took || !isN .none) = took by cases took <;> rfl]
    exact ⟨I, rfl, rfl, rfl⟩
  | cons z r =>
    obtain ⟨p, i, c⟩ := z
    dsimp only
    by_cases hl : 0 < p - l.coming
    · rw [if_pos hl]
      dsimp only
      rw [show ∀ ds, (took || !isN (.tuple ds)) = true by intro ds; cases took <;> rfl]
      have J := I.weak
      exact ⟨⟨J.emost, J.eroom, J.over, J.ne, J.free, J.tail, J.took, J.pgs, J.opn, J.inc, J.top⟩, rfl, rfl, rfl⟩
    · rw [if_neg hl]
      dsimp only
      rw [show ∀ ds, (took || !isN (.tuple ds)) = true by intro ds; cases took <;> rfl]
      have hi := dueL_at e
      have hz : (p, i, c) ∈ seenB 0 0 l.book := (List.mem_filter.mp (show (p, i, c) ∈ dueL l by rw [e]; exact List.mem_cons_self)).1
      have hno := fun j g hg hj => seenB_no hz j g hg (show 0 + j < i by omega)
      generalize hl1 : ({ l with coming := p + 1 } : Ln) = l1
      have hb : l1.book = l.book := by rw [← hl1]
      obtain ⟨f1, f2, f3, f4, f5, f6⟩ := leaveI_f (l := l1) i
      have g1 : l1.most = l.most ∧ l1.room = l.room ∧ l1.over = l.over ∧ l1.pile = l.pile ∧ l1.last = l.last ∧ l1.latest = l.latest := by rw [← hl1]; exact ⟨rfl, rfl, rfl, rfl, rfl, rfl⟩
      obtain ⟨g1, g2, g3, g4, g5, g6⟩ := g1
      have ea := leaveI_a (l := l1) (i := i) (by rw [hb]; exact hi)
      rw [hb] at ea
      obtain ⟨x, xs, ex⟩ : ∃ x xs, (l.book.map Pg.a).drop i = x :: xs := by
        cases q : (l.book.map Pg.a).drop i with
        | nil =>
          have := congrArg List.length q
          rw [List.length_drop, List.length_map, List.length_nil] at this
          omega
        | cons x xs => exact ⟨x, xs, rfl⟩
      rw [ex] at ea
      have eh : (heldL (leaveI i l1)).book.map Pg.a = (x.1, true) :: xs := by
        show (heldB (leaveI i l1).book).map Pg.a = _
        cases q : (leaveI i l1).book with
        | nil => rw [q] at ea; cases ea
        | cons g gs =>
          rw [q] at ea
          obtain ⟨e1, e2⟩ := List.cons.inj ea
          show (g.clms, true) :: gs.map Pg.a = _
          rw [e2, ← e1]
          rfl
      have sub : (x :: xs).Sublist (l.book.map Pg.a) := ex ▸ List.drop_sublist _ _
      have hx : x ∈ l.book.map Pg.a := sub.subset List.mem_cons_self
      have hxs : ∀ y ∈ xs, y ∈ (l.book.map Pg.a).tail := fun y hy => by
        have e1 : xs = ((l.book.map Pg.a).drop i).tail := by rw [ex]; rfl
        rw [e1, List.tail_drop] at hy
        rw [← List.drop_one]
        have e2 : (l.book.map Pg.a).drop (i + 1) = ((l.book.map Pg.a).drop 1).drop i := by rw [List.drop_drop, Nat.add_comm]
        rw [e2] at hy
        exact List.mem_of_mem_drop hy
      refine ⟨⟨f1.trans (g1.trans I.emost), f2.trans (g2.trans I.eroom), f3.trans (g3.trans I.over), ?_, ?_, ?_, fun h => (by cases h), ?_, ?_, ?_, ?_⟩, f4.trans g4, f5.trans g5, f6.trans g6⟩
      · have := congrArg List.length eh
        rw [List.length_map, List.length_cons] at this
        omega
      · rw [eh]
        have h1 := I.free
        have h2 := cntA_sub sub
        have h3 : cntA ((x.1, true) :: xs) ≤ cntA (x :: xs) := by
          unfold cntA
          rw [List.filter_cons_of_neg (p := fun x : Pa => !x.2) (by simp)]
          exact ((List.sublist_cons_self x xs).filter _).length_le
        omega
      · rw [eh]
        exact fun y hy => I.tail y (hxs y hy)
      · rw [eh]
        intro y hy
        rcases List.mem_cons.mp hy with q | q
        · rw [q]
          exact I.pgs x hx
        · exact I.pgs y (sub.subset (List.mem_cons_of_mem _ q))
      · rw [eh, show (heldL (leaveI i l1)).pile = l.pile from f4.trans g4]
        intro n hn
        obtain ⟨y, hy, d, hd, h1, h2⟩ := I.opn n hn
        obtain ⟨j, hj⟩ := List.getElem?_of_mem hy
        rw [List.getElem?_map] at hj
        obtain ⟨g, hg, rfl⟩ := Option.map_eq_some_iff.mp hj
        by_cases hji : j < i
        · exact (hno j g hg (by omega) d hd h2).elim
        · have hm : g.a ∈ (l.book.map Pg.a).drop i := by
            refine List.mem_of_getElem? (i := j - i) ?_
            rw [List.getElem?_drop, Nat.add_sub_cancel' (by omega), List.getElem?_map, hg]
            rfl
          rw [ex] at hm
          rcases List.mem_cons.mp hm with q | q
          · exact ⟨_, List.mem_cons_self, d, by rw [← q]; exact hd, h1, h2⟩
          · exact ⟨_, List.mem_cons_of_mem _ q, d, hd, h1, h2⟩
      · rw [show (heldL (leaveI i l1)).pile = l.pile from f4.trans g4]
        exact I.inc
      · rw [show (heldL (leaveI i l1)).pile = l.pile from f4.trans g4, show (heldL (leaveI i l1)).last = l.last from f5.trans g5]
        exact I.top
/-! closings -/
theorem snd_cnt {b c : List Pa} (h : b.map (·.2) = c.map (·.2)) : cntA b = cntA c := by
  have e : ∀ b : List Pa, cntA b = (b.map (·.2)).countP fun x => !x := fun b => by
    unfold cntA
    rw [← List.countP_eq_length_filter, List.countP_map]
    rfl
  rw [e, e, h]
theorem LInv.alter {l' : Ln} (I : LInv size room most took l) (es : (l'.book.map Pg.a).map (·.2) = (l.book.map Pg.a).map (·.2)) (e1 : l'.most = l.most) (e2 : l'.room = l.room) (e3 : l'.over = l.over) (e5 : l'.last = l.last) (hp : ∀ n ∈ l'.pile, n ∈ l.pile) (hi : l'.pile.Pairwise (· < ·))
    (pg : ∀ x ∈ l'.book.map Pg.a, usedA x ≤ room ∧ ∀ c ∈ x.1, c.size = size) (op : ∀ n ∈ l'.pile, ∃ x ∈ l'.book.map Pg.a, ∃ c ∈ x.1, c.tick = n ∧ c.mark = "open") : LInv size room most took l' := by
  refine ⟨e1.trans I.emost, e2.trans I.eroom, e3.trans I.over, ?_, ?_, fun x hx => ?_, fun ht x hx => ?_, pg, op, hi, fun n hn => by rw [e5]; exact I.top n (hp n hn)⟩
  · have := congrArg List.length es
    rw [List.length_map, List.length_map, List.length_map, List.length_map] at this
    have := I.ne
    omega
  · rw [snd_cnt es]
    exact I.free
  · have h1 : x.2 ∈ ((l'.book.map Pg.a).map (·.2)).tail := by rw [← List.map_tail]; exact List.mem_map_of_mem hx
    rw [es, ← List.map_tail] at h1
    obtain ⟨y, hy, e⟩ := List.mem_map.mp h1
    rw [← e]
    exact I.tail y hy
  · have h1 : x.2 ∈ ((l'.book.map Pg.a).map (·.2)) := List.mem_map_of_mem hx
    rw [es] at h1
    obtain ⟨y, hy, e⟩ := List.mem_map.mp h1
    rw [← e]
    exact I.took ht y hy
theorem mem_set_or {α : Type} {x y : α} : ∀ {xs : List α} {i : Nat}, x ∈ xs → x ∈ xs.set i y ∨ xs[i]? = some x
  | z :: xs, 0, h => by
    rcases List.mem_cons.mp h with q | q
    · exact .inr (by rw [q]; rfl)
    · exact .inl (List.mem_cons_of_mem _ q)
  | z :: xs, i + 1, h => by
    rcases List.mem_cons.mp h with q | q
    · exact .inl (by rw [q]; exact List.mem_cons_self)
    · rcases mem_set_or (xs := xs) (i := i) (y := y) q with w | w
      · exact .inl (List.mem_cons_of_mem _ w)
      · exact .inr w
theorem map_set_same {α β : Type} (f : α → β) {xs : List α} {i : Nat} {x y : α} (h : xs[i]? = some x) (e : f y = f x) : (xs.set i y).map f = xs.map f := by
  rw [List.map_set, e]
  have : (xs.map f)[i]? = some (f x) := by rw [List.getElem?_map, h]; rfl
  obtain ⟨h1, h2⟩ := List.getElem?_eq_some_iff.mp this
  rw [← h2, List.set_getElem_self]
theorem last_pair {n : Int} (h : l.pile = l.pile.dropLast ++ [n]) (I : LInv size room most took l) : l.pile.dropLast.Pairwise (· < ·) ∧ ∀ m ∈ l.pile.dropLast, m < n := by
  have h1 := I.inc
  rw [h, List.pairwise_append] at h1
  exact ⟨h1.1, fun m hm => h1.2.2 m hm n List.mem_cons_self⟩
theorem LInv.close {n : Int} {i j : Nat} {m : Str} {r : List (Nat × Nat)} (I : LInv size room most took l) (h : l.pile = l.pile.dropLast ++ [n]) (hs : spotsB n l.book = (i, j) :: r) : LInv size room most took (closeL i j m l) := by
  obtain ⟨g, c, hg, hc, hn⟩ := spots_at (n := n) (b := l.book) (i := i) (j := j) (by rw [hs]; exact List.mem_cons_self)
  obtain ⟨p1, p2⟩ := last_pair h I
  have eb : (closeL i j m l).book = l.book.set i { g with clms := g.clms.set j { c with mark := m } } := by
    show setMark i j m l.book = _
    unfold setMark
    rw [hg]
    dsimp only
    rw [hc]
  have ga : (l.book.map Pg.a)[i]? = some g.a := by rw [List.getElem?_map, hg]; rfl
  have ea : (closeL i j m l).book.map Pg.a = (l.book.map Pg.a).set i (g.clms.set j { c with mark := m }, g.held) := by
    rw [eb, List.map_set]
    rfl
  have hil := (List.getElem?_eq_some_iff.mp ga).1
  refine I.alter ?_ rfl rfl rfl rfl (fun q hq => ?_) p1 ?_ ?_
  · rw [ea]
    exact map_set_same _ ga rfl
  · rw [h]
    exact List.mem_append_left _ hq
  · rw [ea]
    intro x hx
    rcases List.mem_or_eq_of_mem_set hx with q | q
    · exact I.pgs x q
    · obtain ⟨k1, k2⟩ := I.pgs g.a (List.mem_of_getElem? ga)
      rw [q]
      refine ⟨?_, fun d hd => ?_⟩
      · show ((g.clms.set j { c with mark := m }).map Clm.size).sum ≤ room
        rw [map_set_same (y := ({ c with mark := m } : Clm)) Clm.size hc rfl]
        exact k1
      · rcases List.mem_or_eq_of_mem_set hd with q | q
        · exact k2 d q
        · rw [q]
          exact k2 c (List.mem_of_getElem? hc)
  · rw [ea]
    intro q hq
    have hlt := p2 q hq
    obtain ⟨x, hx, d, hd, h1, h2⟩ := I.opn q (by rw [h]; exact List.mem_append_left _ hq)
    rcases mem_set_or (i := i) (y := ((g.clms.set j { c with mark := m }, g.held) : Pa)) hx with w | w
    · exact ⟨x, w, d, hd, h1, h2⟩
    · rw [ga] at w
      cases w
      refine ⟨_, List.mem_set hil _, d, ?_, h1, h2⟩
      rcases mem_set_or (i := j) (y := ({ c with mark := m } : Clm)) (show d ∈ g.clms from hd) with w | w
      · exact w
      · rw [hc] at w
        cases w
        omega
theorem LInv.pop {n : Int} (I : LInv size room most took l) (h0 : 0 ≤ size) (hn : n ∉ l.pile) : LInv size room most took { l with book := popHead n l.book } := by
  obtain ⟨bs, g, eb⟩ := snoc_ex I.ne
  have hlast : l.book[l.book.length - 1]? = some g := by rw [eb, List.length_append, List.length_singleton, Nat.add_sub_cancel, List.getElem?_concat_length]
  have same : LInv size room most took { l with book := l.book } := I
  unfold popHead
  rw [hlast]
  dsimp only
  cases hc : g.clms[g.clms.length - 1]? with
  | none => exact same
  | some c =>
    dsimp only
    by_cases e : c.tick = n
    · rw [if_pos e]
      have ga : (l.book.map Pg.a)[l.book.length - 1]? = some g.a := by rw [List.getElem?_map, hlast]; rfl
      have ea : (l.book.set (l.book.length - 1) { g with clms := g.clms.dropLast }).map Pg.a = (l.book.map Pg.a).set (l.book.length - 1) (g.clms.dropLast, g.held) := by
        rw [List.map_set]
        rfl
      have hil := (List.getElem?_eq_some_iff.mp ga).1
      obtain ⟨k1, k2⟩ := I.pgs g.a (List.mem_of_getElem? ga)
      have hne : g.clms ≠ [] := fun z => by rw [z] at hc; cases hc
      have eg : g.clms = g.clms.dropLast ++ [c] := by
        have h1 := (List.dropLast_concat_getLast hne).symm
        have h2 : g.clms.getLast hne = c := by
          have := List.getLast?_eq_getElem? (l := g.clms)
          rw [hc, List.getLast?_eq_some_getLast hne] at this
          exact Option.some.inj this
        rw [h2] at h1
        exact h1
      refine I.alter (l' := { l with book := _ }) ?_ rfl rfl rfl rfl (fun q hq => hq) I.inc ?_ ?_
      · show (List.map Pg.a (l.book.set _ _)).map _ = _
        rw [ea]
        exact map_set_same _ ga rfl
      · show ∀ x ∈ List.map Pg.a (l.book.set _ _), _
        rw [ea]
        intro x hx
        rcases List.mem_or_eq_of_mem_set hx with q | q
        · exact I.pgs x q
        · rw [q]
          refine ⟨?_, fun d hd => k2 d ((List.dropLast_sublist _).subset hd)⟩
          have k3 : (g.clms.map Clm.size).sum ≤ room := k1
          rw [eg, sum_snoc] at k3
          have := k2 c (List.mem_of_getElem? hc)
          show (g.clms.dropLast.map Clm.size).sum ≤ room
          omega
      · show ∀ q ∈ l.pile, ∃ x ∈ List.map Pg.a (l.book.set _ _), _
        rw [ea]
        intro q hq
        obtain ⟨x, hx, d, hd, h1, h2⟩ := I.opn q hq
        rcases mem_set_or (i := l.book.length - 1) (y := ((g.clms.dropLast, g.held) : Pa)) hx with w | w
        · exact ⟨x, w, d, hd, h1, h2⟩
        · rw [ga] at w
          cases w
          refine ⟨_, List.mem_set hil _, d, ?_, h1, h2⟩
          have hd : d ∈ g.clms := hd
          rw [eg] at hd
          rcases List.mem_append.mp hd with w | w
          · exact w
          · rw [List.mem_singleton.mp w] at h1
            exact (hn (by rw [← e, h1]; exact hq)).elim
    · rw [if_neg e]
      exact same
theorem LInv.give {n : Int} {i j : Nat} {r : List (Nat × Nat)} (I : LInv size room most took l) (h : l.pile = l.pile.dropLast ++ [n]) (hs : spotsB n l.book = (i, j) :: r) : LInv size room most took (giveL i j l) := by
  have J := I.close (m := "given") h hs
  exact ⟨J.emost, J.eroom, J.over, J.ne, J.free, J.tail, J.took, J.pgs, J.opn, J.inc, J.top⟩
theorem LInv.throw {n : Int} {i j : Nat} {r : List (Nat × Nat)} (I : LInv size room most took l) (h0 : 0 ≤ size) (h : l.pile = l.pile.dropLast ++ [n]) (hs : spotsB n l.book = (i, j) :: r) : LInv size room most took (throwL i j n l) := by
  have J := I.close (m := "thrown") h hs
  obtain ⟨p1, p2⟩ := last_pair h I
  have hn : n ∉ (closeL i j "thrown" l).pile := fun z => by
    have := p2 n z
    omega
  have J2 := J.pop h0 hn
  exact ⟨J2.emost, J2.eroom, J2.over, J2.ne, J2.free, J2.tail, J2.took, J2.pgs, J2.opn, J2.inc, J2.top⟩
theorem LInv.spots {n : Int} (I : LInv size room most took l) (h : n ∈ l.pile) : ∃ i j r, spotsB n l.book = (i, j) :: r := by
  obtain ⟨x, hx, c, hc, h1, _⟩ := I.opn n h
  obtain ⟨g, hg, rfl⟩ := List.mem_map.mp hx
  obtain ⟨i, hi⟩ := List.getElem?_of_mem hg
  obtain ⟨j, hj⟩ := List.getElem?_of_mem (show c ∈ g.clms from hc)
  have : (i, j) ∈ spotsB n l.book := by
    unfold spotsB spotsP
    refine List.mem_flatMap.mpr ⟨(g, i), List.mem_zipIdx_iff_getElem?.mpr hi, List.mem_flatMap.mpr ⟨(c, j), List.mem_zipIdx_iff_getElem?.mpr hj, ?_⟩⟩
    dsimp only
    rw [if_pos h1]
    exact List.mem_cons_self
  cases q : spotsB n l.book with
  | nil => rw [q] at this; cases this
  | cons z r => exact ⟨z.1, z.2, r, rfl⟩
end
end Ls
-- own part: d3
namespace Ls
open PySem PySem.Spec PyProof.Rows L2
def lastR (m : MM) : Int := m.row.getLastD 0
def begM (t : Int) (m : MM) : MM := { m with tickets := m.tickets + 1, time := some t }
def fullM (k : Kd) (m : MM) : Bool := decide (m.room < usedM (lastR m) m + 1 + k.2.length)
def pushM (k : Kd) (t : Int) (m : MM) : MM := { m with all := m.all ++ [(lastR m, ⟨m.tickets, t, k, lows k, "open"⟩)], pile := m.pile ++ [m.tickets] }
def turnedM (k : Kd) (t : Int) (m : MM) : MM := if fullM k m then (turnsM (begM t m)).2 else begM t m
def claimsM (k : Kd) (t : Int) (m : MM) : Option Int × MM := if fullM k m && blockedM (begM t m) then (none, { begM t m with missed := m.missed + 1 }) else (some (m.tickets + 1), pushM k t (turnedM k t m))
def spClaimsM (K : PySem.W.Frag) : Sp := fun vs H Q _ => ∃ (v : V) (kd : Addr) (t : Int) (k : Kd) (m : MM) (L : List (As K)), vs = [v, .ref kd, .int t] ∧ im (.ref kd) (kdD k) ∈ L ∧ k.2.length ≤ 4 ∧ m.few ∧ m.row ≠ [] ∧ 1 ≤ m.most ∧ Ls.Sep (mmA v m :: L) H ∧ ∀ H', Ls.Sep (mmA v (claimsM k t m).2 :: L) H' → Q (oiV (claimsM k t m).1) H'
theorem atI_lastR {m : MM} (h : m.row ≠ []) : atI (m.row.map PyData.int) (-1) = some (.int (lastR m)) := by
  refine atI_lastD ?_
  obtain ⟨x, r, e⟩ : ∃ x r, m.row = r ++ [x] := ⟨m.row.getLast h, m.row.dropLast, (List.dropLast_concat_getLast h).symm⟩
  unfold lastR
  rw [e, List.map_append, List.length_append, List.getLastD_concat]
  exact List.getElem?_concat_length ..
theorem turns_f (m : MM) : (turnsM m).2.all = m.all ∧ (turnsM m).2.tickets = m.tickets ∧ (turnsM m).2.pile = m.pile ∧ (turnsM m).2.most = m.most ∧ (turnsM m).2.room = m.room ∧ (turnsM m).2.over = m.over ∧ (turnsM m).2.held = m.held ∧ (turnsM m).2.time = m.time ∧ (turnsM m).2.told = m.told := by
  unfold turnsM turn0M
  split
  · exact ⟨rfl, rfl, rfl, rfl, rfl, rfl, rfl, rfl, rfl⟩
  · split <;> exact ⟨rfl, rfl, rfl, rfl, rfl, rfl, rfl, rfl, rfl⟩
end Ls
namespace Lw
open PySem PySem.Spec PyProof.Rows L2 Ls
end Lw
-- own part: d4
namespace Ls
open PySem PySem.Spec PyProof.Rows L2
/-- the first claim of a ticket stands at i -/
def FirstC (n : Int) (cs : List MC) (i : Nat) (c : MC) : Prop := cs[i]? = some c ∧ c.2.tick = n ∧ ∀ (j : Nat) (e : MC), j < i → cs[j]? = some e → e.2.tick ≠ n
theorem pickC_first {n : Int} : ∀ {cs : List MC} {i : Nat} {c : MC} (k : Nat), FirstC n cs i c → ∃ r, ((cs.zipIdx k).flatMap fun z => if decide (z.1.2.tick = n) = true then [(z.2, z.1)] else []) = (k + i, c) :: r
  | [], i, c, k, h => by
    have := h.1
    rw [List.getElem?_nil] at this
    cases this
  | e :: cs, 0, c, k, h => by
    obtain ⟨h1, h2, _⟩ := h
    cases h1
    rw [List.zipIdx_cons, List.flatMap_cons]
    dsimp only
    rw [if_pos (decide_eq_true h2)]
    exact ⟨_, rfl⟩
  | e :: cs, i + 1, c, k, h => by
    obtain ⟨h1, h2, h3⟩ := h
    have h0 := h3 0 e (Nat.succ_pos _) rfl
    rw [List.zipIdx_cons, List.flatMap_cons]
    dsimp only
    rw [if_neg (by rw [decide_eq_false h0]; exact Bool.false_ne_true), List.nil_append]
    obtain ⟨r, hr⟩ := pickC_first (cs := cs) (i := i) (c := c) (k + 1) ⟨h1, h2, fun j e' hj he => h3 (j + 1) e' (by omega) he⟩
    exact ⟨r, by rw [hr, Nat.add_assoc, Nat.add_comm 1 i]⟩
def spClaimOf (K : PySem.W.Frag) : Sp := fun vs H Q _ => ∃ (a al rw pl ct : Addr) (n : Int) (m : MM) (i : Nat) (c : MC) (us : List V) (w : V) (L : List (As K)), vs = [.ref a, .int n] ∧ ob a (.dK (mmKV al rw pl ct m)) ∈ L ∧ ob al (.lst us) ∈ L ∧ al2 mcA us m.all ∈ L ∧ m.all.length ≤ 1000 ∧ FirstC n m.all i c ∧ us[i]? = some w ∧ Ls.Sep L H ∧ ∀ H', Ls.Sep L H' → Q w H'
def setAt (i : Nat) (f : MC → MC) (cs : List MC) : List MC :=
  match cs[i]? with
  | some c => cs.set i (f c)
  | none => cs
def mkMC (s : Str) (c : MC) : MC := (c.1, { c.2 with mark := s })
def valMC (us : List Int) (c : MC) : MC := (c.1, { c.2 with vals := us })
def givesM (i : Nat) (m : MM) : MM := { m with all := setAt i (mkMC "given") m.all, pile := m.pile.dropLast, given := m.given + 1 }
def spGivesM (K : PySem.W.Frag) : Sp := fun vs H Q _ => ∃ (v : V) (n : Int) (i : Nat) (c : MC) (m : MM) (L : List (As K)), vs = [v, .int n] ∧ m.few ∧ FirstC n m.all i c ∧ m.pile ≠ [] ∧ Ls.Sep (mmA v m :: L) H ∧ ∀ H', Ls.Sep (mmA v (givesM i m) :: L) H' → Q .non H'
theorem setAt_eq {i : Nat} {f : MC → MC} {cs : List MC} {c : MC} (h : cs[i]? = some c) : setAt i f cs = cs.set i (f c) := by
  unfold setAt
  rw [h]
end Ls
namespace Lw
open PySem PySem.Spec PyProof.Rows L2 Ls
end Lw
-- own part: m1
namespace Ls
open PySem PySem.Spec PyProof.Rows L2
/-! ### a lane's pages: the held one, if it stands ahead, and the free ones -/
def hdOk (hd : List Pa) : Prop := hd = [] ∨ ∃ cs, hd = [(cs, true)]
def tksA (b : List Pa) : List Int := b.flatMap fun x => x.1.map Clm.tick
def lastA (b : List Pa) : Pa := b.getLastD ([], false)
def evA (x : Pa) : Nat := (x.1.filter Clm.giv).length
def waitA (x : Pa) : Bool := x.1.any Clm.opn
def turnS (most : Int) (bs : List Pa) : List Pa := if most ≤ (bs.length : Nat) then bs.tail else bs
def modL (f : List Clm → List Clm) : List Pa → List Pa
  | [] => []
  | [x] => [(f x.1, x.2)]
  | x :: y :: r => x :: modL f (y :: r)
def modS (f : List Clm → List Clm) (hd bs : List Pa) : List Pa × List Pa := if bs = [] then (modL f hd, []) else (hd, modL f bs)
def blk (most : Int) (over : Bool) (bs : List Pa) : Bool := decide (most ≤ (bs.length : Nat)) && (!over || waitA (bs.headD ([], false)))
def claimS (room most : Int) (c : Clm) (hd bs : List Pa) : List Pa × List Pa := if room < usedA (lastA (hd ++ bs)) + c.size then (hd, turnS most bs ++ [([c], false)]) else modS (· ++ [c]) hd bs
def markC (n : Int) (m : Str) (c : Clm) : Clm := if c.tick = n then { c with mark := m } else c
def markA (n : Int) (m : Str) (x : Pa) : Pa := (x.1.map (markC n m), x.2)
def popC (n : Int) (cs : List Clm) : List Clm := match cs.getLast? with
  | some c => if c.tick = n then cs.dropLast else cs
  | none => cs
structure MInv (room most : Int) (over : Bool) (hd bs : List Pa) (l : Ln) : Prop where
  st : l.book.map Pg.a = hd ++ bs
  hdk : hdOk hd
  bsu : ∀ x ∈ bs, x.2 = false
  ne : hd ++ bs ≠ []
  emost : l.most = most
  eroom : l.room = room
  eover : l.over = over
  free : (bs.length : Int) ≤ most
  pgs : ∀ x ∈ hd ++ bs, usedA x ≤ room ∧ ∀ c ∈ x.1, c.kind.2.length ≤ 4
  opn : ∀ n ∈ l.pile, ∃ x ∈ hd ++ bs, ∃ c ∈ x.1, c.tick = n ∧ c.mark = "open"
  inc : l.pile.Pairwise (· < ·)
  top : ∀ n ∈ l.pile, n ≤ l.last
  tks : (tksA (hd ++ bs)).Pairwise (· < ·)
  tkl : ∀ n ∈ tksA (hd ++ bs), n ≤ l.last
section
variable {room most : Int} {over : Bool} {hd bs : List Pa} {l : Ln} {k : Kd} {t n : Int} {m : Str} {f : List Clm → List Clm} {x : Pa} {b c : List Pa}
theorem split_at {α : Type} : ∀ {b : List α} {i : Nat} {g : α}, b[i]? = some g → ∃ b1 b2, b = b1 ++ g :: b2 ∧ b1.length = i
  | x :: b, 0, g, h => by cases h; exact ⟨[], b, rfl, rfl⟩
  | x :: b, i + 1, g, h => by
    obtain ⟨b1, b2, e, hl⟩ := split_at (b := b) (i := i) h
    exact ⟨x :: b1, b2, by rw [e]; rfl, by rw [List.length_cons, hl]⟩
theorem set_at {α : Type} {g h : α} {b2 : List α} : ∀ {b1 : List α}, (b1 ++ g :: b2).set b1.length h = b1 ++ h :: b2
  | [] => rfl
  | x :: b1 => by
    show x :: (b1 ++ g :: b2).set b1.length h = _
    rw [set_at]
    rfl
theorem freeN_st {b : List Pg} (e : b.map Pg.a = hd ++ bs) (h1 : hdOk hd) (h2 : ∀ x ∈ bs, x.2 = false) : freeN b = List.range' hd.length bs.length := by
  have all : ∀ (b : List Pg) (k : Nat), (∀ x ∈ b.map Pg.a, x.2 = false) → ((b.zipIdx k).filter fun z => !z.1.held).map (·.2) = List.range' k b.length := by
    intro b k hb
    have e2 : (b.zipIdx k).filter (fun z => !z.1.held) = b.zipIdx k := by
      refine List.filter_eq_self.mpr fun z hz => ?_
      have h3 : z.1 ∈ b := by
        have := List.mem_map_of_mem (f := Prod.fst) hz
        rwa [List.zipIdx_map_fst] at this
      have h4 := hb z.1.a (List.mem_map_of_mem h3)
      have h5 : z.1.held = false := h4
      rw [h5]
      rfl
    rw [e2, List.zipIdx_map_snd]
  rcases h1 with rfl | ⟨cs, rfl⟩
  · rw [List.nil_append] at e
    have := all b 0 (by rw [e]; exact h2)
    unfold freeN
    rw [this, ← List.length_map (f := Pg.a), e]
    rfl
  · cases b with
    | nil => cases e
    | cons g b =>
      obtain ⟨e1, e2⟩ := List.cons.inj e
      have hh : g.held = true := by
        have := congrArg Prod.snd e1
        exact this
      have := all b 1 (by rw [e2]; exact h2)
      unfold freeN
      rw [List.zipIdx_cons, List.filter_cons_of_neg (by dsimp only; rw [hh]; exact Bool.false_ne_true)]
      rw [this, ← List.length_map (f := Pg.a), e2]
      rfl
theorem MInv.freeN (I : MInv room most over hd bs l) : Ls.freeN l.book = List.range' hd.length bs.length := freeN_st I.st I.hdk I.bsu
theorem MInv.at (I : MInv room most over hd bs l) {y : Pa} {r : List Pa} (e : bs = y :: r) : ∃ g, l.book[hd.length]? = some g ∧ g.a = y := by
  have h : (l.book.map Pg.a)[hd.length]? = some y := by
    rw [I.st, e, List.getElem?_append_right (Nat.le_refl _), Nat.sub_self]
    rfl
  rw [List.getElem?_map] at h
  obtain ⟨g, h1, h2⟩ := Option.map_eq_some_iff.mp h
  exact ⟨g, h1, h2⟩
theorem range_hd (a : Nat) {n : Nat} (h : 1 ≤ n) : (List.range' a n).headD 0 = a := by
  cases n with
  | zero => omega
  | succ n => rfl
theorem MInv.blocked (I : MInv room most over hd bs l) (hm : 2 ≤ most) : Ls.blocked l = blk most over bs := by
  unfold Ls.blocked blk
  rw [I.freeN, List.length_range', I.emost, I.eover]
  by_cases h : most ≤ (bs.length : Nat)
  · rw [range_hd _ (by omega)]
    cases e : bs with
    | nil => rw [e, List.length_nil] at h; omega
    | cons y r =>
      obtain ⟨g, hg, ga⟩ := I.at e
      have ew : waitsB hd.length l.book = waitA y := by
        unfold waitsB
        rw [hg, ← ga]
        rfl
      rw [ew]
      rfl
  · rw [decide_eq_false h]
    rfl
theorem MInv.turn0 (I : MInv room most over hd bs l) (hm : 2 ≤ most) : (Ls.turn0 l).book.map Pg.a = hd ++ turnS most bs ∧ (Ls.turn0 l).gone = l.gone + (if most ≤ (bs.length : Nat) then (evA (bs.headD ([], false)) : Int) else 0) := by
  unfold Ls.turn0 turnS
  rw [I.freeN, List.length_range', I.emost]
  by_cases h : most ≤ (bs.length : Nat)
  · rw [if_pos h, if_pos h, if_pos h, range_hd _ (by omega)]
    cases e : bs with
    | nil => rw [e, List.length_nil] at h; omega
    | cons y r =>
      obtain ⟨g, hg, ga⟩ := I.at e
      have hl : hd.length + 1 < l.book.length := by
        have := congrArg List.length I.st
        rw [List.length_map, List.length_append] at this
        omega
      refine ⟨?_, ?_⟩
      · show (leaveB hd.length l.book).map Pg.a = _
        rw [leaveB_a hl, I.st, e, List.eraseIdx_append_of_length_le (Nat.le_refl _), Nat.sub_self]
        rfl
      · show l.gone + manyB hd.length l.book = _
        unfold manyB
        rw [hg, ← ga]
        rfl
  · rw [if_neg h, if_neg h, if_neg h, Int.add_zero]
    exact ⟨I.st, rfl⟩
theorem turn0_f (l : Ln) : (turn0 l).most = l.most ∧ (turn0 l).room = l.room ∧ (turn0 l).over = l.over ∧ (turn0 l).pile = l.pile ∧ (turn0 l).last = l.last ∧ (turn0 l).latest = l.latest ∧ (turn0 l).coming = l.coming ∧ (turn0 l).given = l.given ∧ (turn0 l).back = l.back ∧ (turn0 l).missed = l.missed := by
  unfold turn0 leaveL
  split <;> exact ⟨rfl, rfl, rfl, rfl, rfl, rfl, rfl, rfl, rfl, rfl⟩
theorem turnS_sub (most : Int) (bs : List Pa) : (turnS most bs).Sublist bs := by
  unfold turnS
  split
  · exact List.tail_sublist bs
  · exact List.Sublist.refl _
theorem tksA_app (b c : List Pa) : tksA (b ++ c) = tksA b ++ tksA c := by
  unfold tksA
  rw [List.flatMap_append]
theorem tksA_sub (h : b.Sublist c) : (tksA b).Sublist (tksA c) := by
  induction h with
  | slnil => exact List.Sublist.refl _
  | cons x _ ih => exact ih.trans (List.sublist_append_right _ _)
  | cons_cons x _ ih => exact List.Sublist.append (List.Sublist.refl _) ih
theorem blk_no (h : blk most over bs = false) (hm : most ≤ (bs.length : Nat)) : over = true ∧ waitA (bs.headD ([], false)) = false := by
  unfold blk at h
  rw [decide_eq_true hm, Bool.true_and, Bool.or_eq_false_iff] at h
  refine ⟨?_, h.2⟩
  cases over with
  | true => rfl
  | false => exact absurd h.1 (by simp)
theorem turnS_or (hm : 2 ≤ most) (hb : blk most over bs = false) : ∀ x ∈ bs, x ∈ turnS most bs ∨ noOpen x := by
  intro x hx
  unfold turnS
  by_cases h : most ≤ (bs.length : Nat)
  · rw [if_pos h]
    obtain ⟨_, hw⟩ := blk_no hb h
    cases bs with
    | nil => cases hx
    | cons y r =>
      rcases List.mem_cons.mp hx with q | q
      · right
        rw [q]
        intro c hc e
        have := List.any_eq_false.mp hw c hc
        exact this (decide_eq_true e)
      · exact .inl q
  · rw [if_neg h]
    exact .inl hx
theorem turnS_len (hm : 2 ≤ most) (h : (bs.length : Int) ≤ most) : ((turnS most bs).length : Int) + 1 ≤ most := by
  unfold turnS
  split
  · rw [List.length_tail]
    omega
  · omega
theorem MInv.turn1 (I : MInv room most over hd bs l) (hm : 2 ≤ most) (hr : 0 ≤ room) (hb : blk most over bs = false) : MInv room most over hd (turnS most bs ++ [([], false)]) (Ls.turn1 l) := by
  obtain ⟨e1, e2⟩ := I.turn0 hm
  obtain ⟨f1, f2, f3, f4, f5, _⟩ := turn0_f l
  have sub := turnS_sub most bs
  have sub2 : (hd ++ turnS most bs).Sublist (hd ++ bs) := (List.Sublist.refl hd).append sub
  have et : tksA (hd ++ (turnS most bs ++ [([], false)])) = tksA (hd ++ turnS most bs) := by
    rw [← List.append_assoc, tksA_app _ [([], false)]]
    exact List.append_nil _
  refine ⟨?_, I.hdk, fun x hx => ?_, by simp, f1.trans I.emost, f2.trans I.eroom, f3.trans I.eover, ?_, fun x hx => ?_, ?_, ?_, ?_, ?_, ?_⟩
  · show ((Ls.turn0 l).book ++ [newPg]).map Pg.a = _
    rw [List.map_append, e1, List.append_assoc]
    rfl
  · rcases List.mem_append.mp hx with q | q
    · exact I.bsu x (sub.subset q)
    · rw [List.mem_singleton.mp q]
  · rw [List.length_append, List.length_singleton]
    have := turnS_len hm I.free
    omega
  · rw [← List.append_assoc] at hx
    rcases List.mem_append.mp hx with q | q
    · exact I.pgs x (sub2.subset q)
    · rw [List.mem_singleton.mp q]
      exact ⟨hr, fun c h => by cases h⟩
  · show ∀ n ∈ (Ls.turn0 l).pile, _
    rw [f4]
    intro n hn
    obtain ⟨x, hx, d, hd', h1, h2⟩ := I.opn n hn
    rcases List.mem_append.mp hx with q | q
    · exact ⟨x, List.mem_append_left _ q, d, hd', h1, h2⟩
    · rcases turnS_or hm hb x q with z | z
      · exact ⟨x, List.mem_append_right _ (List.mem_append_left _ z), d, hd', h1, h2⟩
      · exact (z d hd' h2).elim
  · show (Ls.turn0 l).pile.Pairwise _
    rw [f4]
    exact I.inc
  · show ∀ n ∈ (Ls.turn0 l).pile, n ≤ (Ls.turn0 l).last
    rw [f4, f5]
    exact I.top
  · rw [et]
    exact I.tks.sublist (tksA_sub sub2)
  · show ∀ n ∈ _, n ≤ (Ls.turn0 l).last
    rw [et, f5]
    exact fun n hn => I.tkl n ((tksA_sub sub2).subset hn)
/-! the last page altered -/
theorem modL_snoc (b : List Pa) (x : Pa) : modL f (b ++ [x]) = b ++ [(f x.1, x.2)] := by
  induction b with
  | nil => rfl
  | cons y b ih =>
    cases b with
    | nil => rfl
    | cons z b =>
      show y :: modL f (z :: b ++ [x]) = _
      rw [ih]
      rfl
theorem modL_app (h : c ≠ []) : modL f (b ++ c) = b ++ modL f c := by
  obtain ⟨d, x, rfl⟩ : ∃ d x, c = d ++ [x] := ⟨c.dropLast, c.getLast h, (List.dropLast_concat_getLast h).symm⟩
  rw [← List.append_assoc, modL_snoc, modL_snoc, List.append_assoc]
theorem modS_app (f : List Clm → List Clm) (hd bs : List Pa) : (modS f hd bs).1 ++ (modS f hd bs).2 = modL f (hd ++ bs) := by
  unfold modS
  by_cases h : bs = []
  · rw [if_pos h, h, List.append_nil, List.append_nil]
  · rw [if_neg h, modL_app h]
theorem modL_len : (modL f b).length = b.length := by
  by_cases h : b = []
  · rw [h]; rfl
  · obtain ⟨d, x, rfl⟩ : ∃ d x, b = d ++ [x] := ⟨b.dropLast, b.getLast h, (List.dropLast_concat_getLast h).symm⟩
    rw [modL_snoc, List.length_append, List.length_append]
    rfl
theorem modL_unh (h : ∀ x ∈ b, x.2 = false) : ∀ x ∈ modL f b, x.2 = false := by
  by_cases hn : b = []
  · rw [hn]; exact fun x hx => by cases hx
  · obtain ⟨d, x, rfl⟩ : ∃ d x, b = d ++ [x] := ⟨b.dropLast, b.getLast hn, (List.dropLast_concat_getLast hn).symm⟩
    rw [modL_snoc]
    intro y hy
    rcases List.mem_append.mp hy with q | q
    · exact h y (List.mem_append_left _ q)
    · rw [List.mem_singleton.mp q]
      exact h x (List.mem_append_right _ List.mem_cons_self)
theorem modS_hd (h : hdOk hd) : hdOk (modS f hd bs).1 := by
  unfold modS
  split
  · rcases h with rfl | ⟨cs, rfl⟩
    · exact .inl rfl
    · exact .inr ⟨f cs, rfl⟩
  · exact h
theorem modS_unh (h : ∀ x ∈ bs, x.2 = false) : ∀ x ∈ (modS f hd bs).2, x.2 = false := by
  unfold modS
  split
  · exact fun x hx => by cases hx
  · exact modL_unh h
theorem modS_len : (modS f hd bs).2.length = bs.length := by
  unfold modS
  split
  · rename_i h; rw [h]
  · exact modL_len
theorem lastA_snoc (b : List Pa) (x : Pa) : lastA (b ++ [x]) = x := by
  unfold lastA
  rw [List.getLastD_concat]
theorem lastA_app (h : c ≠ []) : lastA (b ++ c) = lastA c := by
  obtain ⟨d, x, rfl⟩ : ∃ d x, c = d ++ [x] := ⟨c.dropLast, c.getLast h, (List.dropLast_concat_getLast h).symm⟩
  rw [← List.append_assoc, lastA_snoc, lastA_snoc]
theorem lastA_modL (h : b ≠ []) : lastA (modL f b) = (f (lastA b).1, (lastA b).2) := by
  obtain ⟨d, x, rfl⟩ : ∃ d x, b = d ++ [x] := ⟨b.dropLast, b.getLast h, (List.dropLast_concat_getLast h).symm⟩
  rw [modL_snoc, lastA_snoc, lastA_snoc]
/-- the head's page, in the book -/
theorem MInv.snoc (I : MInv room most over hd bs l) : ∃ X x, hd ++ bs = X ++ [x] ∧ lastA (hd ++ bs) = x ∧ headUsed l.book = usedA x := by
  have e := (List.dropLast_concat_getLast I.ne).symm
  have hl : 1 ≤ l.book.length := by
    have := congrArg List.length I.st
    rw [List.length_map, e, List.length_append, List.length_singleton] at this
    omega
  obtain ⟨gs, g, eg⟩ := snoc_ex hl
  refine ⟨_, _, e, (congrArg lastA e).trans (lastA_snoc _ _), ?_⟩
  rw [eg, headUsed_snoc]
  have h := I.st
  rw [eg, List.map_append, e] at h
  obtain ⟨_, h2⟩ := List.append_inj' h rfl
  rw [← (List.cons.inj h2).1]
  rfl
theorem MInv.push {c : Clm} {l' : Ln} (I : MInv room most over hd bs l) (eb : l'.book = pushHead c l.book) (e1 : l'.most = l.most) (e2 : l'.room = l.room) (e3 : l'.over = l.over) (e4 : l'.pile = l.pile ++ [c.tick])
    (hl : ∀ n ∈ l.pile, n < c.tick) (ht : ∀ n ∈ tksA (hd ++ bs), n < c.tick) (hl2 : c.tick ≤ l'.last) (hu : usedA (lastA (hd ++ bs)) + c.size ≤ room) (hc1 : c.kind.2.length ≤ 4) (hc3 : c.mark = "open") : MInv room most over (modS (· ++ [c]) hd bs).1 (modS (· ++ [c]) hd bs).2 l' := by
  obtain ⟨X, x, e, ex, _⟩ := I.snoc
  obtain ⟨cs, h⟩ := x
  have em : modL (· ++ [c]) (hd ++ bs) = X ++ [(cs ++ [c], h)] := by rw [e, modL_snoc]
  have et : tksA (X ++ [(cs ++ [c], h)]) = tksA (hd ++ bs) ++ [c.tick] := by
    rw [e, tksA_app, tksA_app, List.append_assoc]
    unfold tksA
    simp
  have hmem : ∀ y ∈ X, y ∈ hd ++ bs := fun y hy => by rw [e]; exact List.mem_append_left _ hy
  have hlast : (cs, h) ∈ hd ++ bs := by rw [e]; exact List.mem_append_right _ List.mem_cons_self
  have es := modS_app (· ++ [c]) hd bs
  rw [em] at es
  refine ⟨?_, modS_hd I.hdk, modS_unh I.bsu, ?_, e1.trans I.emost, e2.trans I.eroom, e3.trans I.eover, by rw [modS_len]; exact I.free, ?_, ?_, ?_, ?_, ?_, ?_⟩
  · rw [es, eb]
    exact pushA (by rw [I.st, e])
  · rw [es]
    simp
  · rw [es]
    intro y hy
    rcases List.mem_append.mp hy with q | q
    · exact I.pgs y (hmem y q)
    · rw [List.mem_singleton.mp q]
      refine ⟨?_, fun d hd => ?_⟩
      · show ((cs ++ [c]).map Clm.size).sum ≤ room
        rw [sum_snoc]
        rw [ex] at hu
        exact hu
      · rcases List.mem_append.mp hd with q | q
        · exact (I.pgs _ hlast).2 d q
        · rw [List.mem_singleton.mp q]; exact hc1
  · rw [es, e4]
    intro n hn
    rcases List.mem_append.mp hn with q | q
    · obtain ⟨y, hy, d, hd, h1, h2⟩ := I.opn n q
      rw [e] at hy
      rcases List.mem_append.mp hy with z | z
      · exact ⟨y, List.mem_append_left _ z, d, hd, h1, h2⟩
      · rw [List.mem_singleton.mp z] at hd
        exact ⟨_, List.mem_append_right _ List.mem_cons_self, d, List.mem_append_left _ hd, h1, h2⟩
    · rw [List.mem_singleton.mp q]
      exact ⟨_, List.mem_append_right _ List.mem_cons_self, c, List.mem_append_right _ List.mem_cons_self, rfl, hc3⟩
  · rw [e4, List.pairwise_append]
    refine ⟨I.inc, List.pairwise_singleton _ _, fun a ha b hb => ?_⟩
    rw [List.mem_singleton.mp hb]
    exact hl a ha
  · rw [e4]
    intro n hn
    rcases List.mem_append.mp hn with q | q
    · have := hl n q
      omega
    · rw [List.mem_singleton.mp q]
      exact hl2
  · rw [es, et, List.pairwise_append]
    refine ⟨I.tks, List.pairwise_singleton _ _, fun a ha b hb => ?_⟩
    rw [List.mem_singleton.mp hb]
    exact ht a ha
  · rw [es, et]
    intro n hn
    rcases List.mem_append.mp hn with q | q
    · have := ht n q
      omega
    · rw [List.mem_singleton.mp q]
      exact hl2
theorem MInv.claim1 (I : MInv room most over hd bs l) (t : Int) : MInv room most over hd bs (claim1 t l) :=
  ⟨I.st, I.hdk, I.bsu, I.ne, I.emost, I.eroom, I.eover, I.free, I.pgs, I.opn, I.inc, fun n h => by have := I.top n h; show n ≤ l.last + 1; omega, I.tks, fun n h => by have := I.tkl n h; show n ≤ l.last + 1; omega⟩
theorem MInv.full (I : MInv room most over hd bs l) : Ls.full k l = decide (room < usedA (lastA (hd ++ bs)) + kSize k) := by
  obtain ⟨X, x, e, ex, eu⟩ := I.snoc
  unfold Ls.full
  rw [eu, ex, I.eroom]
theorem MInv.missedQ (I : MInv room most over hd bs l) (hm : 2 ≤ most) : Ls.missedQ k t l = (decide (room < usedA (lastA (hd ++ bs)) + kSize k) && blk most over bs) := by
  unfold Ls.missedQ
  rw [I.full, (I.claim1 t).blocked hm]
theorem MInv.missed (I : MInv room most over hd bs l) (t : Int) : MInv room most over hd bs { Ls.claim1 t l with missed := l.missed + 1 } :=
  have J := I.claim1 t
  ⟨J.st, J.hdk, J.bsu, J.ne, J.emost, J.eroom, J.eover, J.free, J.pgs, J.opn, J.inc, J.top, J.tks, J.tkl⟩
theorem claim2_f (k : Kd) (t : Int) (l : Ln) : (claim2 k t l).last = l.last + 1 ∧ (claim2 k t l).pile = l.pile ++ [l.last + 1] ∧ (claim2 k t l).latest = some t ∧ (claim2 k t l).coming = l.coming ∧ (claim2 k t l).given = l.given ∧ (claim2 k t l).back = l.back ∧ (claim2 k t l).missed = l.missed := by
  obtain ⟨c1, c2, c3⟩ := claim0_last (k := k) (t := t) (l := l)
  refine ⟨c1, rfl, c3, ?_⟩
  show (claim0 k t l).coming = l.coming ∧ (claim0 k t l).given = l.given ∧ (claim0 k t l).back = l.back ∧ (claim0 k t l).missed = l.missed
  obtain ⟨_, _, _, _, _, _, g1, g2, g3, g4⟩ := turn0_f (Ls.claim1 t l)
  unfold claim0
  split
  · exact ⟨g1, g2, g3, g4⟩
  · exact ⟨rfl, rfl, rfl, rfl⟩
theorem MInv.claim (I : MInv room most over hd bs l) (hm : 2 ≤ most) (hr : 5 ≤ room) (hk : k.2.length ≤ 4) (t : Int) (hq : (decide (room < usedA (lastA (hd ++ bs)) + kSize k) && blk most over bs) = false) :
    MInv room most over (claimS room most (newClm k t l) hd bs).1 (claimS room most (newClm k t l) hd bs).2 (claim2 k t l) ∧
    (claim2 k t l).gone = l.gone + (if room < usedA (lastA (hd ++ bs)) + kSize k ∧ most ≤ (bs.length : Nat) then (evA (bs.headD ([], false)) : Int) else 0) := by
  have I1 := I.claim1 t
  obtain ⟨c1, c2, c3, _⟩ := claim2_f k t l
  have htk : ∀ n ∈ l.pile, n < l.last + 1 := fun n h => by have := I.top n h; omega
  have htt : ∀ n ∈ tksA (hd ++ bs), n < l.last + 1 := fun n h => by have := I.tkl n h; omega
  have hsz : (newClm k t l).size = kSize k := rfl
  unfold claimS
  rw [hsz]
  by_cases hf : room < usedA (lastA (hd ++ bs)) + kSize k
  · rw [decide_eq_true hf, Bool.true_and] at hq
    rw [if_pos hf]
    have I2 := I1.turn1 hm (by omega) hq
    have ef : Ls.full k l = true := by rw [I.full, decide_eq_true hf]
    have e0 : claim0 k t l = Ls.turn1 (Ls.claim1 t l) := by unfold claim0; rw [if_pos ef]
    have hne : turnS most bs ++ [(([] : List Clm), false)] ≠ [] := by simp
    have em : modS (· ++ [newClm k t l]) hd (turnS most bs ++ [([], false)]) = (hd, turnS most bs ++ [([newClm k t l], false)]) := by
      unfold modS
      rw [if_neg hne, modL_snoc]
      rfl
    have ks : kSize k ≤ 5 := by unfold kSize; omega
    have et : tksA (hd ++ (turnS most bs ++ [([], false)])) = tksA (hd ++ turnS most bs) := by
      rw [← List.append_assoc, tksA_app _ [([], false)]]
      exact List.append_nil _
    have J := I2.push (c := newClm k t l) (l' := claim2 k t l) (by show pushHead _ (claim0 k t l).book = _; rw [e0]) (by show (claim0 k t l).most = _; rw [e0]) (by show (claim0 k t l).room = _; rw [e0]) (by show (claim0 k t l).over = _; rw [e0]) (by rw [c2]; show l.pile ++ _ = (Ls.turn0 (Ls.claim1 t l)).pile ++ _; rw [(turn0_f _).2.2.2.1]; rfl)
      (by show ∀ n ∈ (Ls.turn0 (Ls.claim1 t l)).pile, _; rw [(turn0_f _).2.2.2.1]; exact htk) (by rw [et]; exact fun n hn => htt n ((tksA_sub ((List.Sublist.refl hd).append (turnS_sub most bs))).subset hn)) (by rw [c1]; exact Int.le_refl _) (by rw [lastA_app hne, lastA_snoc, hsz]; show 0 + kSize k ≤ room; omega) hk rfl
    rw [em] at J
    refine ⟨J, ?_⟩
    show (claim0 k t l).gone = _
    rw [e0]
    show (Ls.turn0 (Ls.claim1 t l)).gone = _
    rw [(I1.turn0 hm).2]
    show l.gone + _ = _
    by_cases h2 : most ≤ (bs.length : Nat)
    · rw [if_pos h2, if_pos ⟨hf, h2⟩]
    · rw [if_neg h2, if_neg fun z => h2 z.2]
  · rw [if_neg hf, if_neg fun z => hf z.1, Int.add_zero]
    have ef : Ls.full k l = false := by rw [I.full, decide_eq_false hf]
    have e0 : claim0 k t l = Ls.claim1 t l := by unfold claim0; rw [if_neg (by rw [ef]; exact Bool.false_ne_true)]
    refine ⟨I1.push (c := newClm k t l) (l' := claim2 k t l) (by show pushHead _ (claim0 k t l).book = _; rw [e0]) (by show (claim0 k t l).most = _; rw [e0]) (by show (claim0 k t l).room = _; rw [e0]) (by show (claim0 k t l).over = _; rw [e0]) rfl htk htt (by rw [c1]; exact Int.le_refl _) (by rw [hsz]; omega) hk rfl, ?_⟩
    show (claim0 k t l).gone = _
    rw [e0]
    rfl
end
end Ls
-- own part: m2
namespace Ls
open PySem PySem.Spec PyProof.Rows L2
section
variable {room most : Int} {over : Bool} {hd bs : List Pa} {l : Ln} {k : Kd} {t n : Int} {m : Str} {f : List Clm → List Clm} {x : Pa} {b c : List Pa}
theorem markC_f (c : Clm) : (markC n m c).tick = c.tick ∧ (markC n m c).time = c.time ∧ (markC n m c).kind = c.kind ∧ (markC n m c).vals = c.vals ∧ (markC n m c).size = c.size := by
  unfold markC
  split <;> exact ⟨rfl, rfl, rfl, rfl, rfl⟩
theorem markC_id {cs : List Clm} (h : ∀ u ∈ cs.map Clm.tick, u ≠ n) : cs.map (markC n m) = cs := by
  rw [List.map_congr_left (g := id), List.map_id]
  intro c hc
  unfold markC
  exact if_neg (h _ (List.mem_map_of_mem hc))
theorem markA_id {b : List Pa} (h : ∀ u ∈ tksA b, u ≠ n) : b.map (markA n m) = b := by
  rw [List.map_congr_left (g := id), List.map_id]
  intro x hx
  show (x.1.map (markC n m), x.2) = x
  rw [markC_id fun u hu => h u (List.mem_flatMap.mpr ⟨x, hx, hu⟩)]
theorem markA_tks (b : List Pa) : tksA (b.map (markA n m)) = tksA b := by
  unfold tksA
  rw [List.flatMap_map]
  congr 1
  funext x
  show (x.1.map (markC n m)).map Clm.tick = _
  rw [List.map_map]
  congr 1
  funext c
  exact markC_f c |>.1
theorem markA_used (x : Pa) : usedA (markA n m x) = usedA x := by
  unfold usedA markA
  rw [List.map_map]
  congr 2
  funext c
  exact (markC_f c).2.2.2.2
theorem setMark_map {b : List Pg} {i j : Nat} (nd : (tksA (b.map Pg.a)).Pairwise (· < ·)) (h : (i, j) ∈ spotsB n b) : (setMark i j m b).map Pg.a = (b.map Pg.a).map (markA n m) := by
  obtain ⟨g, c, hg, hc, hn⟩ := spots_at h
  unfold setMark
  rw [hg]
  dsimp only
  rw [hc]
  dsimp only
  obtain ⟨b1, b2, eb, l1⟩ := split_at hg
  obtain ⟨c1, c2, ec, l2⟩ := split_at hc
  subst l1 l2
  subst eb
  rw [set_at]
  rw [List.map_append, List.map_cons, tksA_app] at nd
  have e2 : tksA (g.a :: b2.map Pg.a) = (c1.map Clm.tick ++ c.tick :: c2.map Clm.tick) ++ tksA (b2.map Pg.a) := by
    show g.clms.map Clm.tick ++ _ = _
    rw [ec, List.map_append, List.map_cons]
    rfl
  rw [e2, List.append_assoc, List.pairwise_append, List.pairwise_append, List.cons_append, List.pairwise_cons] at nd
  obtain ⟨p1, ⟨p2, ⟨p3, p4⟩, p5⟩, p6⟩ := nd
  rw [hn] at p3 p5 p6
  have q1 : ∀ u ∈ tksA (b1.map Pg.a), u ≠ n := fun u hu => by
    have := p6 u hu n (List.mem_append_right _ List.mem_cons_self)
    omega
  have q2 : ∀ u ∈ c1.map Clm.tick, u ≠ n := fun u hu => by
    have := p5 u hu n List.mem_cons_self
    omega
  have q3 : ∀ u ∈ c2.map Clm.tick, u ≠ n := fun u hu => by
    have := p3 u (List.mem_append_left _ hu)
    omega
  have q4 : ∀ u ∈ tksA (b2.map Pg.a), u ≠ n := fun u hu => by
    have := p3 u (List.mem_append_right _ hu)
    omega
  rw [List.map_append, List.map_cons, List.map_append, List.map_cons, List.map_append, List.map_cons, markA_id q1, markA_id q4]
  congr 2
  show (g.clms.set c1.length { c with mark := m }, g.held) = (g.clms.map (markC n m), g.held)
  rw [ec, set_at, List.map_append, List.map_cons, markC_id q2, markC_id q3]
  congr 3
  unfold markC
  rw [if_pos hn]
theorem markA_mem {n0 : Int} (hne : n0 ≠ n) {b : List Pa} (h : ∃ x ∈ b, ∃ c ∈ x.1, c.tick = n0 ∧ c.mark = "open") : ∃ x ∈ b.map (markA n m), ∃ c ∈ x.1, c.tick = n0 ∧ c.mark = "open" := by
  obtain ⟨x, hx, c, hc, h1, h2⟩ := h
  refine ⟨_, List.mem_map_of_mem hx, _, List.mem_map_of_mem hc, (markC_f c).1.trans h1, ?_⟩
  unfold markC
  rw [if_neg (by rw [h1]; exact hne)]
  exact h2
theorem pile_pair (h : l.pile = l.pile.dropLast ++ [n]) (I : MInv room most over hd bs l) : l.pile.dropLast.Pairwise (· < ·) ∧ ∀ m ∈ l.pile.dropLast, m < n := by
  have h1 := I.inc
  rw [h, List.pairwise_append] at h1
  exact ⟨h1.1, fun m hm => h1.2.2 m hm n List.mem_cons_self⟩
theorem MInv.close {i j : Nat} {r : List (Nat × Nat)} (I : MInv room most over hd bs l) (h : l.pile = l.pile.dropLast ++ [n]) (hs : spotsB n l.book = (i, j) :: r) (m : Str) : MInv room most over (hd.map (markA n m)) (bs.map (markA n m)) (closeL i j m l) := by
  obtain ⟨p1, p2⟩ := pile_pair h I
  have tk := I.tks
  rw [← I.st] at tk
  have e := setMark_map (m := m) tk (i := i) (j := j) (by rw [hs]; exact List.mem_cons_self)
  rw [I.st, List.map_append] at e
  refine ⟨e, ?_, fun x hx => ?_, ?_, I.emost, I.eroom, I.eover, by rw [List.length_map]; exact I.free, ?_, ?_, p1, ?_, ?_, ?_⟩
  · rcases I.hdk with rfl | ⟨cs, rfl⟩
    · exact .inl rfl
    · exact .inr ⟨_, rfl⟩
  · obtain ⟨y, hy, rfl⟩ := List.mem_map.mp hx
    exact I.bsu y hy
  · rw [← List.map_append]
    exact fun z => I.ne (List.map_eq_nil_iff.mp z)
  · rw [← List.map_append]
    intro x hx
    obtain ⟨y, hy, rfl⟩ := List.mem_map.mp hx
    obtain ⟨k1, k2⟩ := I.pgs y hy
    refine ⟨by rw [markA_used]; exact k1, fun c hc => ?_⟩
    obtain ⟨d, hd, rfl⟩ := List.mem_map.mp hc
    rw [(markC_f d).2.2.1]
    exact k2 d hd
  · rw [← List.map_append]
    intro q hq
    have := p2 q hq
    exact markA_mem (by omega) (I.opn q (by rw [h]; exact List.mem_append_left _ hq))
  · intro q hq
    exact I.top q (by rw [h]; exact List.mem_append_left _ hq)
  · rw [← List.map_append, markA_tks]
    exact I.tks
  · rw [← List.map_append, markA_tks]
    exact I.tkl
theorem popC_sub (n : Int) (cs : List Clm) : (popC n cs).Sublist cs := by
  unfold popC
  split
  · split
    · exact List.dropLast_sublist _
    · exact List.Sublist.refl _
  · exact List.Sublist.refl _
theorem popC_mem {cs : List Clm} {c : Clm} (hc : c ∈ cs) (hne : c.tick ≠ n) : c ∈ popC n cs := by
  unfold popC
  split
  · rename_i d hd
    split
    · rename_i e
      have hn : cs ≠ [] := fun z => by rw [z] at hc; cases hc
      have e1 := (List.dropLast_concat_getLast hn).symm
      rw [List.getLast?_eq_some_getLast hn] at hd
      rw [Option.some.inj hd] at e1
      rw [e1] at hc
      rcases List.mem_append.mp hc with q | q
      · exact q
      · rw [List.mem_singleton.mp q] at hne
        exact (hne e).elim
    · exact hc
  · exact hc
theorem size_pos (c : Clm) : 0 ≤ c.size := by unfold Clm.size; omega
theorem used_sub {cs ds : List Clm} (h : cs.Sublist ds) : (cs.map Clm.size).sum ≤ (ds.map Clm.size).sum := by
  induction h with
  | slnil => exact Int.le_refl _
  | cons x _ ih =>
    rw [List.map_cons, List.sum_cons]
    have := size_pos x
    omega
  | cons_cons x _ ih =>
    rw [List.map_cons, List.map_cons, List.sum_cons, List.sum_cons]
    omega
theorem popHead_a {b : List Pg} : (popHead n b).map Pg.a = modL (popC n) (b.map Pg.a) := by
  by_cases hb : 1 ≤ b.length
  · obtain ⟨bs, g, rfl⟩ := snoc_ex hb
    unfold popHead
    rw [List.length_append, List.length_singleton, Nat.add_sub_cancel, List.getElem?_concat_length, List.map_append, List.map_singleton, modL_snoc]
    dsimp only
    have same : (bs ++ [g]).map Pg.a = bs.map Pg.a ++ [(g.a.1, g.a.2)] := by rw [List.map_append]; rfl
    show _ = bs.map Pg.a ++ [(popC n g.clms, g.held)]
    unfold popC
    rw [List.getLast?_eq_getElem?]
    cases hc : g.clms[g.clms.length - 1]? with
    | none => exact same
    | some c =>
      dsimp only
      by_cases e : c.tick = n
      · rw [if_pos e, if_pos e, set_snoc, List.map_append]
        rfl
      · rw [if_neg e, if_neg e]
        exact same
  · cases b with
    | nil => rfl
    | cons g b => rw [List.length_cons] at hb; omega
theorem tksA_modL : (tksA (modL (popC n) b)).Sublist (tksA b) := by
  by_cases h : b = []
  · rw [h]; exact List.Sublist.refl _
  · obtain ⟨d, x, rfl⟩ : ∃ d x, b = d ++ [x] := ⟨b.dropLast, b.getLast h, (List.dropLast_concat_getLast h).symm⟩
    rw [modL_snoc, tksA_app, tksA_app]
    refine (List.Sublist.refl _).append ?_
    show ((popC n x.1).map Clm.tick ++ []).Sublist (x.1.map Clm.tick ++ [])
    rw [List.append_nil, List.append_nil]
    exact (popC_sub n x.1).map _
theorem MInv.pop (I : MInv room most over hd bs l) (hn : n ∉ l.pile) : MInv room most over (modS (popC n) hd bs).1 (modS (popC n) hd bs).2 { l with book := popHead n l.book } := by
  obtain ⟨X, x, e, ex, _⟩ := I.snoc
  have es := modS_app (popC n) hd bs
  have em : modL (popC n) (hd ++ bs) = X ++ [(popC n x.1, x.2)] := by rw [e, modL_snoc]
  have hx : x ∈ hd ++ bs := by rw [e]; exact List.mem_append_right _ List.mem_cons_self
  refine ⟨?_, modS_hd I.hdk, modS_unh I.bsu, ?_, I.emost, I.eroom, I.eover, by rw [modS_len]; exact I.free, ?_, ?_, I.inc, I.top, ?_, ?_⟩
  · rw [es, ← I.st]
    exact popHead_a
  · rw [es, em]
    simp
  · rw [es, em]
    intro y hy
    rcases List.mem_append.mp hy with q | q
    · exact I.pgs y (by rw [e]; exact List.mem_append_left _ q)
    · obtain ⟨k1, k2⟩ := I.pgs x hx
      rw [List.mem_singleton.mp q]
      refine ⟨Int.le_trans (used_sub (popC_sub n x.1)) k1, fun c hc => k2 c ((popC_sub n x.1).subset hc)⟩
  · rw [es, em]
    intro q hq
    obtain ⟨y, hy, d, hd, h1, h2⟩ := I.opn q hq
    rw [e] at hy
    rcases List.mem_append.mp hy with z | z
    · exact ⟨y, List.mem_append_left _ z, d, hd, h1, h2⟩
    · rw [List.mem_singleton.mp z] at hd
      refine ⟨_, List.mem_append_right _ List.mem_cons_self, d, popC_mem hd ?_, h1, h2⟩
      intro z
      exact hn (by rw [← z, h1]; exact hq)
  · rw [es]
    exact I.tks.sublist tksA_modL
  · rw [es]
    exact fun u hu => I.tkl u (tksA_modL.subset hu)
theorem MInv.give {i j : Nat} {r : List (Nat × Nat)} (I : MInv room most over hd bs l) (h : l.pile = l.pile.dropLast ++ [n]) (hs : spotsB n l.book = (i, j) :: r) : MInv room most over (hd.map (markA n "given")) (bs.map (markA n "given")) (giveL i j l) := by
  have J := I.close h hs "given"
  exact ⟨J.st, J.hdk, J.bsu, J.ne, J.emost, J.eroom, J.eover, J.free, J.pgs, J.opn, J.inc, J.top, J.tks, J.tkl⟩
theorem MInv.throw {i j : Nat} {r : List (Nat × Nat)} (I : MInv room most over hd bs l) (h : l.pile = l.pile.dropLast ++ [n]) (hs : spotsB n l.book = (i, j) :: r) : MInv room most over (modS (popC n) (hd.map (markA n "thrown")) (bs.map (markA n "thrown"))).1 (modS (popC n) (hd.map (markA n "thrown")) (bs.map (markA n "thrown"))).2 (throwL i j n l) := by
  have J := I.close h hs "thrown"
  obtain ⟨p1, p2⟩ := pile_pair h I
  have hn : n ∉ (closeL i j "thrown" l).pile := fun z => by
    have := p2 n z
    omega
  have J := J.pop hn
  exact ⟨J.st, J.hdk, J.bsu, J.ne, J.emost, J.eroom, J.eover, J.free, J.pgs, J.opn, J.inc, J.top, J.tks, J.tkl⟩
theorem MInv.spots (I : MInv room most over hd bs l) (h : n ∈ l.pile) : ∃ i j r, spotsB n l.book = (i, j) :: r := by
  obtain ⟨x, hx, c, hc, h1, _⟩ := I.opn n h
  rw [← I.st] at hx
  obtain ⟨g, hg, rfl⟩ := List.mem_map.mp hx
  obtain ⟨i, hi⟩ := List.getElem?_of_mem hg
  obtain ⟨j, hj⟩ := List.getElem?_of_mem (show c ∈ g.clms from hc)
  have : (i, j) ∈ spotsB n l.book := by
    unfold spotsB spotsP
    refine List.mem_flatMap.mpr ⟨(g, i), List.mem_zipIdx_iff_getElem?.mpr hi, List.mem_flatMap.mpr ⟨(c, j), List.mem_zipIdx_iff_getElem?.mpr hj, ?_⟩⟩
    dsimp only
    rw [if_pos h1]
    exact List.mem_cons_self
  cases q : spotsB n l.book with
  | nil => rw [q] at this; cases this
  | cons z r => exact ⟨z.1, z.2, r, rfl⟩
theorem MInv.len (I : MInv room most over hd bs l) : (l.book.length : Int) ≤ most + 1 ∧ 1 ≤ l.book.length := by
  have h1 := congrArg List.length I.st
  rw [List.length_map, List.length_append] at h1
  have h2 := I.free
  have h3 : hd.length ≤ 1 := by
    rcases I.hdk with rfl | ⟨cs, rfl⟩
    · exact Nat.zero_le _
    · exact Nat.le_refl _
  have h4 : 0 < (hd ++ bs).length := List.length_pos_iff.mpr I.ne
  rw [List.length_append] at h4
  omega
theorem used_len {cs : List Clm} : (cs.length : Int) ≤ (cs.map Clm.size).sum := by
  induction cs with
  | nil => exact Int.le_refl _
  | cons c cs ih =>
    rw [List.map_cons, List.sum_cons, List.length_cons]
    unfold Clm.size at ih ⊢
    omega
theorem MInv.fine (I : MInv room most over hd bs l) (hr : room ≤ 12) (hm : 2 ≤ most) (hm6 : most ≤ 16) : l.fine := by
  have := I.len
  refine ⟨by rw [I.emost]; exact hm, by omega, fun g hg => ?_⟩
  obtain ⟨hu, hc⟩ := I.pgs g.a (by rw [← I.st]; exact List.mem_map_of_mem hg)
  refine ⟨?_, hc⟩
  have h1 : (g.clms.map Clm.size).sum ≤ room := hu
  have h2 := used_len (cs := g.clms)
  omega
theorem MInv.start (hm : 2 ≤ most) (hr : 0 ≤ room) : MInv room most over [] [([], false)] (newLn most room over) where
  st := rfl
  hdk := .inl rfl
  bsu := fun x h => by rw [List.mem_singleton.mp h]
  ne := by simp
  emost := rfl
  eroom := rfl
  eover := rfl
  free := by show ((1 : Nat) : Int) ≤ most; omega
  pgs := fun x h => by
    rw [List.mem_singleton.mp h]
    exact ⟨hr, fun c h => by cases h⟩
  opn := fun n h => by cases h
  inc := .nil
  top := fun n h => by cases h
  tks := .nil
  tkl := fun n h => by cases h
theorem leaveI_g (l : Ln) : ∀ i, (leaveI i l).given = l.given ∧ (leaveI i l).back = l.back ∧ (leaveI i l).gone = l.gone ∧ (leaveI i l).missed = l.missed ∧ (leaveI i l).coming = l.coming
  | 0 => ⟨rfl, rfl, rfl, rfl, rfl⟩
  | i + 1 => by
    have := leaveI_g l i
    exact this
theorem MInv.take (I : MInv room most over hd bs l) : ∃ hd' bs', MInv room most over hd' bs' (takeL l).2 ∧ (hd' = hd ∧ bs' = bs ∨ ∃ i y, (hd ++ bs)[i]? = some y ∧ hd' = [(y.1, true)] ∧ bs' = (hd ++ bs).drop (i + 1)) ∧
    (takeL l).2.pile = l.pile ∧ (takeL l).2.last = l.last ∧ (takeL l).2.latest = l.latest ∧ (takeL l).2.given = l.given ∧ (takeL l).2.back = l.back ∧ (takeL l).2.gone = l.gone ∧ (takeL l).2.missed = l.missed := by
  unfold takeL
  cases e : dueL l with
  | nil => exact ⟨hd, bs, I, .inl ⟨rfl, rfl⟩, rfl, rfl, rfl, rfl, rfl, rfl, rfl⟩
  | cons z r =>
    obtain ⟨p, i, c⟩ := z
    dsimp only
    by_cases hl : 0 < p - l.coming
    · rw [if_pos hl]
      exact ⟨hd, bs, ⟨I.st, I.hdk, I.bsu, I.ne, I.emost, I.eroom, I.eover, I.free, I.pgs, I.opn, I.inc, I.top, I.tks, I.tkl⟩, .inl ⟨rfl, rfl⟩, rfl, rfl, rfl, rfl, rfl, rfl, rfl⟩
    · rw [if_neg hl]
      dsimp only
      have hi := dueL_at e
      have hz : (p, i, c) ∈ seenB 0 0 l.book := (List.mem_filter.mp (show (p, i, c) ∈ dueL l by rw [e]; exact List.mem_cons_self)).1
      have hno := fun j g hg hj => seenB_no hz j g hg (show 0 + j < i by omega)
      generalize hl1 : ({ l with coming := p + 1 } : Ln) = l1
      have hb : l1.book = l.book := by rw [← hl1]
      obtain ⟨f1, f2, f3, f4, f5, f6⟩ := leaveI_f (l := l1) i
      obtain ⟨f7, f8, f9, f10, _⟩ := leaveI_g l1 i
      have g1 : l1.most = l.most ∧ l1.room = l.room ∧ l1.over = l.over ∧ l1.pile = l.pile ∧ l1.last = l.last ∧ l1.latest = l.latest ∧ l1.given = l.given ∧ l1.back = l.back ∧ l1.gone = l.gone ∧ l1.missed = l.missed := by rw [← hl1]; exact ⟨rfl, rfl, rfl, rfl, rfl, rfl, rfl, rfl, rfl, rfl⟩
      obtain ⟨g1, g2, g3, g4, g5, g6, g7, g8, g9, g10⟩ := g1
      have ea := leaveI_a (l := l1) (i := i) (by rw [hb]; exact hi)
      rw [hb, I.st] at ea
      have hlen : i < (hd ++ bs).length := by rw [← I.st, List.length_map]; exact hi
      obtain ⟨y, hy⟩ : ∃ y, (hd ++ bs)[i]? = some y := ⟨_, List.getElem?_eq_getElem hlen⟩
      have ed : (hd ++ bs).drop i = y :: (hd ++ bs).drop (i + 1) := by
        rw [List.drop_eq_getElem_cons hlen, (List.getElem?_eq_some_iff.mp hy).2]
      rw [ed] at ea
      have eh : (heldL (leaveI i l1)).book.map Pg.a = [(y.1, true)] ++ (hd ++ bs).drop (i + 1) := by
        show (heldB (leaveI i l1).book).map Pg.a = _
        cases q : (leaveI i l1).book with
        | nil => rw [q] at ea; cases ea
        | cons g gs =>
          rw [q] at ea
          obtain ⟨e1, e2⟩ := List.cons.inj ea
          show (g.clms, true) :: gs.map Pg.a = _
          rw [e2, ← e1]
          rfl
      have hym : y ∈ hd ++ bs := List.mem_of_getElem? hy
      have hsub : ∀ x ∈ (hd ++ bs).drop (i + 1), x ∈ bs := by
        intro x hx
        rcases I.hdk with h | ⟨cs, h⟩
        · rw [h, List.nil_append] at hx
          exact List.mem_of_mem_drop hx
        · rw [h] at hx
          exact List.mem_of_mem_drop (show x ∈ bs.drop i from hx)
      have et : tksA ([(y.1, true)] ++ (hd ++ bs).drop (i + 1)) = tksA ((hd ++ bs).drop i) := by rw [ed]; rfl
      have esub : (tksA ((hd ++ bs).drop i)).Sublist (tksA (hd ++ bs)) := tksA_sub (List.drop_sublist _ _)
      refine ⟨_, _, ⟨eh, .inr ⟨_, rfl⟩, fun x hx => I.bsu x (hsub x hx), by simp, f1.trans (g1.trans I.emost), f2.trans (g2.trans I.eroom), f3.trans (g3.trans I.eover), ?_, ?_, ?_, ?_, ?_, ?_, ?_⟩, .inr ⟨i, y, hy, rfl, rfl⟩, f4.trans g4, f5.trans g5, f6.trans g6, f7.trans g7, f8.trans g8, f9.trans g9, f10.trans g10⟩
      · have h1 := I.free
        have h2 : ((hd ++ bs).drop (i + 1)).length ≤ bs.length := by
          rw [List.length_drop, List.length_append]
          rcases I.hdk with h | ⟨cs, h⟩
          · rw [h, List.length_nil]; omega
          · rw [h, List.length_singleton]; omega
        omega
      · intro x hx
        rcases List.mem_append.mp hx with q | q
        · rw [List.mem_singleton.mp q]
          exact I.pgs y hym
        · exact I.pgs x (List.mem_append_right _ (hsub x q))
      · rw [show (heldL (leaveI i l1)).pile = l.pile from f4.trans g4]
        intro n hn
        obtain ⟨x, hx, d, hd', h1, h2⟩ := I.opn n hn
        obtain ⟨j, hj⟩ := List.getElem?_of_mem hx
        rw [← I.st, List.getElem?_map] at hj
        obtain ⟨g, hg, rfl⟩ := Option.map_eq_some_iff.mp hj
        by_cases hji : j < i
        · exact (hno j g hg (by omega) d hd' h2).elim
        · have hm : g.a ∈ (hd ++ bs).drop i := by
            refine List.mem_of_getElem? (i := j - i) ?_
            rw [List.getElem?_drop, Nat.add_sub_cancel' (by omega), ← I.st, List.getElem?_map, hg]
            rfl
          rw [ed] at hm
          rcases List.mem_cons.mp hm with q | q
          · exact ⟨_, List.mem_append_left _ List.mem_cons_self, d, by rw [← q]; exact hd', h1, h2⟩
          · exact ⟨_, List.mem_append_right _ q, d, hd', h1, h2⟩
      · rw [show (heldL (leaveI i l1)).pile = l.pile from f4.trans g4]
        exact I.inc
      · rw [show (heldL (leaveI i l1)).pile = l.pile from f4.trans g4, show (heldL (leaveI i l1)).last = l.last from f5.trans g5]
        exact I.top
      · rw [et]
        exact I.tks.sublist esub
      · rw [et, show (heldL (leaveI i l1)).last = l.last from f5.trans g5]
        exact fun u hu => I.tkl u (esub.subset hu)
end
end Ls
-- own part: m7
namespace Ls
open PySem PySem.Spec PyProof.Rows L2
/-! ### a lane and the law's model of it, told by segments -/
structure Sg where
  g : List MC
  p : Int
  P : List MC
  h : Bool
def nfC (c : MC) : Bool := decide (c.2.mark ≠ ("freed" : Str))
def gvn (cs : List MC) : Nat := (cs.filter fun c => c.2.giv).length
def Sg.pg (s : Sg) : Pg := ⟨gvn s.g, (s.P.filter nfC).map (·.2), s.h⟩
def Sg.cs (s : Sg) : List MC := s.g ++ s.P
def allS (sg : List Sg) : List MC := sg.flatMap Sg.cs
def heldS (sg : List Sg) : Int := match sg with
  | s :: _ => if s.h then s.p else -1
  | [] => -1
structure SgOk (sg : List Sg) (pages : Int) : Prop where
  ne : sg ≠ []
  pgP : ∀ s ∈ sg, ∀ c ∈ s.P, c.1 = s.p
  pgG : ∀ s ∈ sg, ∀ c ∈ s.g, c.1 ∉ sg.map Sg.p ∧ c.2.mark ≠ ("open" : Str)
  inc : (sg.map Sg.p).Pairwise (· < ·)
  pos : ∀ p ∈ sg.map Sg.p, 0 ≤ p ∧ p < pages
  lt : ∀ c ∈ allS sg, c.1 < pages
  tl : ∀ s ∈ sg.tail, s.h = false
  tks : ((allS sg).map fun c => c.2.tick).Pairwise (· < ·)
  vals : ∀ c ∈ allS sg, c.2.vals.length = c.2.kind.2.length ∧ c.2.kind.2.length ≤ 4 ∧ IsNm c.2.kind.1
structure Bis (room most : Int) (over : Bool) (sg : List Sg) (l : Ln) (m : MM) : Prop where
  inv : ∃ hd bs, MInv room most over hd bs l
  ok : SgOk sg m.pages
  book : l.book = sg.map Sg.pg
  all : m.all = allS sg
  row : m.row = sg.map Sg.p
  held : m.held = heldS sg
  most : m.most = l.most
  room : m.room = l.room
  over : m.over = l.over
  pile : m.pile = l.pile
  given : m.given = l.given
  back : m.back = l.back
  gone : m.gone = l.gone
  missed : m.missed = l.missed
  told : m.told = l.coming
  tix : m.tickets = l.last
  time : m.time = l.latest
  tkl : ∀ c ∈ m.all, c.2.tick ≤ l.last
  opn : (m.all.filter fun c => c.2.opn).map (fun c => c.2.tick) = m.pile
  cnt : (m.all.length : Int) ≤ m.tickets
section
variable {room most : Int} {over : Bool} {sg : List Sg} {l : Ln} {m : MM} {k : Kd} {t n pages : Int} {s : Sg}
theorem inc_inj {xs : List Int} {n : Int} {i j : Nat} (h : xs.Pairwise (· < ·)) (h1 : xs[i]? = some n) (h2 : xs[j]? = some n) : i = j := by
  obtain ⟨a1, a2⟩ := List.getElem?_eq_some_iff.mp h1
  obtain ⟨b1, b2⟩ := List.getElem?_eq_some_iff.mp h2
  have hp := List.pairwise_iff_getElem.mp h
  rcases Nat.lt_trichotomy i j with q | q | q
  · have := hp i j a1 b1 q
    omega
  · exact q
  · have := hp j i b1 a1 q
    omega
theorem allS_app (a b : List Sg) : allS (a ++ b) = allS a ++ allS b := List.flatMap_append
theorem allS_cons (s : Sg) (a : List Sg) : allS (s :: a) = s.g ++ s.P ++ allS a := List.flatMap_cons
theorem giv_nf {c : MC} (h : c.2.giv = true) : nfC c = true := by
  unfold nfC
  have : c.2.mark = "given" := of_decide_eq_true h
  rw [this]
  rfl
theorem gvn_app (a b : List MC) : gvn (a ++ b) = gvn a + gvn b := by unfold gvn; rw [List.filter_append, List.length_append]
theorem Sg.events (s : Sg) : s.pg.events = gvn s.P := by
  show (((s.P.filter nfC).map (·.2)).filter Clm.giv).length = _
  rw [List.filter_map, List.length_map, List.filter_filter]
  unfold gvn
  congr 1
  refine List.filter_congr fun c _ => ?_
  show (c.2.giv && nfC c) = c.2.giv
  cases e : c.2.giv with
  | true => rw [giv_nf e]; rfl
  | false => rfl
theorem Sg.waits (s : Sg) : s.pg.waits = s.P.any fun c => c.2.opn := by
  show ((s.P.filter nfC).map (·.2)).any Clm.opn = _
  rw [List.any_map, List.any_filter]
  congr 1
  funext c
  show (nfC c && c.2.opn) = c.2.opn
  cases e : c.2.opn with
  | false => rw [Bool.and_false]
  | true =>
    have : c.2.mark = "open" := of_decide_eq_true e
    unfold nfC
    rw [this]
    rfl
/-- what stands of a page in the row -/
theorem SgOk.page (O : SgOk sg pages) (hs : s ∈ sg) (f : MC → Bool) : (allS sg).filter (fun c => decide (c.1 = s.p) && f c) = s.P.filter f := by
  obtain ⟨a, b, rfl⟩ := List.append_of_mem hs
  have hin := O.inc
  rw [List.map_append, List.map_cons, List.pairwise_append] at hin
  obtain ⟨_, h2, h3⟩ := hin
  have h4 := (List.pairwise_cons.mp h2).1
  have hG : ∀ u ∈ a ++ s :: b, u.g.filter (fun c => decide (c.1 = s.p) && f c) = [] := by
    intro u hu
    refine List.filter_eq_nil_iff.mpr fun c hc => ?_
    have := (O.pgG u hu c hc).1
    have ne : c.1 ≠ s.p := fun e => this (by rw [e]; exact List.mem_map_of_mem hs)
    rw [decide_eq_false ne]
    exact Bool.false_ne_true
  have hP : ∀ u ∈ a ++ s :: b, u.p ≠ s.p → u.P.filter (fun c => decide (c.1 = s.p) && f c) = [] := by
    intro u hu ne
    refine List.filter_eq_nil_iff.mpr fun c hc => ?_
    rw [decide_eq_false (by rw [O.pgP u hu c hc]; exact ne)]
    exact Bool.false_ne_true
  have hz : ∀ d : List Sg, (∀ u ∈ d, u ∈ a ++ s :: b ∧ u.p ≠ s.p) → (allS d).filter (fun c => decide (c.1 = s.p) && f c) = [] := by
    intro d
    induction d with
    | nil => intro _; rfl
    | cons u d ih =>
      intro h
      rw [allS_cons, List.filter_append, List.filter_append, hG u (h u List.mem_cons_self).1, hP u (h u List.mem_cons_self).1 (h u List.mem_cons_self).2, ih fun w hw => h w (List.mem_cons_of_mem _ hw)]
      rfl
  rw [allS_app, allS_cons, List.filter_append, List.filter_append, List.filter_append, hG s hs, List.nil_append, hz a fun u hu => ⟨List.mem_append_left _ hu, ?_⟩, hz b fun u hu => ⟨List.mem_append_right _ (List.mem_cons_of_mem _ hu), ?_⟩, List.nil_append, List.append_nil]
  · refine List.filter_congr fun c hc => ?_
    rw [decide_eq_true (O.pgP s hs c hc), Bool.true_and]
  · have := h4 u.p (List.mem_map_of_mem hu)
    omega
  · have := h3 u.p (List.mem_map_of_mem hu) s.p List.mem_cons_self
    omega
theorem Bis.used (B : Bis room most over sg l m) (hs : s ∈ sg) : usedM s.p m = s.pg.used := by
  unfold usedM
  have e := B.ok.page hs (fun c => decide (c.2.mark ≠ ("freed" : Str)))
  rw [B.all]
  have e2 : (fun c : MC => decide (c.1 = s.p) && decide (c.2.mark ≠ ("freed" : Str))) = hereC s.p := rfl
  rw [e2] at e
  rw [e]
  show _ = (((s.P.filter nfC).map (·.2)).map Clm.size).sum
  rw [List.map_map]
  congr 1
  refine List.map_congr_left fun c hc => ?_
  have hm : c ∈ allS sg := List.mem_flatMap.mpr ⟨s, hs, List.mem_append_right _ (List.mem_filter.mp hc).1⟩
  show _ = 1 + (c.2.kind.2.length : Int)
  rw [(B.ok.vals c hm).1]
theorem Bis.wait (B : Bis room most over sg l m) (hs : s ∈ sg) : waitM s.p m = s.pg.waits := by
  unfold waitM
  rw [s.waits, B.all]
  have e := B.ok.page hs (fun c => c.2.opn)
  rw [Bool.eq_iff_iff, List.any_eq_true, List.any_eq_true]
  constructor
  · rintro ⟨c, hc, h⟩
    rw [Bool.and_eq_true] at h
    have : c ∈ s.P.filter fun c => c.2.opn := by
      rw [← e]
      exact List.mem_filter.mpr ⟨hc, by rw [Bool.and_eq_true]; exact h⟩
    exact ⟨c, (List.mem_filter.mp this).1, (List.mem_filter.mp this).2⟩
  · rintro ⟨c, hc, h⟩
    have : c ∈ (allS sg).filter fun c => decide (c.1 = s.p) && c.2.opn := by
      rw [e]
      exact List.mem_filter.mpr ⟨hc, h⟩
    exact ⟨c, (List.mem_filter.mp this).1, (List.mem_filter.mp this).2⟩
theorem Bis.ev (B : Bis room most over sg l m) (hs : s ∈ sg) : evM s.p m = s.pg.events := by
  unfold evM
  rw [s.events, B.all]
  have e := B.ok.page hs (fun c => c.2.giv)
  have e2 : (fun c : MC => decide (c.1 = s.p) && decide (c.2.mark = ("given" : Str))) = fun c => decide (c.1 = s.p) && c.2.giv := rfl
  rw [e2, e]
  rfl
/-! a page leaves -/
def mergeAt : Nat → List Sg → List Sg
  | 0, s :: u :: r => { u with g := s.g ++ s.P ++ u.g } :: r
  | i + 1, s :: r => s :: mergeAt i r
  | _, r => r
theorem mergeAt_pg : ∀ {i : Nat} {sg : List Sg}, i + 1 < sg.length → (mergeAt i sg).map Sg.pg = leaveB i (sg.map Sg.pg)
  | 0, s :: u :: r, _ => by
    unfold leaveB mergeAt
    show Sg.pg _ :: _ = _
    simp only [List.map_cons, List.getElem?_cons_zero, List.eraseIdx_cons_zero, List.set_cons_zero]
    congr 1
    rw [Sg.events]
    show Pg.mk (gvn (s.g ++ s.P ++ u.g)) _ _ = Pg.mk (gvn u.g + (gvn s.g + gvn s.P)) _ _
    rw [gvn_app, gvn_app]
    congr 1
    rw [Int.natCast_add, Int.natCast_add]
    omega
  | i + 1, s :: r, h => by
    have ih := mergeAt_pg (i := i) (sg := r) (by rw [List.length_cons] at h; omega)
    have h2 : i + 1 < (r.map Sg.pg).length := by rw [List.length_map]; rw [List.length_cons] at h; omega
    show s.pg :: (mergeAt i r).map Sg.pg = _
    rw [ih]
    unfold leaveB
    simp only [List.map_cons, List.getElem?_cons_succ, List.eraseIdx_cons_succ]
    have h3 : i < ((r.map Sg.pg).eraseIdx i).length := by rw [List.length_eraseIdx_of_lt (by omega)]; omega
    rw [List.getElem?_eq_getElem (show i < (r.map Sg.pg).length by omega), List.getElem?_eq_getElem h3]
    rfl
  | 0, [], h => by cases h
  | 0, [_], h => by simp at h
  | _ + 1, [], h => by cases h
theorem mergeAt_all : ∀ {i : Nat} {sg : List Sg}, i + 1 < sg.length → allS (mergeAt i sg) = allS sg
  | 0, s :: u :: r, _ => by
    show allS ({ u with g := s.g ++ s.P ++ u.g } :: r) = _
    rw [allS_cons, allS_cons, allS_cons]
    simp only [List.append_assoc]
  | i + 1, s :: r, h => by
    show allS (s :: mergeAt i r) = _
    rw [allS_cons, allS_cons, mergeAt_all (by rw [List.length_cons] at h; omega)]
  | 0, [], h => by cases h
  | 0, [_], h => by simp at h
  | _ + 1, [], h => by cases h
theorem mergeAt_row : ∀ {i : Nat} {sg : List Sg}, i + 1 < sg.length → (mergeAt i sg).map Sg.p = (sg.map Sg.p).eraseIdx i
  | 0, s :: u :: r, _ => rfl
  | i + 1, s :: r, h => by
    show s.p :: (mergeAt i r).map Sg.p = s.p :: (r.map Sg.p).eraseIdx i
    rw [mergeAt_row (by rw [List.length_cons] at h; omega)]
  | 0, [], h => by cases h
  | 0, [_], h => by simp at h
  | _ + 1, [], h => by cases h
/-- a segment behind the merging: one as it was, or the one with what left put ahead of it -/
theorem mergeAt_mem : ∀ {i : Nat} {sg : List Sg} {u : Sg}, i + 1 < sg.length → u ∈ mergeAt i sg → u ∈ sg ∨ ∃ s w, sg[i]? = some s ∧ w ∈ sg ∧ u = { w with g := s.g ++ s.P ++ w.g }
  | 0, s :: w :: r, u, _, h => by
    rcases List.mem_cons.mp h with h | h
    · exact .inr ⟨s, w, rfl, List.mem_cons_of_mem _ List.mem_cons_self, h⟩
    · exact .inl (List.mem_cons_of_mem _ (List.mem_cons_of_mem _ h))
  | i + 1, s :: r, u, hl, h => by
    rcases List.mem_cons.mp h with h | h
    · exact .inl (h ▸ List.mem_cons_self)
    · rcases mergeAt_mem (by rw [List.length_cons] at hl; omega) h with q | ⟨x, w, h1, h2, h3⟩
      · exact .inl (List.mem_cons_of_mem _ q)
      · exact .inr ⟨x, w, h1, List.mem_cons_of_mem _ h2, h3⟩
  | 0, [], _, h, _ => by cases h
  | 0, [_], _, h, _ => by simp at h
  | _ + 1, [], _, h, _ => by cases h
theorem mergeAt_tl : ∀ {i : Nat} {sg : List Sg} {u : Sg}, i + 1 < sg.length → u ∈ (mergeAt i sg).tail → ∃ w ∈ sg.tail, u.h = w.h
  | 0, s :: w :: r, u, _, h => ⟨u, List.mem_cons_of_mem _ h, rfl⟩
  | i + 1, s :: r, u, hl, h => by
    rcases mergeAt_mem (by rw [List.length_cons] at hl; omega) (show u ∈ mergeAt i r from h) with q | ⟨x, w, h1, h2, h3⟩
    · exact ⟨u, q, rfl⟩
    · exact ⟨w, h2, by rw [h3]⟩
  | 0, [], _, h, _ => by cases h
  | 0, [_], _, h, _ => by simp at h
  | _ + 1, [], _, h, _ => by cases h
theorem mergeAt_len : ∀ {i : Nat} {sg : List Sg}, i + 1 < sg.length → (mergeAt i sg).length + 1 = sg.length := fun {i sg} h => by
  have := congrArg List.length (mergeAt_row h)
  rw [List.length_map, List.length_eraseIdx_of_lt (by rw [List.length_map]; omega), List.length_map] at this
  omega
theorem SgOk.merge {i : Nat} (O : SgOk sg pages) (h : i + 1 < sg.length) (hs : sg[i]? = some s) (ho : ∀ c ∈ s.P, c.2.mark ≠ ("open" : Str)) : SgOk (mergeAt i sg) pages := by
  have hsm : s ∈ sg := List.mem_of_getElem? hs
  have hsub : ((mergeAt i sg).map Sg.p).Sublist (sg.map Sg.p) := by rw [mergeAt_row h]; exact List.eraseIdx_sublist _ _
  have hnp : s.p ∉ (mergeAt i sg).map Sg.p := by
    rw [mergeAt_row h]
    intro hm
    obtain ⟨j, hj⟩ := List.getElem?_of_mem hm
    have hs2 : (sg.map Sg.p)[i]? = some s.p := by rw [List.getElem?_map, hs]; rfl
    rw [List.getElem?_eraseIdx] at hj
    have key : ∀ a : Nat, (sg.map Sg.p)[a]? = some s.p → a = i := fun a ha => inc_inj O.inc ha hs2
    split at hj
    · have := key _ hj
      omega
    · have := key _ hj
      omega
  refine ⟨fun e => ?_, fun u hu c hc => ?_, fun u hu c hc => ?_, O.inc.sublist hsub, fun p hp => O.pos p (hsub.subset hp), by rw [mergeAt_all h]; exact O.lt, fun u hu => ?_, by rw [mergeAt_all h]; exact O.tks, by rw [mergeAt_all h]; exact O.vals⟩
  · have := mergeAt_len h
    rw [e, List.length_nil] at this
    omega
  · rcases mergeAt_mem h hu with q | ⟨x, w, h1, h2, h3⟩
    · exact O.pgP u q c hc
    · subst h3
      exact O.pgP w h2 c hc
  · rcases mergeAt_mem h hu with q | ⟨x, w, h1, h2, h3⟩
    · exact ⟨fun hm => (O.pgG u q c hc).1 (hsub.subset hm), (O.pgG u q c hc).2⟩
    · subst h3
      cases hs.symm.trans h1
      rcases List.mem_append.mp hc with hc | hc
      · rcases List.mem_append.mp hc with hc | hc
        · exact ⟨fun hm => (O.pgG s hsm c hc).1 (hsub.subset hm), (O.pgG s hsm c hc).2⟩
        · exact ⟨fun hm => hnp (by rw [← O.pgP s hsm c hc]; exact hm), ho c hc⟩
      · exact ⟨fun hm => (O.pgG w h2 c hc).1 (hsub.subset hm), (O.pgG w h2 c hc).2⟩
  · obtain ⟨w, hw, e⟩ := mergeAt_tl h hu
    rw [e]
    exact O.tl w hw
/-! a new head -/
theorem SgOk.grow (O : SgOk sg pages) (hp : 0 ≤ pages) : SgOk (sg ++ [⟨[], pages, [], false⟩]) (pages + 1) := by
  have e : (sg ++ [(⟨[], pages, [], false⟩ : Sg)]).map Sg.p = sg.map Sg.p ++ [pages] := by rw [List.map_append]; rfl
  have ea : allS (sg ++ [(⟨[], pages, [], false⟩ : Sg)]) = allS sg := by rw [allS_app]; exact List.append_nil _
  refine ⟨by simp, fun u hu c hc => ?_, fun u hu c hc => ?_, ?_, fun p hm => ?_, by rw [ea]; exact fun c hc => by have := O.lt c hc; omega, fun u hu => ?_, by rw [ea]; exact O.tks, by rw [ea]; exact O.vals⟩
  · rcases List.mem_append.mp hu with q | q
    · exact O.pgP u q c hc
    · rw [List.mem_singleton.mp q] at hc
      cases hc
  · rcases List.mem_append.mp hu with q | q
    · refine ⟨fun hm => ?_, (O.pgG u q c hc).2⟩
      rw [e] at hm
      rcases List.mem_append.mp hm with hm | hm
      · exact (O.pgG u q c hc).1 hm
      · have h1 := O.lt c (List.mem_flatMap.mpr ⟨u, q, List.mem_append_left _ hc⟩)
        have h2 := List.mem_singleton.mp hm
        omega
    · rw [List.mem_singleton.mp q] at hc
      cases hc
  · rw [e, List.pairwise_append]
    exact ⟨O.inc, List.pairwise_singleton _ _, fun a ha b hb => by rw [List.mem_singleton.mp hb]; exact (O.pos a ha).2⟩
  · rw [e] at hm
    rcases List.mem_append.mp hm with hm | hm
    · have := O.pos p hm
      omega
    · rw [List.mem_singleton.mp hm]
      omega
  · cases sg with
    | nil => exact absurd rfl O.ne
    | cons s r =>
      rcases List.mem_append.mp (show u ∈ r ++ _ from hu) with q | q
      · exact O.tl u q
      · rw [List.mem_singleton.mp q]
end
end Ls
-- own part: m8
namespace Ls
open PySem PySem.Spec PyProof.Rows L2
section
variable {room most : Int} {over : Bool} {sg : List Sg} {l : Ln} {m : MM} {k : Kd} {t n pages : Int} {s : Sg}
theorem SgOk.heldI (O : SgOk sg pages) (hs : s ∈ sg) : decide (s.p ≠ heldS sg) = !s.h := by
  cases sg with
  | nil => cases hs
  | cons u r =>
    have hp := (O.pos s.p (List.mem_map_of_mem hs)).1
    have hin := O.inc
    rw [List.map_cons] at hin
    have h1 := (List.pairwise_cons.mp hin).1
    show decide (s.p ≠ if u.h = true then u.p else -1) = !s.h
    rcases List.mem_cons.mp hs with e | e
    · subst e
      cases q : s.h with
      | true => rw [if_pos rfl]; simp
      | false =>
        rw [if_neg Bool.false_ne_true]
        exact decide_eq_true (by omega)
    · have h2 := h1 s.p (List.mem_map_of_mem e)
      rw [O.tl s e]
      cases q : u.h with
      | true => rw [if_pos rfl]; exact decide_eq_true (by omega)
      | false => rw [if_neg Bool.false_ne_true]; exact decide_eq_true (by omega)
theorem Bis.free (B : Bis room most over sg l m) : freeM m = (sg.filter fun s => !s.h).map Sg.p := by
  unfold freeM
  rw [B.row, B.held, List.filter_map]
  congr 1
  refine List.filter_congr fun s hs => ?_
  exact B.ok.heldI hs
/-- the segments by the pages: the held one, the free ones -/
theorem Bis.parts (B : Bis room most over sg l m) {hd bs : List Pa} (I : MInv room most over hd bs l) : ∃ hs fs, sg = hs ++ fs ∧ hs.map (fun s => s.pg.a) = hd ∧ fs.map (fun s => s.pg.a) = bs ∧ (∀ s ∈ hs, s.h = true) ∧ (∀ s ∈ fs, s.h = false) ∧ freeM m = fs.map Sg.p := by
  have e : sg.map (fun s => s.pg.a) = hd ++ bs := by
    rw [← I.st, B.book, List.map_map]
    rfl
  obtain ⟨hs, fs, e1, e2, e3⟩ := List.map_eq_append_iff.mp e
  have h1 : ∀ s ∈ hs, s.h = true := fun s h => by
    have : s.pg.a ∈ hd := by rw [← e2]; exact List.mem_map_of_mem (f := fun s => s.pg.a) h
    rcases I.hdk with q | ⟨cs, q⟩
    · rw [q] at this; cases this
    · rw [q] at this
      have := congrArg Prod.snd (List.mem_singleton.mp this)
      exact this
  have h2 : ∀ s ∈ fs, s.h = false := fun s h => by
    have : s.pg.a ∈ bs := by rw [← e3]; exact List.mem_map_of_mem (f := fun s => s.pg.a) h
    exact I.bsu _ this
  refine ⟨hs, fs, e1, e2, e3, h1, h2, ?_⟩
  rw [B.free, e1, List.filter_append]
  have f1 : hs.filter (fun s => !s.h) = [] := List.filter_eq_nil_iff.mpr fun s h => by rw [h1 s h]; exact Bool.false_ne_true
  have f2 : fs.filter (fun s => !s.h) = fs := List.filter_eq_self.mpr fun s h => by rw [h2 s h]; rfl
  rw [f1, f2, List.nil_append]
theorem Bis.blocked (B : Bis room most over sg l m) (hm : 2 ≤ most) : blockedM m = Ls.blocked l := by
  obtain ⟨hd, bs, I⟩ := B.inv
  rw [I.blocked hm]
  obtain ⟨hs, fs, e1, e2, e3, h1, h2, hf⟩ := B.parts I
  unfold blockedM blk
  rw [hf, ← e3, List.length_map, List.length_map, B.most, I.emost, B.over, I.eover]
  by_cases h : most ≤ (fs.length : Nat)
  · cases fs with
    | nil => rw [List.length_nil] at h; omega
    | cons f r =>
      have ew : waitM f.p m = waitA f.pg.a := B.wait (by rw [e1]; exact List.mem_append_right _ List.mem_cons_self)
      show _ = (_ && (!over || waitA f.pg.a))
      rw [← ew]
      rfl
  · rw [decide_eq_false h]
    rfl
theorem erase_at {n : Int} {xs : List Int} {i : Nat} (nd : xs.Pairwise (· < ·)) (h : xs[i]? = some n) : xs.erase n = xs.eraseIdx i := by
  obtain ⟨j, h1, _, h3⟩ := first_of (List.mem_of_getElem? h)
  have : i = j := inc_inj nd h h1
  subst this
  exact h3.symm
theorem heldS_app {a b : List Sg} (h : a ≠ []) : heldS (a ++ b) = heldS a := by
  cases a with
  | nil => exact absurd rfl h
  | cons s r => rfl
theorem heldS_merge {i : Nat} (h : i + 1 < sg.length) (h0 : ∀ s ∈ sg.tail, s.h = false) (hi : ∀ s, sg[i]? = some s → s.h = false) : heldS (mergeAt i sg) = heldS sg := by
  match i, sg, h with
  | 0, s :: u :: r, _ =>
    show (if u.h = true then u.p else -1) = if s.h = true then s.p else -1
    rw [h0 u List.mem_cons_self, hi s rfl]
    rfl
  | i + 1, s :: r, _ => rfl
theorem Bis.begin (B : Bis room most over sg l m) (t : Int) : Bis room most over sg (claim1 t l) (begM t m) := by
  obtain ⟨hd, bs, I⟩ := B.inv
  exact { B with inv := ⟨hd, bs, I.claim1 t⟩, tix := by show m.tickets + 1 = l.last + 1; rw [B.tix], time := rfl, tkl := fun c hc => by have := B.tkl c hc; show _ ≤ l.last + 1; omega, cnt := by have := B.cnt; show (m.all.length : Int) ≤ m.tickets + 1; omega }
theorem Bis.turn (B : Bis room most over sg l m) (hm : 2 ≤ most) (hr : 0 ≤ room) (hb : Ls.blocked l = false) : ∃ X, Bis room most over (X ++ [⟨[], m.pages, [], false⟩]) (turn1 l) (turnsM m).2 := by
  obtain ⟨hd, bs, I⟩ := B.inv
  have hbm := B.blocked hm
  rw [hb] at hbm
  have hb2 := hb
  rw [I.blocked hm] at hb2
  have J := I.turn1 hm hr hb2
  have e0 : (turnsM m).2 = { turn0M m with row := (turn0M m).row ++ [(turn0M m).pages], pages := (turn0M m).pages + 1 } := by unfold turnsM; rw [hbm]; rfl
  have hp0 : 0 ≤ m.pages := by
    cases sg with
    | nil => exact absurd rfl B.ok.ne
    | cons s r => have := B.ok.pos s.p List.mem_cons_self; omega
  obtain ⟨hs, fs, e1, e2, e3, h1, h2, hf⟩ := B.parts I
  rw [e0]
  by_cases h : most ≤ (fs.length : Nat)
  · match fs, h with
    | f :: f2 :: r, h =>
    have hlen : hs.length + 1 < sg.length := by rw [e1, List.length_append, List.length_cons, List.length_cons]; omega
    have hsi : sg[hs.length]? = some f := by rw [e1, List.getElem?_append_right (Nat.le_refl _), Nat.sub_self]; rfl
    have hfm : f ∈ sg := List.mem_of_getElem? hsi
    have hbl : (bs.length : Int) = ((f :: f2 :: r).length : Nat) := by rw [← e3, List.length_map]
    have ew : waitA f.pg.a = false := by
      have := (blk_no hb2 (by rw [hbl]; exact h)).2
      rw [← e3] at this
      exact this
    have eno : ∀ c ∈ f.P, c.2.mark ≠ ("open" : Str) := fun c hc e => by
      have h3 : f.pg.waits = false := ew
      rw [f.waits, List.any_eq_false] at h3
      exact h3 c hc (decide_eq_true e)
    have O := (B.ok.merge hlen hsi eno).grow hp0
    have hhd : hs.length = hd.length := by rw [← e2, List.length_map]
    have ei : (freeN l.book).headD 0 = hs.length := by rw [I.freeN, range_hd _ (by rw [← e3, List.length_map, List.length_cons]; omega), hhd]
    have hle : l.most ≤ ((freeN l.book).length : Nat) := by rw [I.freeN, List.length_range', I.emost, hbl]; exact h
    have et0 : turn0 l = leaveL hs.length true l := by unfold turn0; rw [if_pos hle, ei]
    have hlm : m.most ≤ ((freeM m).length : Nat) := by rw [hf, List.length_map, B.most, I.emost]; exact h
    have ehd : (freeM m).headD 0 = f.p := by rw [hf]; rfl
    have et0M : turn0M m = { m with row := m.row.erase f.p, gone := m.gone + evM f.p m } := by unfold turn0M; rw [if_pos hlm, ehd]
    have erow : m.row.erase f.p = (mergeAt hs.length sg).map Sg.p := by
      rw [mergeAt_row hlen, B.row]
      exact erase_at B.ok.inc (by rw [List.getElem?_map, hsi]; rfl)
    have eall : allS (mergeAt hs.length sg ++ [(⟨[], m.pages, [], false⟩ : Sg)]) = allS sg := by rw [allS_app, mergeAt_all hlen]; exact List.append_nil _
    have ebk : (turn1 l).book = (mergeAt hs.length sg ++ [(⟨[], m.pages, [], false⟩ : Sg)]).map Sg.pg := by
      show (turn0 l).book ++ [newPg] = _
      rw [et0, List.map_append, mergeAt_pg hlen, ← B.book]
      rfl
    have emany : manyB hs.length l.book = (evM f.p m : Int) := by
      unfold manyB
      rw [B.book, List.getElem?_map, hsi, B.ev hfm]
      rfl
    obtain ⟨t1, t2, t3, t4, t5, t6, t7, t8, t9, t10⟩ := turn0_f l
    refine ⟨mergeAt hs.length sg, ⟨⟨_, _, J⟩, ?_, ebk, ?_, ?_, ?_, ?_, ?_, ?_, ?_, ?_, ?_, ?_, ?_, ?_, ?_, ?_, ?_, ?_, ?_⟩⟩
    · rw [et0M]; exact O
    · rw [et0M, eall]; exact B.all
    · rw [et0M, List.map_append]
      show m.row.erase f.p ++ [m.pages] = _
      rw [erow]
      rfl
    · rw [et0M, heldS_app (fun e => by have := mergeAt_len hlen; rw [e] at this; simp at this; omega)]
      show m.held = _
      rw [B.held, heldS_merge hlen B.ok.tl fun s hs' => by rw [hsi] at hs'; cases hs'; exact h2 _ List.mem_cons_self]
    · rw [et0M]; show m.most = (turn0 l).most; rw [t1]; exact B.most
    · rw [et0M]; show m.room = (turn0 l).room; rw [t2]; exact B.room
    · rw [et0M]; show m.over = (turn0 l).over; rw [t3]; exact B.over
    · rw [et0M]; show m.pile = (turn0 l).pile; rw [t4]; exact B.pile
    · rw [et0M]; show m.given = (turn0 l).given; rw [t8]; exact B.given
    · rw [et0M]; show m.back = (turn0 l).back; rw [t9]; exact B.back
    · rw [et0M]
      show m.gone + _ = (turn0 l).gone
      rw [et0]
      show _ = l.gone + manyB hs.length l.book
      rw [emany, B.gone]
    · rw [et0M]; show m.missed = (turn0 l).missed; rw [t10]; exact B.missed
    · rw [et0M]; show m.told = (turn0 l).coming; rw [t7]; exact B.told
    · rw [et0M]; show m.tickets = (turn0 l).last; rw [t5]; exact B.tix
    · rw [et0M]; show m.time = (turn0 l).latest; rw [t6]; exact B.time
    · rw [et0M]; show ∀ c ∈ m.all, _ ≤ (turn0 l).last; rw [t5]; exact B.tkl
    · rw [et0M]; exact B.opn
    · rw [et0M]; exact B.cnt
    | [_], h => simp at h; omega
    | [], h => simp at h; omega
  · have O := B.ok.grow hp0
    have hbl : (bs.length : Int) = (fs.length : Nat) := by rw [← e3, List.length_map]
    have et0 : turn0 l = l := by unfold turn0; exact if_neg (by rw [I.freeN, List.length_range', I.emost, hbl]; exact h)
    have et0M : turn0M m = m := by unfold turn0M; exact if_neg (by rw [hf, List.length_map, B.most, I.emost]; exact h)
    rw [et0M]
    have eb : (turn1 l) = { l with book := l.book ++ [newPg] } := by unfold turn1; rw [et0]
    rw [eb] at J ⊢
    refine ⟨sg, ⟨⟨_, _, J⟩, O, ?_, ?_, ?_, ?_, B.most, B.room, B.over, B.pile, B.given, B.back, B.gone, B.missed, B.told, B.tix, B.time, B.tkl, B.opn, B.cnt⟩⟩
    · show l.book ++ _ = _
      rw [List.map_append, B.book]
      rfl
    · show m.all = _
      rw [allS_app, B.all]
      exact (List.append_nil _).symm
    · show m.row ++ _ = _
      rw [List.map_append, B.row]
      rfl
    · show m.held = _
      rw [heldS_app B.ok.ne, B.held]
/-! a claim onto the head -/
theorem allS_push (X : List Sg) (x : Sg) (c : MC) : allS (X ++ [{ x with P := x.P ++ [c] }]) = allS (X ++ [x]) ++ [c] := by
  rw [allS_app, allS_app, allS_cons, allS_cons]
  show allS X ++ (x.g ++ (x.P ++ [c]) ++ []) = (allS X ++ (x.g ++ x.P ++ [])) ++ [c]
  simp only [List.append_nil, List.append_assoc]
theorem SgOk.push {X : List Sg} {x : Sg} {c : Clm} (O : SgOk (X ++ [x]) pages) (ht : ∀ d ∈ allS (X ++ [x]), d.2.tick < c.tick) (hv : c.vals.length = c.kind.2.length ∧ c.kind.2.length ≤ 4 ∧ IsNm c.kind.1) : SgOk (X ++ [{ x with P := x.P ++ [(x.p, c)] }]) pages := by
  have er : (X ++ [{ x with P := x.P ++ [(x.p, c)] }]).map Sg.p = (X ++ [x]).map Sg.p := by rw [List.map_append, List.map_append]; rfl
  have hx : x.p ∈ (X ++ [x]).map Sg.p := List.mem_map_of_mem (List.mem_append_right _ List.mem_cons_self)
  refine ⟨by simp, fun u hu d hd => ?_, fun u hu d hd => ?_, by rw [er]; exact O.inc, by rw [er]; exact O.pos, ?_, fun u hu => ?_, ?_, ?_⟩
  · rcases List.mem_append.mp hu with q | q
    · exact O.pgP u (List.mem_append_left _ q) d hd
    · rw [List.mem_singleton.mp q] at hd ⊢
      rcases List.mem_append.mp hd with w | w
      · exact O.pgP x (List.mem_append_right _ List.mem_cons_self) d w
      · rw [List.mem_singleton.mp w]
  · rw [er]
    rcases List.mem_append.mp hu with q | q
    · exact O.pgG u (List.mem_append_left _ q) d hd
    · rw [List.mem_singleton.mp q] at hd
      exact O.pgG x (List.mem_append_right _ List.mem_cons_self) d hd
  · rw [allS_push]
    intro d hd
    rcases List.mem_append.mp hd with q | q
    · exact O.lt d q
    · rw [List.mem_singleton.mp q]
      exact (O.pos x.p hx).2
  · cases X with
    | nil => cases hu
    | cons s r =>
      rcases List.mem_append.mp (show u ∈ r ++ _ from hu) with q | q
      · exact O.tl u (List.mem_append_left _ q)
      · rw [List.mem_singleton.mp q]
        exact O.tl x (List.mem_append_right _ List.mem_cons_self)
  · rw [allS_push, List.map_append, List.pairwise_append]
    refine ⟨O.tks, List.pairwise_singleton _ _, fun a ha b hb => ?_⟩
    obtain ⟨d, hd, rfl⟩ := List.mem_map.mp ha
    rw [List.mem_singleton.mp hb]
    exact ht d hd
  · rw [allS_push]
    intro d hd
    rcases List.mem_append.mp hd with q | q
    · exact O.vals d q
    · rw [List.mem_singleton.mp q]
      exact hv
theorem Bis.last (B : Bis room most over sg l m) : ∃ X x, sg = X ++ [x] ∧ lastR m = x.p ∧ headUsed l.book = x.pg.used := by
  obtain ⟨X, x, e⟩ : ∃ X x, sg = X ++ [x] := ⟨_, _, (List.dropLast_concat_getLast B.ok.ne).symm⟩
  refine ⟨X, x, e, ?_, ?_⟩
  · unfold lastR
    rw [B.row, e, List.map_append, List.map_cons, List.map_nil, List.getLastD_concat]
  · rw [B.book, e, List.map_append, List.map_cons, List.map_nil, headUsed_snoc]
theorem Bis.full (B : Bis room most over sg l m) (k : Kd) : fullM k m = Ls.full k l := by
  obtain ⟨X, x, e, e1, e2⟩ := B.last
  unfold fullM Ls.full
  rw [e1, e2, B.used (s := x) (by rw [e]; exact List.mem_append_right _ List.mem_cons_self), B.room]
  show decide (l.room < x.pg.used + 1 + k.2.length) = decide (l.room < x.pg.used + (1 + k.2.length))
  rw [Int.add_assoc]
theorem heldS_last (X : List Sg) (x y : Sg) (h1 : y.p = x.p) (h2 : y.h = x.h) : heldS (X ++ [y]) = heldS (X ++ [x]) := by
  cases X with
  | nil =>
    show (if y.h = true then y.p else -1) = if x.h = true then x.p else -1
    rw [h1, h2]
  | cons s r => rfl
theorem Bis.push {l' : Ln} {hd bs : List Pa} {X : List Sg} {x : Sg} (B : Bis room most over (X ++ [x]) l m) (k : Kd) (t : Int) (J : MInv room most over hd bs l') (e : l' = { l with book := pushHead ⟨l.last, t, k, lows k, "open"⟩ l.book, pile := l.pile ++ [l.last] })
    (ht : ∀ c ∈ m.all, c.2.tick < l.last) (hc : (m.all.length : Int) + 1 ≤ m.tickets) (hk : GoodK k) : Bis room most over (X ++ [{ x with P := x.P ++ [(x.p, ⟨l.last, t, k, lows k, "open"⟩)] }]) l' (pushM k t m) := by
  have O := B.ok.push (c := ⟨l.last, t, k, lows k, "open"⟩) (by rw [← B.all]; exact ht) ⟨by show (k.2.map _).length = _; rw [List.length_map], hk.2.1, hk.1⟩
  have elr : lastR m = x.p := by
    unfold lastR
    rw [B.row, List.map_append, List.map_cons, List.map_nil, List.getLastD_concat]
  have ea : (pushM k t m).all = m.all ++ [(x.p, ⟨l.last, t, k, lows k, "open"⟩)] := by
    unfold pushM
    rw [elr, B.tix]
  subst e
  refine ⟨⟨_, _, J⟩, O, ?_, ?_, ?_, ?_, B.most, B.room, B.over, ?_, B.given, B.back, B.gone, B.missed, B.told, B.tix, B.time, ?_, ?_, ?_⟩
  · show pushHead _ l.book = _
    rw [B.book, List.map_append, List.map_cons, List.map_nil, pushHead_snoc, List.map_append, List.map_cons, List.map_nil]
    congr 2
    show Pg.mk _ _ _ = Pg.mk _ (((x.P ++ [_]).filter nfC).map _) _
    rw [List.filter_append, List.map_append]
    rfl
  · rw [ea, allS_push, B.all]
  · show m.row = _
    rw [B.row, List.map_append, List.map_append]
    rfl
  · show m.held = _
    rw [B.held]
    cases X <;> rfl
  · show m.pile ++ [m.tickets] = l.pile ++ [l.last]
    rw [B.pile, B.tix]
  · rw [ea]
    intro c h
    rcases List.mem_append.mp h with q | q
    · exact B.tkl c q
    · rw [List.mem_singleton.mp q]
      exact Int.le_refl _
  · rw [ea, List.filter_append, List.map_append, B.opn]
    show _ ++ [l.last] = m.pile ++ [m.tickets]
    rw [B.tix]
  · rw [ea, List.length_append, List.length_singleton]
    show _ ≤ m.tickets
    omega
theorem Bis.claim (B : Bis room most over sg l m) (hm : 2 ≤ most) (hr : 5 ≤ room) (hk : GoodK k) (t : Int) : ∃ sg', Bis room most over sg' (claimL k t l).2 (claimsM k t m).2 ∧ (claimL k t l).1 = (claimsM k t m).1 := by
  have hfu := B.full k
  have B1 := B.begin t
  have hbm := B1.blocked hm
  obtain ⟨hd, bs, I⟩ := B.inv
  unfold claimL claimsM missedQ
  rw [hfu, hbm]
  cases hq : (Ls.full k l && Ls.blocked (claim1 t l)) with
  | true =>
    rw [if_pos rfl, if_pos rfl]
    exact ⟨sg, { B1 with inv := ⟨hd, bs, I.missed t⟩, missed := by show m.missed + 1 = l.missed + 1; rw [B.missed] }, rfl⟩
  | false =>
    rw [if_neg Bool.false_ne_true, if_neg Bool.false_ne_true]
    have hq2 : (decide (room < usedA (lastA (hd ++ bs)) + kSize k) && blk most over bs) = false := by
      rw [← I.missedQ hm (k := k) (t := t)]
      exact hq
    obtain ⟨J, _⟩ := I.claim hm hr hk.2.1 t hq2
    have ht : ∀ c ∈ m.all, c.2.tick < l.last + 1 := fun c hc => by have := B.tkl c hc; omega
    have hc := B.cnt
    cases hf : Ls.full k l with
    | false =>
      have e0 : claim0 k t l = Ls.claim1 t l := by unfold claim0; rw [hf]; rfl
      have e3 : turnedM k t m = begM t m := by unfold turnedM; rw [hfu, hf]; rfl
      obtain ⟨X, x, e, _, _⟩ := B.last
      subst e
      rw [e3]
      refine ⟨_, B1.push k t J ?_ ht ?_ hk, ?_⟩
      · show claim2 k t l = _
        unfold claim2
        rw [e0]
        rfl
      · show (m.all.length : Int) + 1 ≤ m.tickets + 1
        omega
      · dsimp only
        rw [B.tix]
    | true =>
      have e0 : claim0 k t l = Ls.turn1 (Ls.claim1 t l) := by unfold claim0; rw [hf]; rfl
      have e3 : turnedM k t m = (turnsM (begM t m)).2 := by unfold turnedM; rw [hfu, hf]; rfl
      rw [hf, Bool.true_and] at hq
      obtain ⟨X, B2⟩ := B1.turn hm (by omega) hq
      obtain ⟨u1, u2, _⟩ := turns_f (begM t m)
      have elast : (turn1 (claim1 t l)).last = l.last + 1 := (turn0_f (claim1 t l)).2.2.2.2.1
      have epile : (turn1 (claim1 t l)).pile = l.pile := (turn0_f (claim1 t l)).2.2.2.1
      rw [e3]
      refine ⟨_, B2.push k t J ?_ ?_ ?_ hk, ?_⟩
      · show claim2 k t l = _
        unfold claim2
        rw [e0]
        show ({ turn1 (claim1 t l) with book := pushHead (newClm k t l) (turn1 (claim1 t l)).book, pile := l.pile ++ [l.last + 1] } : Ln) = { turn1 (claim1 t l) with book := pushHead ⟨(turn1 (claim1 t l)).last, t, k, lows k, "open"⟩ (turn1 (claim1 t l)).book, pile := (turn1 (claim1 t l)).pile ++ [(turn1 (claim1 t l)).last] }
        rw [elast, epile]
        rfl
      · rw [u1, elast]; exact ht
      · rw [u1, u2]
        show (m.all.length : Int) + 1 ≤ m.tickets + 1
        omega
      · dsimp only
        rw [B.tix]
end
end Ls
-- own part: m4
namespace Ls
open PySem PySem.Spec PyProof.Rows L2
/-! ### an open claim's values -/
def setVals (i j : Nat) (us : List Int) (b : List Pg) : List Pg :=
  match b[i]? with
  | some g => match g.clms[j]? with
    | some c => b.set i { g with clms := g.clms.set j { c with vals := us } }
    | none => b
  | none => b
def fillL (i j : Nat) (us : List Int) (l : Ln) : Ln := { l with book := setVals i j us l.book }
def FitsV (k : Kd) (us : List Int) : Prop := us.length = k.2.length ∧ ∀ (i : Nat) (f : Fd) (u : Int), k.2[i]? = some f → us[i]? = some u → f.2.1 ≤ u ∧ u ≤ f.2.2
def valC (n : Int) (us : List Int) (c : Clm) : Clm := if c.tick = n then { c with vals := us } else c
def valA (n : Int) (us : List Int) (x : Pa) : Pa := (x.1.map (valC n us), x.2)
section
variable {room most : Int} {over : Bool} {hd bs : List Pa} {l : Ln} {n : Int} {us : List Int} {i j : Nat} {r : List (Nat × Nat)}
theorem valC_f (c : Clm) : (valC n us c).tick = c.tick ∧ (valC n us c).mark = c.mark ∧ (valC n us c).kind = c.kind ∧ (valC n us c).size = c.size := by
  unfold valC
  split <;> exact ⟨rfl, rfl, rfl, rfl⟩
theorem valC_id {cs : List Clm} (h : ∀ u ∈ cs.map Clm.tick, u ≠ n) : cs.map (valC n us) = cs := by
  rw [List.map_congr_left (g := id), List.map_id]
  intro c hc
  unfold valC
  exact if_neg (h _ (List.mem_map_of_mem hc))
theorem valA_id {b : List Pa} (h : ∀ u ∈ tksA b, u ≠ n) : b.map (valA n us) = b := by
  rw [List.map_congr_left (g := id), List.map_id]
  intro x hx
  show (x.1.map (valC n us), x.2) = x
  rw [valC_id fun u hu => h u (List.mem_flatMap.mpr ⟨x, hx, hu⟩)]
theorem valA_tks (b : List Pa) : tksA (b.map (valA n us)) = tksA b := by
  unfold tksA
  rw [List.flatMap_map]
  congr 1
  funext x
  show (x.1.map (valC n us)).map Clm.tick = _
  rw [List.map_map]
  congr 1
  funext c
  exact valC_f c |>.1
theorem valA_used (x : Pa) : usedA (valA n us x) = usedA x := by
  unfold usedA valA
  rw [List.map_map]
  congr 2
  funext c
  exact (valC_f c).2.2.2
theorem setVals_map {b : List Pg} (nd : (tksA (b.map Pg.a)).Pairwise (· < ·)) (h : (i, j) ∈ spotsB n b) : (setVals i j us b).map Pg.a = (b.map Pg.a).map (valA n us) := by
  obtain ⟨g, c, hg, hc, hn⟩ := spots_at h
  unfold setVals
  rw [hg]
  dsimp only
  rw [hc]
  dsimp only
  obtain ⟨b1, b2, eb, l1⟩ := split_at hg
  obtain ⟨c1, c2, ec, l2⟩ := split_at hc
  subst l1 l2
  subst eb
  rw [set_at]
  rw [List.map_append, List.map_cons, tksA_app] at nd
  have e2 : tksA (g.a :: b2.map Pg.a) = (c1.map Clm.tick ++ c.tick :: c2.map Clm.tick) ++ tksA (b2.map Pg.a) := by
    show g.clms.map Clm.tick ++ _ = _
    rw [ec, List.map_append, List.map_cons]
    rfl
  rw [e2, List.append_assoc, List.pairwise_append, List.pairwise_append, List.cons_append, List.pairwise_cons] at nd
  obtain ⟨p1, ⟨p2, ⟨p3, p4⟩, p5⟩, p6⟩ := nd
  rw [hn] at p3 p5 p6
  have q1 : ∀ u ∈ tksA (b1.map Pg.a), u ≠ n := fun u hu => by
    have := p6 u hu n (List.mem_append_right _ List.mem_cons_self)
    omega
  have q2 : ∀ u ∈ c1.map Clm.tick, u ≠ n := fun u hu => by
    have := p5 u hu n List.mem_cons_self
    omega
  have q3 : ∀ u ∈ c2.map Clm.tick, u ≠ n := fun u hu => by
    have := p3 u (List.mem_append_left _ hu)
    omega
  have q4 : ∀ u ∈ tksA (b2.map Pg.a), u ≠ n := fun u hu => by
    have := p3 u (List.mem_append_right _ hu)
    omega
  rw [List.map_append, List.map_cons, List.map_append, List.map_cons, List.map_append, List.map_cons, valA_id q1, valA_id q4]
  congr 2
  show (g.clms.set c1.length { c with vals := us }, g.held) = (g.clms.map (valC n us), g.held)
  rw [ec, set_at, List.map_append, List.map_cons, valC_id q2, valC_id q3]
  congr 3
  unfold valC
  rw [if_pos hn]
theorem setVals_ah (i j : Nat) (us : List Int) (b : List Pg) : (setVals i j us b).map Pg.ahead = b.map Pg.ahead := by
  unfold setVals
  split
  · rename_i g hg
    split
    · exact map_set_same Pg.ahead hg rfl
    · rfl
  · rfl
theorem setMark_ah (i j : Nat) (m : Str) (b : List Pg) : (setMark i j m b).map Pg.ahead = b.map Pg.ahead := by
  unfold setMark
  split
  · rename_i g hg
    split
    · exact map_set_same Pg.ahead hg rfl
    · rfl
  · rfl
theorem MInv.fill (I : MInv room most over hd bs l) (hs : spotsB n l.book = (i, j) :: r) (us : List Int) : MInv room most over (hd.map (valA n us)) (bs.map (valA n us)) (fillL i j us l) := by
  have tk := I.tks
  rw [← I.st] at tk
  have e := setVals_map (us := us) tk (i := i) (j := j) (by rw [hs]; exact List.mem_cons_self)
  rw [I.st, List.map_append] at e
  refine ⟨e, ?_, fun x hx => ?_, ?_, I.emost, I.eroom, I.eover, by rw [List.length_map]; exact I.free, ?_, ?_, I.inc, I.top, ?_, ?_⟩
  · rcases I.hdk with rfl | ⟨cs, rfl⟩
    · exact .inl rfl
    · exact .inr ⟨_, rfl⟩
  · obtain ⟨y, hy, rfl⟩ := List.mem_map.mp hx
    exact I.bsu y hy
  · rw [← List.map_append]
    exact fun z => I.ne (List.map_eq_nil_iff.mp z)
  · rw [← List.map_append]
    intro x hx
    obtain ⟨y, hy, rfl⟩ := List.mem_map.mp hx
    obtain ⟨k1, k2⟩ := I.pgs y hy
    refine ⟨by rw [valA_used]; exact k1, fun c hc => ?_⟩
    obtain ⟨d, hd, rfl⟩ := List.mem_map.mp hc
    rw [(valC_f d).2.2.1]
    exact k2 d hd
  · rw [← List.map_append]
    intro q hq
    obtain ⟨x, hx, c, hc, h1, h2⟩ := I.opn q hq
    exact ⟨_, List.mem_map_of_mem hx, _, List.mem_map_of_mem hc, (valC_f c).1.trans h1, (valC_f c).2.1.trans h2⟩
  · rw [← List.map_append, valA_tks]
    exact I.tks
  · rw [← List.map_append, valA_tks]
    exact I.tkl
end
end Ls
-- own part: m9
namespace Ls
open PySem PySem.Spec PyProof.Rows L2
/-! a claim changed where it stands -/
def updC (n : Int) (f : Clm → Clm) (c : Clm) : Clm := if c.tick = n then f c else c
def updM (n : Int) (f : Clm → Clm) (c : MC) : MC := (c.1, updC n f c.2)
def updS (n : Int) (f : Clm → Clm) (sg : List Sg) : List Sg := sg.map fun s => { s with P := s.P.map (updM n f) }
structure Kpc (f : Clm → Clm) : Prop where
  tick : ∀ c, (f c).tick = c.tick
  kind : ∀ c, (f c).kind = c.kind
section
variable {room most : Int} {over : Bool} {sg : List Sg} {l : Ln} {m : MM} {k : Kd} {t n pages : Int} {s : Sg} {f : Clm → Clm}
theorem updC_tick (kp : Kpc f) (c : Clm) : (updC n f c).tick = c.tick := by unfold updC; split; exact kp.tick c; rfl
theorem updC_kind (kp : Kpc f) (c : Clm) : (updC n f c).kind = c.kind := by unfold updC; split; exact kp.kind c; rfl
theorem tick_inj {cs : List MC} (h : (cs.map fun c => c.2.tick).Pairwise (· < ·)) {i j : Nat} {c d : MC} (hi : cs[i]? = some c) (hj : cs[j]? = some d) (e : c.2.tick = d.2.tick) : i = j := by
  have h1 : (cs.map fun c => c.2.tick)[i]? = some c.2.tick := by rw [List.getElem?_map, hi]; rfl
  have h2 : (cs.map fun c => c.2.tick)[j]? = some c.2.tick := by rw [List.getElem?_map, hj, e]; rfl
  exact inc_inj h h1 h2
theorem tick_one {cs : List MC} (h : (cs.map fun c => c.2.tick).Pairwise (· < ·)) {c d : MC} (hi : c ∈ cs) (hj : d ∈ cs) (e : c.2.tick = d.2.tick) : c = d := by
  obtain ⟨i, h1⟩ := List.getElem?_of_mem hi
  obtain ⟨j, h2⟩ := List.getElem?_of_mem hj
  have := tick_inj h h1 h2 e
  subst this
  exact Option.some.inj (h1.symm.trans h2)
theorem setAt_map {cs : List MC} {i : Nat} {c : MC} (h : (cs.map fun c => c.2.tick).Pairwise (· < ·)) (hf : FirstC n cs i c) : setAt i (fun c => (c.1, f c.2)) cs = cs.map (updM n f) := by
  rw [setAt_eq hf.1]
  refine List.ext_getElem? fun j => ?_
  rw [List.getElem?_map]
  by_cases e : i = j
  · subst e
    rw [List.getElem?_set_self (List.getElem?_eq_some_iff.mp hf.1).1, hf.1]
    show _ = some (updM n f c)
    unfold updM updC
    rw [if_pos hf.2.1]
  · rw [List.getElem?_set_ne e]
    cases q : cs[j]? with
    | none => rfl
    | some d =>
      show some d = some (updM n f d)
      have : d.2.tick ≠ n := fun z => e (tick_inj h hf.1 q (hf.2.1.trans z.symm))
      unfold updM updC
      rw [if_neg this]
theorem Bis.first (B : Bis room most over sg l m) (h : n ∈ l.pile) : ∃ i c, FirstC n m.all i c ∧ c.2.mark = ("open" : Str) := by
  rw [← B.pile, ← B.opn] at h
  obtain ⟨c, hc, e⟩ := List.mem_map.mp h
  obtain ⟨h1, h2⟩ := List.mem_filter.mp hc
  obtain ⟨i, hi⟩ := List.getElem?_of_mem h1
  have tk := B.ok.tks
  rw [← B.all] at tk
  exact ⟨i, c, ⟨hi, e, fun j d hj hd z => by have := tick_inj tk hi hd (e.trans z.symm); omega⟩, of_decide_eq_true h2⟩
theorem updS_row (n : Int) (f : Clm → Clm) (sg : List Sg) : (updS n f sg).map Sg.p = sg.map Sg.p := by
  unfold updS
  rw [List.map_map]
  rfl
theorem updS_held (n : Int) (f : Clm → Clm) (sg : List Sg) : heldS (updS n f sg) = heldS sg := by
  cases sg <;> rfl
/-- n's claim stands on a page of the row -/
def OnPage (n : Int) (sg : List Sg) : Prop := ∀ s ∈ sg, ∀ c ∈ s.g, c.2.tick ≠ n
theorem updS_all (h : OnPage n sg) : allS (updS n f sg) = (allS sg).map (updM n f) := by
  induction sg with
  | nil => rfl
  | cons s r ih =>
    have hg : s.g.map (updM n f) = s.g := by
      have : s.g.map (updM n f) = s.g.map id := List.map_congr_left fun c hc => by
        unfold updM updC
        rw [if_neg (h s List.mem_cons_self c hc)]
        rfl
      rw [this, List.map_id]
    have ih := ih fun u hu => h u (List.mem_cons_of_mem _ hu)
    show allS ({ s with P := s.P.map (updM n f) } :: updS n f r) = _
    rw [allS_cons, allS_cons, ih, List.map_append, List.map_append, hg]
theorem SgOk.upd (O : SgOk sg pages) (kp : Kpc f) (hp : OnPage n sg) (hv : ∀ c, c ∈ allS sg → c.2.tick = n → (f c.2).vals.length = c.2.kind.2.length) : SgOk (updS n f sg) pages := by
  refine ⟨fun e => O.ne (by cases sg; rfl; cases e), fun u hu c hc => ?_, fun u hu c hc => ?_, by rw [updS_row]; exact O.inc, by rw [updS_row]; exact O.pos, ?_, fun u hu => ?_, ?_, ?_⟩
  · obtain ⟨s, hs, rfl⟩ := List.mem_map.mp hu
    obtain ⟨d, hd, rfl⟩ := List.mem_map.mp hc
    exact O.pgP s hs d hd
  · rw [updS_row]
    obtain ⟨s, hs, rfl⟩ := List.mem_map.mp hu
    exact O.pgG s hs c hc
  · rw [updS_all hp]
    intro c hc
    obtain ⟨d, hd, rfl⟩ := List.mem_map.mp hc
    exact O.lt d hd
  · cases sg with
    | nil => cases hu
    | cons s r =>
      obtain ⟨w, hw, rfl⟩ := List.mem_map.mp (show u ∈ List.map _ r from hu)
      exact O.tl w hw
  · rw [updS_all hp, List.map_map]
    have : ((fun c : MC => c.2.tick) ∘ updM n f) = fun c => c.2.tick := funext fun c => updC_tick kp c.2
    rw [this]
    exact O.tks
  · rw [updS_all hp]
    intro c hc
    obtain ⟨d, hd, rfl⟩ := List.mem_map.mp hc
    show (updC n f d.2).vals.length = (updC n f d.2).kind.2.length ∧ (updC n f d.2).kind.2.length ≤ 4 ∧ IsNm (updC n f d.2).kind.1
    rw [updC_kind kp]
    refine ⟨?_, (O.vals d hd).2⟩
    unfold updC
    by_cases e : d.2.tick = n
    · rw [if_pos e]
      exact hv d hd e
    · rw [if_neg e]
      exact (O.vals d hd).1
theorem pg_ext : ∀ {b b' : List Pg}, b.map Pg.a = b'.map Pg.a → b.map Pg.ahead = b'.map Pg.ahead → b = b'
  | [], [], _, _ => rfl
  | [], _ :: _, h, _ => by cases h
  | _ :: _, [], h, _ => by cases h
  | g :: b, g' :: b', h, h2 => by
    obtain ⟨a1, a2⟩ := List.cons.inj h
    obtain ⟨b1, b2⟩ := List.cons.inj h2
    have : g = g' := by
      obtain ⟨x1, x2, x3⟩ := g
      obtain ⟨y1, y2, y3⟩ := g'
      cases a1
      dsimp only at b1
      rw [b1]
    rw [this, pg_ext a2 b2]
/-- freed ones stay so, others don't become so -/
theorem updS_a (hn : ∀ s ∈ sg, ∀ c ∈ s.P, c.2.tick = n → nfC c = true ∧ (f c.2).mark ≠ ("freed" : Str)) : ((updS n f sg).map Sg.pg).map Pg.a = ((sg.map Sg.pg).map Pg.a).map fun x => (x.1.map (updC n f), x.2) := by
  unfold updS
  rw [List.map_map, List.map_map, List.map_map, List.map_map]
  refine List.map_congr_left fun s hs => ?_
  show (((s.P.map (updM n f)).filter nfC).map (·.2), s.h) = (((s.P.filter nfC).map (·.2)).map (updC n f), s.h)
  congr 1
  rw [List.filter_map, List.map_map, List.map_map]
  have : s.P.filter (nfC ∘ updM n f) = s.P.filter nfC := List.filter_congr fun c hc => by
    show nfC (updM n f c) = nfC c
    unfold updM updC
    by_cases e : c.2.tick = n
    · obtain ⟨h1, h2⟩ := hn s hs c hc e
      rw [if_pos e, h1]
      exact decide_eq_true h2
    · rw [if_neg e]
  rw [this]
  rfl
theorem updS_ah (n : Int) (f : Clm → Clm) (sg : List Sg) : ((updS n f sg).map Sg.pg).map Pg.ahead = (sg.map Sg.pg).map Pg.ahead := by
  unfold updS
  rw [List.map_map, List.map_map, List.map_map]
  rfl
theorem Bis.onPage (B : Bis room most over sg l m) (h : n ∈ l.pile) : OnPage n sg ∧ ∀ c ∈ allS sg, c.2.tick = n → c.2.mark = ("open" : Str) := by
  obtain ⟨i, c, hf, ho⟩ := B.first h
  have hm : c ∈ allS sg := by rw [← B.all]; exact List.mem_of_getElem? hf.1
  have one : ∀ d ∈ allS sg, d.2.tick = n → d.2.mark = ("open" : Str) := fun d hd e => by
    rw [tick_one B.ok.tks hd hm (e.trans hf.2.1.symm)]
    exact ho
  exact ⟨fun s hs d hd e => (B.ok.pgG s hs d hd).2 (one d (List.mem_flatMap.mpr ⟨s, hs, List.mem_append_left _ hd⟩) e), one⟩
theorem Bis.upd {l' : Ln} {hd bs : List Pa} {i : Nat} {c : MC} (B : Bis room most over sg l m) (h : n ∈ l.pile) (kp : Kpc f) (J : MInv room most over hd bs l') (ea : l'.book.map Pg.a = (l.book.map Pg.a).map fun x => (x.1.map (updC n f), x.2)) (eh : l'.book.map Pg.ahead = l.book.map Pg.ahead)
    (hfr : ∀ c : Clm, (f c).mark ≠ ("freed" : Str) ∨ (f c).mark = c.mark) (hv : ∀ c, c ∈ m.all → c.2.tick = n → (f c.2).vals.length = c.2.kind.2.length) (hf : FirstC n m.all i c) : SgOk (updS n f sg) m.pages ∧ l'.book = (updS n f sg).map Sg.pg ∧ setAt i (fun c => (c.1, f c.2)) m.all = allS (updS n f sg) ∧ m.row = (updS n f sg).map Sg.p ∧ m.held = heldS (updS n f sg) := by
  obtain ⟨hp, one⟩ := B.onPage h
  have tk := B.ok.tks
  rw [← B.all] at tk
  refine ⟨B.ok.upd kp hp (by rw [← B.all]; exact hv), pg_ext ?_ ?_, ?_, by rw [updS_row, B.row], by rw [updS_held, B.held]⟩
  · rw [updS_a, ea, B.book]
    intro s hs c hc e
    have hm : c ∈ allS sg := List.mem_flatMap.mpr ⟨s, hs, List.mem_append_right _ hc⟩
    have ho := one c hm e
    refine ⟨decide_eq_true (by rw [ho]; decide), ?_⟩
    rcases hfr c.2 with q | q
    · exact q
    · rw [q, ho]; decide
  · rw [updS_ah, eh, B.book]
  · rw [setAt_map tk hf, updS_all hp, B.all]
def mkF (s : Str) (c : Clm) : Clm := { c with mark := s }
def valF (us : List Int) (c : Clm) : Clm := { c with vals := us }
theorem mkF_kp (s : Str) : Kpc (mkF s) := ⟨fun _ => rfl, fun _ => rfl⟩
theorem valF_kp (us : List Int) : Kpc (valF us) := ⟨fun _ => rfl, fun _ => rfl⟩
theorem markC_upd (n : Int) (s : Str) : markC n s = updC n (mkF s) := rfl
theorem valC_upd (n : Int) (us : List Int) : valC n us = updC n (valF us) := rfl
theorem valA_upd (n : Int) (us : List Int) (b : List Pa) : b.map (valA n us) = b.map fun x => (x.1.map (updC n (valF us)), x.2) := rfl
/-- an open claim is filled -/
theorem Bis.fill {i j : Nat} {r : List (Nat × Nat)} {us : List Int} {q : Nat} {c : MC} (B : Bis room most over sg l m) (h : n ∈ l.pile) (hs : spotsB n l.book = (i, j) :: r) (hf : FirstC n m.all q c) (hv : us.length = c.2.kind.2.length) :
    ∃ sg', Bis room most over sg' (fillL i j us l) { m with all := setAt q (valMC us) m.all } := by
  obtain ⟨hd, bs, I⟩ := B.inv
  have J := I.fill hs us
  have hsm : (i, j) ∈ spotsB n l.book := by rw [hs]; exact List.mem_cons_self
  have tks2 : (tksA (l.book.map Pg.a)).Pairwise (· < ·) := by rw [I.st]; exact I.tks
  have tk := B.ok.tks
  rw [← B.all] at tk
  obtain ⟨O, e1, e2, e3, e4⟩ := B.upd h (valF_kp us) J (setVals_map tks2 hsm) (setVals_ah i j us l.book) (fun c => .inr rfl) (fun d hd e => by
    rw [tick_one tk hd (List.mem_of_getElem? hf.1) (e.trans hf.2.1.symm)]
    exact hv) hf
  have e2 : setAt q (valMC us) m.all = allS (updS n (valF us) sg) := e2
  have e5 : setAt q (valMC us) m.all = m.all.map (updM n (valF us)) := setAt_map (f := valF us) tk hf
  refine ⟨_, ⟨⟨_, _, J⟩, O, e1, e2, e3, e4, B.most, B.room, B.over, B.pile, B.given, B.back, B.gone, B.missed, B.told, B.tix, B.time, ?_, ?_, ?_⟩⟩
  · show ∀ c ∈ setAt q (valMC us) m.all, _
    rw [e5]
    intro d hd
    obtain ⟨x, hx, rfl⟩ := List.mem_map.mp hd
    show (updC n _ x.2).tick ≤ l.last
    rw [updC_tick (valF_kp us)]
    exact B.tkl x hx
  · show ((setAt q (valMC us) m.all).filter _).map _ = m.pile
    rw [e5, List.filter_map, List.map_map, ← B.opn]
    have h1 : ((fun c : MC => c.2.opn) ∘ updM n (valF us)) = fun c => c.2.opn := funext fun c => by
      show (updC n (valF us) c.2).opn = c.2.opn
      unfold updC
      split <;> rfl
    have h2 : ((fun c : MC => c.2.tick) ∘ updM n (valF us)) = fun c => c.2.tick := funext fun c => updC_tick (valF_kp us) c.2
    rw [h1, h2]
  · show ((setAt q (valMC us) m.all).length : Int) ≤ m.tickets
    rw [e5, List.length_map]
    exact B.cnt
theorem filter_snoc_lt {xs : List Int} {n : Int} (h : (xs ++ [n]).Pairwise (· < ·)) : (xs ++ [n]).filter (fun x => decide (x ≠ n)) = xs := by
  rw [List.filter_append]
  have h2 := (List.pairwise_append.mp h).2.2
  have e1 : xs.filter (fun x => decide (x ≠ n)) = xs := List.filter_eq_self.mpr fun x hx => decide_eq_true (by have := h2 x hx n List.mem_cons_self; omega)
  have e2 : [n].filter (fun x => decide (x ≠ n)) = [] := by rw [List.filter_cons_of_neg (by simp)]; rfl
  rw [e1, e2, List.append_nil]
/-- the last open claim is closed -/
theorem Bis.close {i j : Nat} {r : List (Nat × Nat)} {mk : Str} {q : Nat} {c : MC} (B : Bis room most over sg l m) (h : l.pile = l.pile.dropLast ++ [n]) (hs : spotsB n l.book = (i, j) :: r) (hf : FirstC n m.all q c) (h1 : mk ≠ "open") (h2 : mk ≠ "freed") :
    ∃ sg', Bis room most over sg' (closeL i j mk l) { m with all := setAt q (mkMC mk) m.all, pile := m.pile.dropLast } ∧ sg' = updS n (mkF mk) sg := by
  have hn : n ∈ l.pile := by rw [h]; exact List.mem_append_right _ List.mem_cons_self
  obtain ⟨hd, bs, I⟩ := B.inv
  have J := I.close h hs mk
  have hsm : (i, j) ∈ spotsB n l.book := by rw [hs]; exact List.mem_cons_self
  have tks2 : (tksA (l.book.map Pg.a)).Pairwise (· < ·) := by rw [I.st]; exact I.tks
  have tk := B.ok.tks
  rw [← B.all] at tk
  obtain ⟨O, e1, e2, e3, e4⟩ := B.upd hn (mkF_kp mk) J (setMark_map tks2 hsm) (setMark_ah i j mk l.book) (fun c => .inl h2) (fun d hd e => (B.ok.vals d (by rw [← B.all]; exact hd)).1) hf
  have e2 : setAt q (mkMC mk) m.all = allS (updS n (mkF mk) sg) := e2
  have e5 : setAt q (mkMC mk) m.all = m.all.map (updM n (mkF mk)) := setAt_map (f := mkF mk) tk hf
  refine ⟨_, ⟨⟨_, _, J⟩, O, e1, e2, e3, e4, B.most, B.room, B.over, ?_, B.given, B.back, B.gone, B.missed, B.told, B.tix, B.time, ?_, ?_, ?_⟩, rfl⟩
  · show m.pile.dropLast = l.pile.dropLast
    rw [B.pile]
  · show ∀ c ∈ setAt q (mkMC mk) m.all, _
    rw [e5]
    intro d hd
    obtain ⟨x, hx, rfl⟩ := List.mem_map.mp hd
    show (updC n _ x.2).tick ≤ l.last
    rw [updC_tick (mkF_kp mk)]
    exact B.tkl x hx
  · show ((setAt q (mkMC mk) m.all).filter _).map _ = m.pile.dropLast
    rw [e5, List.filter_map, List.map_map]
    have h4 : ((fun c : MC => c.2.tick) ∘ updM n (mkF mk)) = fun c => c.2.tick := funext fun c => updC_tick (mkF_kp mk) c.2
    have h3 : ((fun c : MC => c.2.opn) ∘ updM n (mkF mk)) = fun c => decide (c.2.tick ≠ n) && c.2.opn := funext fun c => by
      show (updC n (mkF mk) c.2).opn = _
      unfold updC
      by_cases e : c.2.tick = n
      · rw [if_pos e, decide_eq_false (not_not_intro e)]
        exact decide_eq_false h1
      · rw [if_neg e, decide_eq_true e, Bool.true_and]
    rw [h3, h4]
    have h5 : (m.all.filter fun c => decide (c.2.tick ≠ n) && c.2.opn).map (fun c => c.2.tick) = m.pile.filter fun x => decide (x ≠ n) := by
      rw [← B.opn, List.filter_map, List.filter_filter]
      rfl
    rw [h5, B.pile]
    have hi := I.inc
    rw [h] at hi
    have := filter_snoc_lt hi
    rw [← h] at this
    exact this
  · show ((setAt q (mkMC mk) m.all).length : Int) ≤ m.tickets
    rw [e5, List.length_map]
    exact B.cnt
theorem Bis.give {i j : Nat} {r : List (Nat × Nat)} {q : Nat} {c : MC} (B : Bis room most over sg l m) (h : l.pile = l.pile.dropLast ++ [n]) (hs : spotsB n l.book = (i, j) :: r) (hf : FirstC n m.all q c) : ∃ sg', Bis room most over sg' (giveL i j l) (givesM q m) := by
  obtain ⟨sg', B', _⟩ := B.close (mk := "given") h hs hf (by decide) (by decide)
  obtain ⟨hd, bs, I⟩ := B.inv
  exact ⟨sg', { B' with inv := ⟨_, _, I.give h hs⟩, given := by show m.given + 1 = l.given + 1; rw [B.given] }⟩
end
end Ls
-- own part: n17
namespace Ls
open PySem PySem.Spec PyProof.Rows L2
/-- what a taker or a looker is told: lost ones, or an event -/
abbrev Th := Int ⊕ (Int × Clm)
def thD : Th → PyData
  | .inl n => .tuple [.str "lost", .int n]
  | .inr z => evD z.1 z.2
def toldT : Int → List Sn → List Th
  | _, [] => []
  | p, z :: r => if p ≤ z.1 then (if p < z.1 then [.inl (z.1 - p)] else []) ++ .inr (z.1, z.2.2) :: toldT (z.1 + 1) r else toldT p r
def toldD (p : Int) (l : Ln) : List PyData := (toldT p (seenL l)).map thD
def spToldFrom (K : PySem.W.Frag) (Z : Cz) : Sp := fun vs H Q _ => ∃ (x : Addr) (k : Int) (l : Ln) (L : List (As K)), vs = [.ref x, .int k] ∧ l.fine ∧ Ls.Sep (laneA Z (.ref x) l :: L) H ∧ ∀ p H', (toldD k l).length ≤ 2000000 → Ls.Sep (Ls.ld p (toldD k l) :: laneA Z (.ref x) l :: L) H' → Q (.ref p) H'
def spLookL (K : PySem.W.Frag) (Z : Cz) : Sp := fun vs H Q _ => ∃ (x : Addr) (l : Ln) (L : List (As K)), vs = [.ref x] ∧ l.fine ∧ Ls.Sep (laneA Z (.ref x) l :: L) H ∧ ∀ p H', (toldD l.coming l).length ≤ 2000000 → Ls.Sep (Ls.ld p (toldD l.coming l) :: laneA Z (.ref x) l :: L) H' → Q (.ref p) H'
def cntD (l : Ln) : PyData := .tuple [.int l.given, .int l.back, .int l.gone, .int l.missed]
def spCounts (K : PySem.W.Frag) (Z : Cz) : Sp := fun vs H Q _ => ∃ (v : V) (l : Ln) (L : List (As K)), vs = [v] ∧ Ls.Sep (laneA Z v l :: L) H ∧ ∀ p H', Ls.Sep (im (.ref p) (cntD l) :: laneA Z v l :: L) H' → Q (.ref p) H'
theorem mapTh (acc : List Th) (z : Th) : (acc ++ [z]).map thD = acc.map thD ++ [thD z] := by
  rw [List.map_append]
  rfl
end Ls
namespace Lw
open PySem PySem.Spec PyProof.Rows L2 Ls
theorem ok_told_from {P : Program} {w : World} {K : PySem.W.Frag} {mg : Str → Option Value} {base : Heap} (E : Env K mg) : FnOk P w K mg base CX0 2 E.a_told_from E.fd_told_from ["lane", "place"] (spToldFrom K ⟨E.C_Kind, E.C_Page, E.C_Lane⟩) := by
  refine E.F_told_from.ok sc_told_from (fun vs H Q E h => ?_) (fun cdv A outer s H vs Q E' hr h => ?_)
  · walk_at "hl"
  · have hu := huOf hr
    have G_Lane_seen := ok_Lane_seen (P := P) (w := w) (base := base) E
    have hr_Lane_seen := hr.mono (show 1 ≤ 1 by decide)
    have b_Lane_seen := b_Lane_seen E
    have G_told_event := ok_told_event (P := P) (w := w) (base := base) E
    have hr_told_event := hr.mono (show 1 ≤ 1 by decide)
    have b_told_event := b_told_event E
    have hcl_Lane := E.cl_Lane
    have hcl_Kind := E.cl_Kind
    have hcl_Page := E.cl_Page
    obtain ⟨x, k, l, L, rfl, fi, hS, q⟩ := h
    refine ⟨_, PSs.nox (pss_cons (ps_set (i := 2) sc_told_from.nd rfl (Or.inl rfl) (pe_lst pa_nil))
(pss_cons (ps_for PassesOwn.never rfl (pi_seqU K rfl (pe_meth0 (pv 0) E.cl_Lane E.m_Lane_seen G_Lane_seen hr_Lane_seen b_Lane_seen .nil pass0)) (kGTup (n := 3) K rfl (pg_tup rfl (pgs_cons (pg_name (i := 3) sc_told_from.nd rfl (Or.inl rfl)) (pgs_cons (pg_name (i := 4) sc_told_from.nd rfl (Or.inl rfl)) (pgs_cons (pg_name (i := 5) sc_told_from.nd rfl (Or.inl rfl)) pgs_nil)))))
(pss_one (ps_if (pt_cmpR (op_ge) (pv 3) (pv 1) (nomark _)) (pss_cut (ps_if (pt_cmpR (op_gt) (pv 3) (pv 1) (nomark _)) (pss_one (ps_expr (kBM K rfl (pe_bm PySem.F.plainAttrs_list PySem.F.slot_list_append PySem.F.type_list_append mt_append (pv 2) (pa_cons (pe_tup (pa_cons pe_str (pa_cons (pe_op op_sub (pv 3) (pv 1)) pa_nil))) pa_nil))))) pss_nil)
(pss_cons (ps_expr (kBM K rfl (pe_bm PySem.F.plainAttrs_list PySem.F.slot_list_append PySem.F.type_list_append mt_append (pv 2) (pa_cons (pe_call G_told_event hr_told_event rfl E.g_told_event E.F_told_event.kp b_told_event .nil pass0 (pa_cons (pv 3) (pa_cons (pv 5) pa_nil))) pa_nil))))
(pss_one (ps_set (i := 1) sc_told_from.nd rfl (Or.inl rfl) (pe_op (op_addU K rfl) (pv 3) pe_int))))) pss_nil)))
(pss_one (ps_ret (pv 2))))), ?_⟩
    refine k_body (s1 := some _ :: some _ :: [none, none, none, none]) rfl ?_
    walk_at "s"
    revert p
    intro pt hS
    refine ⟨x, l, _, rfl, fi, hS.rem (by walk_at "rem"), ?_⟩
    clear hS
    intro ps us H hul hS
    have hus := hS.len2 (f := seenF ⟨E.C_Kind, E.C_Page, E.C_Lane⟩) (by walk_at "mem")
    rw [show ([] : List PyData) = ([] : List Th).map thD from rfl] at hS
    walk_at "s"
    refine for_wk (n := (seenL l).length) (Y := fun i q => ∀ v z, us[i]? = some v → (seenL l)[i]? = some z → q v [seenF ⟨E.C_Kind, E.C_Page, E.C_Lane⟩ v z]) (fun i σ L' => ∃ acc pc c3 c4 c5, L' = Ls.ld pt (acc.map thD) :: ob ps (.lst us) :: al2 (seenF ⟨E.C_Kind, E.C_Page, E.C_Lane⟩) us (seenL l) :: laneA ⟨E.C_Kind, E.C_Page, E.C_Lane⟩ (.ref x) l :: L ∧ acc ++ toldT pc ((seenL l).drop i) = toldT k (seenL l) ∧ acc.length ≤ 2 * i ∧ σ = [some (.ref x), some (.int pc), some (.ref pt), c3, c4, c5]) (fun i σ L' e => by obtain ⟨_, _, _, _, _, rfl, _⟩ := e; exact wk_ob2 (by walk_at "mem") (by walk_at "mem")) (Sub.ok (by walk_at "sub") hS) ⟨[], k, _, _, _, rfl, rfl, Nat.zero_le _, rfl⟩ (fun i σ L' hi iv v z hv hz H hS => ?_) (fun σ L' H iv hS => ?_)
    · obtain ⟨acc, pc, c3, c4, c5, rfl, hso, la, rfl⟩ := iv
      walk_at "ns"
      have hdr : (seenL l).drop i = z :: (seenL l).drop (i + 1) := List.drop_eq_getElem_cons hi |>.trans (by rw [(List.getElem?_eq_some_iff.mp hz).2])
      rw [hdr] at hso
      obtain ⟨zp, za, c⟩ := z
      replace hS := Sep.seen hS
      obtain ⟨T, w, ev, hS⟩ := hS
      subst ev
      dsimp only at hS
      have lam : (acc.map thD).length ≤ 2 * i := by rw [List.length_map]; exact la
      walk_at "s"
      by_cases e1 : pc ≤ zp
      · rw [if_pos (decide_eq_true e1)]
        have et : toldT pc ((zp, za, c) :: (seenL l).drop (i + 1)) = (if pc < zp then [.inl (zp - pc)] else []) ++ .inr (zp, c) :: toldT (zp + 1) ((seenL l).drop (i + 1)) := by
          rw [toldT]
          exact if_pos e1
        rw [et] at hso
        walk_at "s"
        refine k_cut (fun σ H => ∃ acc1 : List Th, σ = [some (.ref x), some (.int pc), some (.ref pt), some (.int zp), some (.int (za : Nat)), some w] ∧ acc1.length ≤ 2 * i + 1 ∧ acc1 ++ .inr (zp, c) :: toldT (zp + 1) ((seenL l).drop (i + 1)) = toldT k (seenL l) ∧ Ls.Sep (Ls.ld pt (acc1.map thD) :: clmF ⟨E.C_Kind, E.C_Page, E.C_Lane⟩ w c :: ob ps (.lst us) :: al2 (seenF ⟨E.C_Kind, E.C_Page, E.C_Lane⟩) us (seenL l) :: laneA ⟨E.C_Kind, E.C_Page, E.C_Lane⟩ (.ref x) l :: L) H) ?_ ?_
        · walk_at "s"
          by_cases e2 : pc < zp
          · rw [if_pos (decide_eq_true e2)]
            rw [if_pos e2] at hso
            walk_at "s"
            refine ⟨acc ++ [.inl (zp - pc)], rfl, by rw [List.length_append, List.length_singleton]; omega, by rw [← hso, List.append_assoc], ?_⟩
            rw [mapTh]
            dsimp only [thD]
            exact Sub.ok (by walk_at "sub") hS
          · rw [if_neg (by rw [decide_eq_false e2]; exact Bool.false_ne_true)]
            rw [if_neg e2] at hso
            walk_at "s"
            exact ⟨acc, rfl, by omega, hso, Sub.ok (by walk_at "sub") hS⟩
        · clear hS
          rintro σ H ⟨acc1, rfl, l1, hs1, hS⟩
          have lam1 : (acc1.map thD).length ≤ 2 * i + 1 := by rw [List.length_map]; exact l1
          walk_at "s"
          refine ⟨zp, w, c, _, rfl, by walk_at "mem", hS, ?_⟩
          clear hS
          intro pe H hS
          walk_at "s"
          refine ⟨_, ⟨acc1 ++ [.inr (zp, c)], zp + 1, _, _, _, rfl, by rw [← hs1, List.append_assoc]; rfl, by rw [List.length_append, List.length_singleton]; omega, rfl⟩, ?_⟩
          rw [mapTh]
          dsimp only [thD]
          exact Sub.ok (by walk_at "sub") hS
      · rw [if_neg (by rw [decide_eq_false e1]; exact Bool.false_ne_true)]
        have et : toldT pc ((zp, za, c) :: (seenL l).drop (i + 1)) = toldT pc ((seenL l).drop (i + 1)) := by
          rw [toldT]
          exact if_neg e1
        rw [et] at hso
        walk_at "s"
        exact ⟨_, ⟨acc, pc, _, _, _, rfl, hso, by omega, rfl⟩, Sub.ok (by walk_at "sub") hS⟩
    · obtain ⟨acc, pc, c3, c4, c5, rfl, hso, la, rfl⟩ := iv
      rw [List.drop_length] at hso
      have hso : acc ++ [] = toldT k (seenL l) := hso
      rw [List.append_nil] at hso
      subst hso
      walk_at "s"
      unfold toldD at q
      refine q _ _ ?_ (Sub.ok (by walk_at "sub") hS)
      rw [List.length_map]
      omega
theorem ok_Lane_look {P : Program} {w : World} {K : PySem.W.Frag} {mg : Str → Option Value} {base : Heap} (E : Env K mg) : FnOk P w K mg base CX0 3 E.a_Lane_look E.fd_Lane_look ["self"] (spLookL K ⟨E.C_Kind, E.C_Page, E.C_Lane⟩) := by
  refine E.F_Lane_look.ok sc_Lane_look (fun vs H Q E h => ?_) (fun cdv A outer s H vs Q E' hr h => ?_)
  · walk_at "hl"
  · have hu := huOf hr
    have G_told_from := ok_told_from (P := P) (w := w) (base := base) E
    have hr_told_from := hr.mono (show 2 ≤ 2 by decide)
    have b_told_from := b_told_from E
    have hcl_Lane := E.cl_Lane
    have hna_Lane_coming := E.na_Lane_coming
    have hcl_Kind := E.cl_Kind
    have hcl_Page := E.cl_Page
    obtain ⟨x, l, L, rfl, fi, hS, q⟩ := h
    refine ⟨_, PSs.nox (pss_one (ps_ret (pe_call G_told_from hr_told_from rfl E.g_told_from E.F_told_from.kp b_told_from .nil pass0 (pa_cons (pv 0) (pa_cons (kFld K rfl (pe_fld (pv 0) rfl)) pa_nil))))), ?_⟩
    refine k_body (s1 := some _ :: []) rfl ?_
    walk_at "s"
    refine ⟨x, l.coming, l, _, rfl, fi, hS, ?_⟩
    exact fun p H hl hS => q p H hl hS
theorem ok_Lane_counts {P : Program} {w : World} {K : PySem.W.Frag} {mg : Str → Option Value} {base : Heap} (E : Env K mg) : FnOk P w K mg base CX0 1 E.a_Lane_counts E.fd_Lane_counts ["self"] (spCounts K ⟨E.C_Kind, E.C_Page, E.C_Lane⟩) := by
  refine E.F_Lane_counts.ok sc_Lane_counts (fun vs H Q E h => ?_) (fun cdv A outer s H vs Q E' hr h => ?_)
  · walk_at "hl"
  · have hu := huOf hr
    have hcl_Lane := E.cl_Lane
    have hna_Lane_given := E.na_Lane_given
    have hna_Lane_back_thrown := E.na_Lane_back_thrown
    have hna_Lane_gone := E.na_Lane_gone
    have hna_Lane_missed := E.na_Lane_missed
    have hcl_Kind := E.cl_Kind
    have hcl_Page := E.cl_Page
    obtain ⟨v, l, L, rfl, hS, q⟩ := h
    refine ⟨_, PSs.nox (pss_one (ps_ret (pe_tup (pa_cons (kFld K rfl (pe_fld (pv 0) rfl)) (pa_cons (kFld K rfl (pe_fld (pv 0) rfl)) (pa_cons (kFld K rfl (pe_fld (pv 0) rfl)) (pa_cons (kFld K rfl (pe_fld (pv 0) rfl)) pa_nil))))))), ?_⟩
    refine k_body (s1 := some _ :: []) rfl ?_
    walk_at "s"
    unfold cntD at q
    refine q _ _ ?_
    exact Sub.ok (by walk_at "sub") hS
end Lw
-- own part: d5
namespace Ls
open PySem PySem.Spec PyProof.Rows L2
abbrev Wn := Int × Nat × MC
def whoG (row : List Int) : Int → Nat → List MC → List Wn
  | _, _, [] => []
  | p, i, c :: cs => if c.2.mark = "open" then [] else if c.2.mark = "given" then (if c.1 ∈ row then [(p, i, c)] else []) ++ whoG row (p + 1) (i + 1) cs else whoG row p (i + 1) cs
def wholeM (m : MM) : List Wn := whoG m.row 0 0 m.all
def snW (z : Wn) : Sn := (z.1, z.2.1, z.2.2.2)
def toldM (k : Int) (m : MM) : List Th := toldT k ((wholeM m).map snW)
section
variable {K : PySem.W.Frag} {L : List (As K)} {H : Hp} {us vs : List V} {cs : List MC} {v w : V} {z : Wn} {T : Addr}
def whF (us : List V) (cs : List MC) (v : V) (z : Wn) : As K := ex fun (x : Addr × V) => all [pr (v = .ref x.1), pr (us[z.2.1]? = some x.2 ∧ cs[z.2.1]? = some z.2.2), tu x.1 [.int z.1, x.2]]
instance : Dup (whF (K := K) us cs v z) := by unfold whF; infer_instance
theorem Sep.whF (h : Ls.Sep (whF us cs v z :: L) H) : ∃ T w, v = .ref T ∧ us[z.2.1]? = some w ∧ cs[z.2.1]? = some z.2.2 ∧ Ls.Sep (tu T [.int z.1, w] :: L) H := by
  obtain ⟨⟨T, w⟩, h3⟩ := Sep.ex_iff.mp h
  rw [Sep.all_iff, List.cons_append, Sep.pr_iff, List.cons_append, Sep.pr_iff] at h3
  exact ⟨T, w, h3.1, h3.2.1.1, h3.2.1.2, h3.2.2⟩
theorem Sep.toWhF {p : Int} {i : Nat} {c : MC} (h : Ls.Sep (tu T [.int p, w] :: L) H) (e : us[i]? = some w) (e2 : cs[i]? = some c) : Ls.Sep (Ls.whF us cs (.ref T) (p, i, c) :: L) H :=
  Sep.ex_iff.mpr ⟨(T, w), by rw [Sep.all_iff, List.cons_append, Sep.pr_iff, List.cons_append, Sep.pr_iff]; exact ⟨rfl, ⟨e, e2⟩, h⟩⟩
theorem Sep.snocW {zs : List Wn} (h : Ls.Sep (Ls.whF us cs v z :: al2 (Ls.whF us cs) vs zs :: L) H) : Ls.Sep (al2 (Ls.whF us cs) (vs ++ [v]) (zs ++ [z]) :: L) H := h.snoc
end
def spWhole (K : PySem.W.Frag) : Sp := fun vs H Q _ => ∃ (a al rw pl ct : Addr) (m : MM) (us : List V) (L : List (As K)), vs = [.ref a] ∧ ob a (.dK (mmKV al rw pl ct m)) ∈ L ∧ ob al (.lst us) ∈ L ∧ Ls.ld rw (m.row.map PyData.int) ∈ L ∧ al2 mcA us m.all ∈ L ∧ m.few ∧ Ls.Sep L H ∧ ∀ p ws H', ws.length ≤ 1000 → Ls.Sep (ob p (.lst ws) :: al2 (whF us m.all) ws (wholeM m) :: L) H' → Q (.ref p) H'
def spEventM (K : PySem.W.Frag) : Sp := fun vs H Q _ => ∃ (n : Int) (v : V) (us : List V) (cs : List MC) (i : Nat) (c : MC) (L : List (As K)), vs = [.int n, v] ∧ al2 mcA us cs ∈ L ∧ us[i]? = some v ∧ cs[i]? = some c ∧ Ls.Sep L H ∧ ∀ p H', Ls.Sep (im (.ref p) (evD n c.2) :: L) H' → Q (.ref p) H'
def spToldM (K : PySem.W.Frag) : Sp := fun vs H Q _ => ∃ (v : V) (k : Int) (m : MM) (L : List (As K)), vs = [v, .int k] ∧ m.few ∧ Ls.Sep (mmA v m :: L) H ∧ ∀ p H', (toldM k m).length ≤ 2000 → Ls.Sep (Ls.ld p ((toldM k m).map thD) :: mmA v m :: L) H' → Q (.ref p) H'
theorem whoG_len {row : List Int} : ∀ {cs : List MC} {p : Int} {i : Nat}, (whoG row p i cs).length ≤ cs.length
  | [], _, _ => Nat.le_refl _
  | c :: cs, p, i => by
    rw [whoG]
    split
    · exact Nat.zero_le _
    · split
      · have := whoG_len (row := row) (cs := cs) (p := p + 1) (i := i + 1)
        split
        · rw [List.length_append, List.length_cons, List.length_cons, List.length_nil]; omega
        · rw [List.nil_append, List.length_cons]; omega
      · have := whoG_len (row := row) (cs := cs) (p := p) (i := i + 1)
        rw [List.length_cons]; omega
end Ls
namespace Lw
open PySem PySem.Spec PyProof.Rows L2 Ls
end Lw
-- own part: d6
namespace Ls
open PySem PySem.Spec PyProof.Rows L2
def pageOf (p : Int) (m : MM) : Int := (((wholeM m).filter fun z => decide (z.1 = p)).map fun z => z.2.2.1).headD 0
def takesM (m : MM) : PyData × MM :=
  match toldM m.told m with
  | [] => (.none, m)
  | .inl n :: _ => (thD (.inl n), { m with told := m.told + n })
  | .inr (p, c) :: _ => (evD p c, { m with told := p + 1, row := m.row.filter fun x => decide (pageOf p m ≤ x), held := pageOf p m })
def spTakesM (K : PySem.W.Frag) : Sp := fun vs H Q _ => ∃ (v : V) (m : MM) (L : List (As K)), vs = [v] ∧ m.few ∧ Ls.Sep (mmA v m :: L) H ∧ ∀ w H', Ls.Sep (im w (takesM m).1 :: mmA v (takesM m).2 :: L) H' → Q w H'
theorem Sep.toMm2 {K : PySem.W.Frag} {A : As K} {L : List (As K)} {H : Hp} {a al rw pl ct : Addr} {kvs : List (Key × V)} {vs : List V} {cs : List MC} {m : MM} {ds es fs : List PyData} (h : Ls.Sep (ob a (.dK kvs) :: ob al (.lst vs) :: Ls.ld rw ds :: Ls.ld pl es :: Ls.ld ct fs :: al2 mcA vs cs :: A :: L) H) (e : kvs = mmKV al rw pl ct m) (e2 : ds = m.row.map PyData.int) (e3 : es = m.pile.map PyData.int) (e4 : fs = [.int m.given, .int m.back, .int m.gone, .int m.missed]) (e5 : cs = m.all) : Ls.Sep (A :: mmA (.ref a) m :: L) H :=
  (Sep.toMm h e e2 e3 e4 e5).perm (.swap _ _ _)
theorem toldT_ev {p : Int} {c : Clm} : ∀ {zs : List Sn} {k : Int}, .inr (p, c) ∈ toldT k zs → ∃ z ∈ zs, z.1 = p
  | [], _, h => by cases h
  | z :: r, k, h => by
    rw [toldT] at h
    split at h
    · rcases List.mem_append.mp h with h | h
      · split at h
        · cases List.mem_singleton.mp h
        · cases h
      · rcases List.mem_cons.mp h with h | h
        · cases h
          exact ⟨z, List.mem_cons_self, rfl⟩
        · obtain ⟨y, hy, e⟩ := toldT_ev h
          exact ⟨y, List.mem_cons_of_mem _ hy, e⟩
    · obtain ⟨y, hy, e⟩ := toldT_ev h
      exact ⟨y, List.mem_cons_of_mem _ hy, e⟩
end Ls
namespace Lw
open PySem PySem.Spec PyProof.Rows L2 Ls
end Lw
-- own part: m10
namespace Ls
open PySem PySem.Spec PyProof.Rows L2
/-! what is seen, and what is taken -/
def keyW (z : Wn) : Int × Option Int × Clm := (z.1, some z.2.2.1, z.2.2.2)
def keyS (row : List Int) (z : Sn) : Int × Option Int × Clm := (z.1, row[z.2.1]?, z.2.2)
section
variable {room most : Int} {over : Bool} {sg : List Sg} {l : Ln} {m : MM} {k : Kd} {t n pages : Int} {s : Sg} {row : List Int}
theorem whoG_g {rest : List MC} : ∀ {g : List MC} {p : Int} {i : Nat}, (∀ c ∈ g, c.1 ∉ row ∧ c.2.mark ≠ ("open" : Str)) → whoG row p i (g ++ rest) = whoG row (p + gvn g) (i + g.length) rest
  | [], p, i, _ => by
    show _ = whoG row (p + 0) (i + 0) rest
    rw [Int.add_zero]
    rfl
  | c :: g, p, i, h => by
    obtain ⟨h1, h2⟩ := h c List.mem_cons_self
    have ih := fun p i => whoG_g (rest := rest) (g := g) (p := p) (i := i) fun d hd => h d (List.mem_cons_of_mem _ hd)
    rw [List.cons_append, whoG, if_neg h2, List.length_cons]
    by_cases e : c.2.mark = "given"
    · have eg : gvn (c :: g) = gvn g + 1 := by unfold gvn; rw [List.filter_cons_of_pos (p := fun c : MC => c.2.giv) (decide_eq_true e), List.length_cons]
      rw [if_pos e, if_neg h1, List.nil_append, ih, eg]
      congr 1
      · omega
      · omega
    · have eg : gvn (c :: g) = gvn g := by unfold gvn; rw [List.filter_cons_of_neg (p := fun c : MC => c.2.giv) (fun z => e (of_decide_eq_true z))]
      rw [if_neg e, ih, eg]
      congr 1
      omega
theorem whoG_P {rest : List MC} {q : Int} {k : Nat} (hr : row[k]? = some q) : ∀ {P : List MC} {p : Int} {i : Nat}, (∀ c ∈ P, c.1 = q) → (whoG row p i (P ++ rest)).map keyW = (seenC k p ((P.filter nfC).map (·.2))).1.map (keyS row) ++ (if (seenC k p ((P.filter nfC).map (·.2))).2.2 = true then [] else (whoG row (seenC k p ((P.filter nfC).map (·.2))).2.1 (i + P.length) rest).map keyW)
  | [], p, i, _ => rfl
  | c :: P, p, i, h => by
    have hc := h c List.mem_cons_self
    have ih := fun p i => whoG_P hr (rest := rest) (P := P) (p := p) (i := i) fun d hd => h d (List.mem_cons_of_mem _ hd)
    rw [List.cons_append, whoG, List.length_cons]
    by_cases ef : c.2.mark = "freed"
    · have e1 : c.2.mark ≠ "open" := by rw [ef]; decide
      have e2 : c.2.mark ≠ "given" := by rw [ef]; decide
      rw [if_neg e1, if_neg e2, List.filter_cons_of_neg (show ¬ nfC c = true from fun z => of_decide_eq_true z ef), ih]
      congr 4
      omega
    · rw [List.filter_cons_of_pos (show nfC c = true from decide_eq_true ef), List.map_cons, seenC]
      by_cases eo : c.2.mark = "open"
      · rw [if_pos eo, if_pos eo]
        rfl
      · rw [if_neg eo, if_neg eo]
        by_cases eg : c.2.mark = "given"
        · rw [if_pos eg, if_pos eg, if_pos (by rw [hc]; exact List.mem_of_getElem? hr), List.map_append, ih]
          have : [((p, i, c) : Wn)].map keyW = [keyS row (p, k, c.2)] := by
            show [keyW (p, i, c)] = _
            unfold keyW keyS
            rw [hr, hc]
          rw [this, show i + 1 + P.length = i + (P.length + 1) by omega]
          rfl
        · rw [if_neg eg, if_neg eg, ih, show i + 1 + P.length = i + (P.length + 1) by omega]
theorem seen_who : ∀ {sg : List Sg} {p : Int} {k i : Nat}, row.drop k = sg.map Sg.p → (∀ s ∈ sg, ∀ c ∈ s.P, c.1 = s.p) → (∀ s ∈ sg, ∀ c ∈ s.g, c.1 ∉ row ∧ c.2.mark ≠ ("open" : Str)) → (seenB p k (sg.map Sg.pg)).map (keyS row) = (whoG row p i (allS sg)).map keyW
  | [], _, _, _, _, _, _ => rfl
  | s :: r, p, k, i, hr, h1, h2 => by
    rw [List.map_cons, seenB, allS_cons, List.append_assoc, whoG_g (h2 s List.mem_cons_self)]
    have hk : row[k]? = some s.p := by
      have : (row.drop k)[0]? = some s.p := by rw [hr]; rfl
      rwa [List.getElem?_drop, Nat.add_zero] at this
    have hr' : row.drop (k + 1) = r.map Sg.p := by
      have : (row.drop k).drop 1 = r.map Sg.p := by rw [hr]; rfl
      rwa [List.drop_drop] at this
    rw [whoG_P hk (h1 s List.mem_cons_self)]
    show List.map _ (if (seenC k (p + gvn s.g) ((s.P.filter nfC).map (·.2))).2.2 = true then _ else _) = _
    split
    · rename_i hq
      show List.map _ (seenC k (p + gvn s.g) ((s.P.filter nfC).map (·.2))).1 = _
      rw [List.append_nil]
    · rw [List.map_append, seen_who (i := i + s.g.length + s.P.length) hr' (fun u hu => h1 u (List.mem_cons_of_mem _ hu)) fun u hu => h2 u (List.mem_cons_of_mem _ hu)]
      rfl
theorem Bis.seen (B : Bis room most over sg l m) : (seenL l).map (keyS m.row) = (wholeM m).map keyW := by
  unfold seenL wholeM
  rw [B.book, B.all]
  refine seen_who (by rw [B.row]; rfl) B.ok.pgP ?_
  rw [B.row]
  exact B.ok.pgG
theorem toldT_congr : ∀ {zs ws : List Sn} {k : Int}, zs.map (fun z => (z.1, z.2.2)) = ws.map (fun z => (z.1, z.2.2)) → toldT k zs = toldT k ws
  | [], [], _, _ => rfl
  | [], _ :: _, _, h => by cases h
  | _ :: _, [], _, h => by cases h
  | z :: zs, w :: ws, k, h => by
    obtain ⟨h1, h2⟩ := List.cons.inj h
    have h1 : (z.1, z.2.2) = (w.1, w.2.2) := h1
    have e1 : z.1 = w.1 := (Prod.mk.inj h1).1
    have e2 : z.2.2 = w.2.2 := (Prod.mk.inj h1).2
    rw [toldT, toldT, e1, e2, toldT_congr h2, toldT_congr h2]
theorem Bis.toldE (B : Bis room most over sg l m) (k : Int) : toldT k (seenL l) = toldM k m := by
  unfold toldM
  refine toldT_congr ?_
  have := congrArg (List.map fun z : Int × Option Int × Clm => (z.1, z.2.2)) B.seen
  rw [List.map_map, List.map_map] at this
  rw [List.map_map]
  exact this
theorem toldT_nil {k : Int} : ∀ {zs : List Sn}, zs.filter (fun z => decide (k ≤ z.1)) = [] → toldT k zs = []
  | [], _ => rfl
  | z :: zs, h => by
    have hz := List.filter_eq_nil_iff.mp h
    have h1 : ¬ k ≤ z.1 := fun e => hz z List.mem_cons_self (decide_eq_true e)
    rw [toldT, if_neg h1]
    exact toldT_nil (List.filter_eq_nil_iff.mpr fun w hw => hz w (List.mem_cons_of_mem _ hw))
theorem toldT_cons {k : Int} {z : Sn} {r : List Sn} : ∀ {zs : List Sn}, zs.filter (fun z => decide (k ≤ z.1)) = z :: r → ∃ R, toldT k zs = (if k < z.1 then [.inl (z.1 - k)] else []) ++ .inr (z.1, z.2.2) :: R
  | [], h => by cases h
  | w :: zs, h => by
    rw [toldT]
    by_cases e : k ≤ w.1
    · rw [List.filter_cons_of_pos (by exact decide_eq_true e)] at h
      obtain ⟨rfl, _⟩ := List.cons.inj h
      rw [if_pos e]
      exact ⟨_, rfl⟩
    · rw [List.filter_cons_of_neg (by rw [decide_eq_false e]; exact Bool.false_ne_true)] at h
      rw [if_neg e]
      exact toldT_cons h
theorem whoG_ge : ∀ {cs : List MC} {p : Int} {i : Nat} {z : Wn}, z ∈ whoG row p i cs → p ≤ z.1
  | [], _, _, _, h => by cases h
  | c :: cs, p, i, z, h => by
    rw [whoG] at h
    split at h
    · cases h
    · split at h
      · rcases List.mem_append.mp h with h | h
        · split at h
          · rw [List.mem_singleton.mp h]; exact Int.le_refl _
          · cases h
        · have := whoG_ge h
          omega
      · exact whoG_ge h
theorem whoG_inc : ∀ {cs : List MC} {p : Int} {i : Nat}, ((whoG row p i cs).map (·.1)).Pairwise (· < ·)
  | [], _, _ => .nil
  | c :: cs, p, i => by
    rw [whoG]
    split
    · exact .nil
    · split
      · split
        · refine List.pairwise_cons.mpr ⟨fun q hq => ?_, whoG_inc⟩
          obtain ⟨z, hz, rfl⟩ := List.mem_map.mp hq
          have := whoG_ge hz
          show p < _
          omega
        · exact whoG_inc
      · exact whoG_inc
theorem pageOf_at {z : Wn} (h : z ∈ wholeM m) : pageOf z.1 m = z.2.2.1 := by
  have hin : ((wholeM m).map (·.1)).Pairwise (· < ·) := whoG_inc
  unfold pageOf
  obtain ⟨a, b, e⟩ := List.append_of_mem h
  rw [e, List.map_append, List.map_cons, List.pairwise_append] at hin
  have h1 : a.filter (fun w => decide (w.1 = z.1)) = [] := List.filter_eq_nil_iff.mpr fun w hw q => by
    have := hin.2.2 w.1 (List.mem_map_of_mem hw) z.1 List.mem_cons_self
    have := of_decide_eq_true q
    omega
  rw [e, List.filter_append, h1, List.nil_append, List.filter_cons_of_pos (by simp)]
  rfl
theorem filter_ge : ∀ {row : List Int} {i : Nat} {p : Int}, row.Pairwise (· < ·) → row[i]? = some p → row.filter (fun x => decide (p ≤ x)) = row.drop i
  | [], i, p, _, h => by rw [List.getElem?_nil] at h; cases h
  | x :: r, 0, p, hp, h => by
    cases h
    have h1 := (List.pairwise_cons.mp hp).1
    refine List.filter_eq_self.mpr fun y hy => ?_
    rcases List.mem_cons.mp hy with e | e
    · exact decide_eq_true (by omega)
    · exact decide_eq_true (by have := h1 y e; omega)
  | x :: r, i + 1, p, hp, h => by
    obtain ⟨h1, h2⟩ := List.pairwise_cons.mp hp
    have : x < p := h1 p (List.mem_of_getElem? (show r[i]? = some p from h))
    rw [List.filter_cons_of_neg (by rw [decide_eq_false (by omega)]; exact Bool.false_ne_true), List.drop_succ_cons]
    exact filter_ge h2 h
/-- the first j pages leave -/
def mergeN (j : Nat) (sg : List Sg) : List Sg := match sg.drop j with
  | x :: r => { x with g := allS (sg.take j) ++ x.g } :: r
  | [] => []
theorem mergeN_at {j : Nat} {x : Sg} (h : sg[j]? = some x) : mergeN j sg = { x with g := allS (sg.take j) ++ x.g } :: sg.drop (j + 1) := by
  obtain ⟨h1, h2⟩ := List.getElem?_eq_some_iff.mp h
  unfold mergeN
  rw [List.drop_eq_getElem_cons h1, h2]
theorem mergeN_zero (h : sg ≠ []) : mergeN 0 sg = sg := by
  cases sg with
  | nil => exact absurd rfl h
  | cons x r => rfl
theorem mergeN_step {j : Nat} (h : j + 1 < sg.length) : mergeAt 0 (mergeN j sg) = mergeN (j + 1) sg := by
  have h1 : sg[j]? = some sg[j] := List.getElem?_eq_getElem (by omega)
  have h2 : sg[j + 1]? = some sg[j + 1] := List.getElem?_eq_getElem h
  rw [mergeN_at h1, mergeN_at h2, List.drop_eq_getElem_cons h, List.take_add_one, h1, allS_app]
  show Sg.mk _ _ _ _ :: _ = _
  congr 1
  show Sg.mk (allS (sg.take j) ++ sg[j].g ++ sg[j].P ++ sg[j + 1].g) _ _ _ = Sg.mk (allS (sg.take j) ++ allS [sg[j]] ++ sg[j + 1].g) _ _ _
  rw [allS_cons]
  congr 2
  show _ = allS (sg.take j) ++ (sg[j].g ++ sg[j].P ++ [])
  rw [List.append_nil, List.append_assoc]
theorem mergeN_ok (O : SgOk sg pages) (l1 : Ln) (hb : l1.book = sg.map Sg.pg) : ∀ {i : Nat}, i < sg.length → (∀ j s, j < i → sg[j]? = some s → ∀ c ∈ s.P, c.2.mark ≠ ("open" : Str)) → SgOk (mergeN i sg) pages ∧ (leaveI i l1).book = (mergeN i sg).map Sg.pg ∧ allS (mergeN i sg) = allS sg ∧ (mergeN i sg).map Sg.p = (sg.map Sg.p).drop i
  | 0, _, _ => by
    rw [mergeN_zero O.ne]
    exact ⟨O, hb, rfl, rfl⟩
  | i + 1, h, ho => by
    obtain ⟨O1, e1, e2, e3⟩ := mergeN_ok O l1 hb (i := i) (by omega) fun j s hj => ho j s (by omega)
    have h1 : sg[i]? = some sg[i] := List.getElem?_eq_getElem (by omega)
    have hl : 0 + 1 < (mergeN i sg).length := by
      rw [mergeN_at h1, List.length_cons, List.length_drop]
      omega
    have h0 : (mergeN i sg)[0]? = some { sg[i] with g := allS (sg.take i) ++ sg[i].g } := by rw [mergeN_at h1]; rfl
    have O2 := O1.merge hl h0 (ho i sg[i] (by omega) h1)
    rw [← mergeN_step h]
    refine ⟨O2, ?_, (mergeAt_all hl).trans e2, ?_⟩
    · show leaveB 0 (leaveI i l1).book = _
      rw [e1, mergeAt_pg hl]
    · rw [mergeAt_row hl, e3, List.eraseIdx_zero, List.tail_drop]
def holdS (sg : List Sg) : List Sg := match sg with
  | s :: r => { s with h := true } :: r
  | [] => []
theorem SgOk.hold (O : SgOk sg pages) : SgOk (holdS sg) pages ∧ allS (holdS sg) = allS sg ∧ (holdS sg).map Sg.p = sg.map Sg.p ∧ (holdS sg).map Sg.pg = heldB (sg.map Sg.pg) := by
  cases sg with
  | nil => exact absurd rfl O.ne
  | cons s r =>
    refine ⟨⟨by simp [holdS], fun u hu => ?_, fun u hu => ?_, O.inc, O.pos, O.lt, O.tl, O.tks, O.vals⟩, rfl, rfl, rfl⟩
    · rcases List.mem_cons.mp hu with e | e
      · subst e; exact O.pgP s List.mem_cons_self
      · exact O.pgP u (List.mem_cons_of_mem _ e)
    · rcases List.mem_cons.mp hu with e | e
      · subst e; exact O.pgG s List.mem_cons_self
      · exact O.pgG u (List.mem_cons_of_mem _ e)
theorem Bis.take (B : Bis room most over sg l m) : ∃ sg', Bis room most over sg' (takeL l).2 (takesM m).2 ∧ (takeL l).1 = (takesM m).1 := by
  obtain ⟨hd, bs, I⟩ := B.inv
  obtain ⟨hd', bs', J, _⟩ := I.take
  have hE := B.toldE l.coming
  rw [← B.told] at hE
  unfold takeL at J ⊢
  unfold takesM
  cases e : dueL l with
  | nil =>
    rw [e] at J
    have hnil : toldM m.told m = [] := by rw [← hE, B.told]; exact toldT_nil e
    rw [hnil]
    exact ⟨sg, B, rfl⟩
  | cons z r =>
    obtain ⟨p, i, c⟩ := z
    rw [e] at J
    obtain ⟨R, hR⟩ := toldT_cons (k := l.coming) (zs := seenL l) e
    rw [← B.told, hE] at hR
    dsimp only at hR J ⊢
    have hle : l.coming ≤ p := of_decide_eq_true (List.mem_filter.mp (show (p, i, c) ∈ dueL l by rw [e]; exact List.mem_cons_self)).2
    by_cases hl : 0 < p - l.coming
    · rw [if_pos hl] at J ⊢
      rw [if_pos (by rw [B.told]; omega)] at hR
      rw [hR]
      dsimp only [List.cons_append]
      refine ⟨sg, { B with inv := ⟨_, _, J⟩, told := ?_ }, ?_⟩
      · show m.told + (p - m.told) = p
        omega
      · show _ = PyData.tuple [.str "lost", .int (p - m.told)]
        rw [B.told]
    · rw [if_neg hl] at J ⊢
      rw [if_neg (by rw [B.told]; omega), List.nil_append] at hR
      rw [hR]
      dsimp only
      have hi := dueL_at e
      have hzs : (p, i, c) ∈ seenL l := (List.mem_filter.mp (show (p, i, c) ∈ dueL l by rw [e]; exact List.mem_cons_self)).1
      have hno := fun j g hg hj => seenB_no (show (p, i, c) ∈ seenB 0 0 l.book from hzs) j g hg (show 0 + j < i by omega)
      have hlen : i < sg.length := by rw [← List.length_map (f := Sg.pg), ← B.book]; exact hi
      obtain ⟨w, hw, ew⟩ : ∃ w ∈ wholeM m, keyW w = keyS m.row (p, i, c) := by
        have : keyS m.row (p, i, c) ∈ (wholeM m).map keyW := by rw [← B.seen]; exact List.mem_map_of_mem hzs
        obtain ⟨w, h1, h2⟩ := List.mem_map.mp this
        exact ⟨w, h1, h2⟩
      have ew1 : w.1 = p := congrArg Prod.fst ew
      have ew2 : some w.2.2.1 = m.row[i]? := congrArg (fun z => z.2.1) ew
      have epg := pageOf_at hw
      rw [ew1] at epg
      have hsx : sg[i]? = some sg[i] := List.getElem?_eq_getElem hlen
      have ep : w.2.2.1 = sg[i].p := by
        rw [B.row, List.getElem?_map, hsx] at ew2
        exact Option.some.inj ew2
      rw [epg]
      generalize hl1 : ({ l with coming := p + 1 } : Ln) = l1 at J ⊢
      have hb1 : l1.book = sg.map Sg.pg := by rw [← hl1]; exact B.book
      obtain ⟨O1, e1, e2, e3⟩ := mergeN_ok B.ok l1 hb1 hlen fun j s hj hs c hc ho => by
        have hg : l.book[j]? = some s.pg := by rw [B.book, List.getElem?_map, hs]; rfl
        refine hno j s.pg hg (by omega) c.2 ?_ ho
        refine List.mem_map_of_mem (List.mem_filter.mpr ⟨hc, ?_⟩)
        unfold nfC
        rw [ho]
        decide
      obtain ⟨O2, e4, e5, e6⟩ := O1.hold
      obtain ⟨f1, f2, f3, f4, f5, f6⟩ := leaveI_f (l := l1) i
      obtain ⟨f7, f8, f9, f10, f11⟩ := leaveI_g l1 i
      have hrow : m.row.filter (fun x => decide (w.2.2.1 ≤ x)) = (holdS (mergeN i sg)).map Sg.p := by
        rw [e5, e3, ← B.row]
        refine filter_ge ?_ ew2.symm
        rw [B.row]
        exact B.ok.inc
      refine ⟨holdS (mergeN i sg), ⟨⟨_, _, J⟩, O2, ?_, ?_, hrow, ?_, ?_, ?_, ?_, ?_, ?_, ?_, ?_, ?_, ?_, ?_, ?_, ?_, B.opn, B.cnt⟩, rfl⟩
      · show heldB (leaveI i l1).book = _
        rw [e1, e6]
      · show m.all = _
        rw [e4, e2, B.all]
      · show w.2.2.1 = _
        rw [ep, mergeN_at hsx]
        rfl
      · show m.most = (leaveI i l1).most; rw [f1, ← hl1]; exact B.most
      · show m.room = (leaveI i l1).room; rw [f2, ← hl1]; exact B.room
      · show m.over = (leaveI i l1).over; rw [f3, ← hl1]; exact B.over
      · show m.pile = (leaveI i l1).pile; rw [f4, ← hl1]; exact B.pile
      · show m.given = (leaveI i l1).given; rw [f7, ← hl1]; exact B.given
      · show m.back = (leaveI i l1).back; rw [f8, ← hl1]; exact B.back
      · show m.gone = (leaveI i l1).gone; rw [f9, ← hl1]; exact B.gone
      · show m.missed = (leaveI i l1).missed; rw [f10, ← hl1]; exact B.missed
      · show p + 1 = (leaveI i l1).coming; rw [f11, ← hl1]
      · show m.tickets = (leaveI i l1).last; rw [f5, ← hl1]; exact B.tix
      · show m.time = (leaveI i l1).latest; rw [f6, ← hl1]; exact B.time
      · show ∀ c ∈ m.all, _ ≤ (leaveI i l1).last; rw [f5, ← hl1]; exact B.tkl
theorem Bis.start (hm : 2 ≤ most) (hr : 0 ≤ room) : Bis room most over [⟨[], 0, [], false⟩] (newLn most room over) (emptyM most room over) where
  inv := ⟨_, _, MInv.start hm hr⟩
  ok := ⟨by simp, fun s hs c hc => (by rw [List.mem_singleton.mp hs] at hc; cases hc), fun s hs c hc => (by rw [List.mem_singleton.mp hs] at hc; cases hc), List.pairwise_singleton _ _, fun p hp => (by rw [List.mem_singleton.mp hp]; show 0 ≤ (0 : Int) ∧ (0 : Int) < 1; omega), fun c hc => (by cases hc), fun s hs => (by cases hs), .nil, fun c hc => (by cases hc)⟩
  book := rfl
  all := rfl
  row := rfl
  held := rfl
  most := rfl
  room := rfl
  over := rfl
  pile := rfl
  given := rfl
  back := rfl
  gone := rfl
  missed := rfl
  told := rfl
  tix := rfl
  time := rfl
  tkl := fun c hc => by cases hc
  opn := rfl
  cnt := Int.le_refl _
theorem Bis.uses (B : Bis room most over sg l m) : usesL l = m.row.map fun p => usedM p m := by
  unfold usesL
  rw [B.book, B.row, List.map_map, List.map_map]
  exact List.map_congr_left fun s hs => (B.used hs).symm
theorem Bis.few (B : Bis room most over sg l m) (hm : most ≤ 16) (h : l.last ≤ 1000) : m.few := by
  obtain ⟨hd, bs, I⟩ := B.inv
  have h1 := B.cnt
  rw [B.tix] at h1
  have h2 := I.len.1
  have h3 : m.row.length = l.book.length := by rw [B.row, B.book, List.length_map, List.length_map]
  have h4 : m.pile.length ≤ m.all.length := by rw [← B.opn, List.length_map]; exact List.length_filter_le _ _
  refine ⟨by omega, by omega, by omega, fun c hc => ?_⟩
  obtain ⟨v1, v2, _⟩ := B.ok.vals c (by rw [← B.all]; exact hc)
  omega
theorem Bis.row_ne (B : Bis room most over sg l m) : m.row ≠ [] := by
  rw [B.row]
  intro e
  exact B.ok.ne (List.map_eq_nil_iff.mp e)
end
end Ls
-- own part: m12
namespace Ls
open PySem PySem.Spec PyProof.Rows L2
/-! ### a claim thrown back -/
section
variable {room most : Int} {over : Bool} {sg : List Sg} {l : Ln} {m : MM} {k : Kd} {t n pages : Int} {s : Sg}
theorem updM_two (n : Int) (a b : Str) (c : MC) : updM n (mkF b) (updM n (mkF a) c) = updM n (mkF b) c := by
  unfold updM updC
  by_cases e : c.2.tick = n
  · rw [if_pos e, if_pos (show (mkF a c.2).tick = n from e), if_pos e]
    rfl
  · rw [if_neg e, if_neg e]
theorem updM_id {f : Clm → Clm} {c : MC} (h : c.2.tick ≠ n) : updM n f c = c := by
  unfold updM updC
  rw [if_neg h]
theorem map_updM_id {f : Clm → Clm} {cs : List MC} (h : ∀ c ∈ cs, c.2.tick ≠ n) : cs.map (updM n f) = cs := by
  have : cs.map (updM n f) = cs.map id := List.map_congr_left fun c hc => updM_id (h c hc)
  rw [this, List.map_id]
/-- the last that stands is freed -/
theorem freed_last {P A : List MC} {d : MC} (tk : (P.map fun c => c.2.tick).Pairwise (· < ·)) (e : P.filter nfC = A ++ [d]) (hd : d.2.tick = n) : (P.map (updM n (mkF "freed"))).filter nfC = A := by
  have h1 : (P.filter (nfC ∘ updM n (mkF "freed"))) = (P.filter nfC).filter fun c => decide (c.2.tick ≠ n) := by
    rw [List.filter_filter]
    refine List.filter_congr fun c _ => ?_
    show nfC (updM n (mkF "freed") c) = _
    by_cases q : c.2.tick = n
    · rw [decide_eq_false (not_not_intro q), Bool.false_and]
      unfold nfC updM updC
      rw [if_pos q]
      exact decide_eq_false (not_not_intro rfl)
    · rw [updM_id q, decide_eq_true q, Bool.true_and]
  have tk2 : ((A ++ [d]).map fun c => c.2.tick).Pairwise (· < ·) := by
    rw [← e]
    exact tk.sublist (List.Sublist.map _ List.filter_sublist)
  rw [List.map_append, List.pairwise_append] at tk2
  have hA : ∀ c ∈ A, c.2.tick ≠ n := fun c hc z => by
    have := tk2.2.2 c.2.tick (List.mem_map_of_mem (f := fun c : MC => c.2.tick) hc) d.2.tick List.mem_cons_self
    omega
  rw [List.filter_map, h1, e, List.filter_append, List.filter_eq_self.mpr fun c hc => decide_eq_true (hA c hc), List.filter_cons_of_neg (by rw [hd]; simp), List.filter_nil, List.append_nil, map_updM_id hA]
theorem popHead_snoc {X : List Pg} {g : Pg} : popHead n (X ++ [g]) = match g.clms[g.clms.length - 1]? with
    | some c => if c.tick = n then X ++ [{ g with clms := g.clms.dropLast }] else X ++ [g]
    | none => X ++ [g] := by
  have h1 : (X ++ [g])[(X ++ [g]).length - 1]? = some g := by
    rw [List.length_append, List.length_singleton, Nat.add_sub_cancel, List.getElem?_append_right (Nat.le_refl _), Nat.sub_self]
    rfl
  unfold popHead
  rw [h1]
  dsimp only
  cases g.clms[g.clms.length - 1]? with
  | none => rfl
  | some c =>
    dsimp only
    split
    · rw [List.length_append, List.length_singleton, Nat.add_sub_cancel, List.set_append_right _ _ (Nat.le_refl _), Nat.sub_self]
      rfl
    · rfl
theorem Bis.throw {i j : Nat} {r : List (Nat × Nat)} {q : Nat} {c : MC} (B : Bis room most over sg l m) (h : l.pile = l.pile.dropLast ++ [n]) (hs : spotsB n l.book = (i, j) :: r) (hf : FirstC n m.all q c) :
    ∃ sg' mk, (mk = "thrown" ∨ mk = "freed") ∧ Bis room most over sg' (throwL i j n l) { m with all := setAt q (mkMC mk) m.all, pile := m.pile.dropLast, back := m.back + 1 } := by
  obtain ⟨sg1, B1, e1⟩ := B.close (mk := "thrown") h hs hf (by decide) (by decide)
  obtain ⟨hd, bs, I⟩ := B.inv
  have J := I.throw h hs
  have hn : n ∈ l.pile := by rw [h]; exact List.mem_append_right _ List.mem_cons_self
  obtain ⟨X, x, ex⟩ : ∃ X x, sg1 = X ++ [x] := ⟨_, _, (List.dropLast_concat_getLast B1.ok.ne).symm⟩
  have eb : (throwL i j n l).book = popHead n (X.map Sg.pg ++ [x.pg]) := by
    show popHead n (closeL i j "thrown" l).book = _
    rw [B1.book, ex, List.map_append]
    rfl
  rw [popHead_snoc] at eb
  have keep : (throwL i j n l).book = X.map Sg.pg ++ [x.pg] → ∃ sg' mk, (mk = "thrown" ∨ mk = "freed") ∧ Bis room most over sg' (throwL i j n l) { m with all := setAt q (mkMC mk) m.all, pile := m.pile.dropLast, back := m.back + 1 } := fun eb => by
    refine ⟨sg1, "thrown", .inl rfl, ⟨⟨_, _, J⟩, B1.ok, ?_, B1.all, B1.row, B1.held, B1.most, B1.room, B1.over, B1.pile, B1.given, ?_, B1.gone, B1.missed, B1.told, B1.tix, B1.time, B1.tkl, B1.opn, B1.cnt⟩⟩
    · rw [eb, ex, List.map_append]
      rfl
    · show m.back + 1 = l.back + 1
      rw [B.back]
  cases ed : x.pg.clms[x.pg.clms.length - 1]? with
  | none =>
    rw [ed] at eb
    exact keep eb
  | some d =>
    rw [ed] at eb
    dsimp only at eb
    by_cases et : d.tick = n
    · rw [if_pos et] at eb
      have hl := (List.getElem?_eq_some_iff.mp ed).1
      have ec : x.pg.clms = (x.P.filter nfC).map (·.2) := rfl
      have hne : x.P.filter nfC ≠ [] := fun z => by rw [ec, z] at hl; simp at hl
      obtain ⟨A, w, ew⟩ : ∃ A w, x.P.filter nfC = A ++ [w] := ⟨_, _, (List.dropLast_concat_getLast hne).symm⟩
      have hw : w.2.tick = n := by
        rw [ec, ew, List.map_append] at ed
        have : (A.map (·.2) ++ [w].map (·.2))[(A.map (·.2) ++ [w].map (·.2)).length - 1]? = some w.2 := by
          rw [List.length_append, List.length_map, List.length_map, List.length_singleton, Nat.add_sub_cancel, List.getElem?_append_right (by rw [List.length_map]; exact Nat.le_refl _), List.length_map, Nat.sub_self]
          rfl
        rw [this] at ed
        rw [Option.some.inj ed]
        exact et
      have tks := B1.ok.tks
      rw [ex, allS_app, List.map_append] at tks
      have hwP : w ∈ x.P := (List.mem_filter.mp (show w ∈ x.P.filter nfC by rw [ew]; exact List.mem_append_right _ List.mem_cons_self)).1
      have hwx : w ∈ allS [x] := by rw [allS_cons]; exact List.mem_append_left _ (List.mem_append_right _ hwP)
      have tkP : (x.P.map fun c => c.2.tick).Pairwise (· < ·) := by
        have := (List.pairwise_append.mp tks).2.1
        refine this.sublist (List.Sublist.map _ ?_)
        rw [allS_cons]
        exact (List.sublist_append_right _ _).trans (List.sublist_append_left _ _)
      have hX : ∀ s ∈ X, ∀ c ∈ s.P, c.2.tick ≠ n := fun s hs' c hc z => by
        have := (List.pairwise_append.mp tks).2.2 c.2.tick (List.mem_map_of_mem (f := fun c : MC => c.2.tick) (List.mem_flatMap.mpr ⟨s, hs', List.mem_append_right _ hc⟩)) w.2.tick (List.mem_map_of_mem (f := fun c : MC => c.2.tick) hwx)
        omega
      obtain ⟨hp0, one0⟩ := B.onPage hn
      have hp1 : OnPage n sg1 := by
        rw [e1]
        intro s hs' c hc
        obtain ⟨s0, h0, rfl⟩ := List.mem_map.mp hs'
        exact hp0 s0 h0 c hc
      have tk := B.ok.tks
      rw [← B.all] at tk
      have ea1 : allS sg1 = m.all.map (updM n (mkF "thrown")) := by rw [← B1.all]; exact setAt_map (f := mkF "thrown") tk hf
      have ea2 : allS (updS n (mkF "freed") sg1) = setAt q (mkMC "freed") m.all := by
        rw [updS_all hp1, ea1, List.map_map, show setAt q (mkMC "freed") m.all = m.all.map (updM n (mkF "freed")) from setAt_map (f := mkF "freed") tk hf]
        exact List.map_congr_left fun c _ => updM_two n _ _ c
      refine ⟨updS n (mkF "freed") sg1, "freed", .inr rfl, ⟨⟨_, _, J⟩, B1.ok.upd (mkF_kp _) hp1 (fun c hc _ => (B1.ok.vals c hc).1), ?_, ea2.symm, ?_, ?_, B1.most, B1.room, B1.over, B1.pile, B1.given, ?_, B1.gone, B1.missed, B1.told, B1.tix, B1.time, ?_, ?_, ?_⟩⟩
      · rw [eb, ex]
        unfold updS
        rw [List.map_append, List.map_append, List.map_map]
        congr 1
        · refine List.map_congr_left fun s hs' => ?_
          show s.pg = Sg.pg { s with P := s.P.map (updM n (mkF "freed")) }
          rw [map_updM_id (hX s hs')]
        · show [_] = [Sg.pg _]
          congr 1
          show ({ x.pg with clms := x.pg.clms.dropLast } : Pg) = Pg.mk _ (((x.P.map (updM n (mkF "freed"))).filter nfC).map (·.2)) _
          rw [freed_last tkP ew hw, ec, ew, List.map_append, List.map_cons, List.map_nil, List.dropLast_concat]
          rfl
      · show m.row = _
        rw [updS_row]
        exact B1.row
      · show m.held = _
        rw [updS_held]
        exact B1.held
      · show m.back + 1 = l.back + 1
        rw [B.back]
      · show ∀ c ∈ setAt q (mkMC "freed") m.all, c.2.tick ≤ l.last
        rw [← ea2, updS_all hp1]
        intro c hc
        obtain ⟨y, hy, rfl⟩ := List.mem_map.mp hc
        rw [show (updM n (mkF "freed") y).2.tick = y.2.tick from updC_tick (mkF_kp _) y.2]
        exact B1.tkl y (by rw [B1.all]; exact hy)
      · show ((setAt q (mkMC "freed") m.all).filter fun c => c.2.opn).map (fun c => c.2.tick) = m.pile.dropLast
        rw [← ea2, updS_all hp1, List.filter_map, List.map_map, show ((fun c : MC => c.2.tick) ∘ updM n (mkF "freed")) = fun c => c.2.tick from funext fun c => updC_tick (mkF_kp _) c.2]
        have := B1.opn
        rw [B1.all] at this
        refine Eq.trans ?_ this
        congr 1
        refine List.filter_congr fun c hc => ?_
        show (updM n (mkF "freed") c).2.opn = c.2.opn
        by_cases z : c.2.tick = n
        · rw [ea1] at hc
          obtain ⟨y, hy, rfl⟩ := List.mem_map.mp hc
          have zy : y.2.tick = n := by rw [← z]; exact (updC_tick (mkF_kp _) y.2).symm
          unfold updM updC
          rw [if_pos zy, if_pos (show (mkF "thrown" y.2).tick = n from zy)]
          rfl
        · rw [updM_id z]
      · show ((setAt q (mkMC "freed") m.all).length : Int) ≤ m.tickets
        rw [← ea2, updS_all hp1, List.length_map, ← B1.all]
        exact B1.cnt
    · rw [if_neg et] at eb
      exact keep eb
end
end Ls
-- own part: m13
namespace Ls
open PySem PySem.Spec PyProof.Rows L2
/-! ### the plain row: what is taken, what is lost, what is given in -/
/-- the times of what was given in ahead of the first open claim -/
def clT : List MC → List Int
  | [] => []
  | c :: cs => if c.2.mark = "open" then [] else if c.2.mark = "given" then c.2.time :: clT cs else clT cs
def gvS (row : List Int) (cs : List MC) : Nat := (cs.filter fun c => c.2.giv && decide (c.1 ∈ row)).length
def tkM (m : MM) : Nat := ((wholeM m).filter fun z => decide (z.1 < m.told)).length
structure CI (taken : Int) (m : MM) : Prop where
  cnt : taken + m.gone + gvS m.row m.all = m.given + tkM m
  giv : m.given = gvn m.all
  hold : ∀ z ∈ wholeM m, z.1 < m.told → z.2.2.1 = m.held
  le : m.told ≤ (clT m.all).length
  ge : 0 ≤ m.told
section
variable {room most : Int} {over : Bool} {sg : List Sg} {l : Ln} {m : MM} {k : Kd} {t n pages : Int} {s : Sg} {row row' : List Int} {tk : Int}
theorem clT_who : ∀ {cs : List MC} {p : Int} {i : Nat} {z : Wn}, z ∈ whoG row p i cs → ∃ j : Nat, z.1 = p + j ∧ (clT cs)[j]? = some z.2.2.2.time ∧ z.2.2 ∈ cs ∧ z.2.2.1 ∈ row ∧ z.2.2.2.mark = "given"
  | [], _, _, _, h => by cases h
  | c :: cs, p, i, z, h => by
    rw [whoG] at h
    rw [clT]
    by_cases e1 : c.2.mark = "open"
    · rw [if_pos e1] at h
      cases h
    · rw [if_neg e1] at h ⊢
      by_cases e2 : c.2.mark = "given"
      · rw [if_pos e2] at h ⊢
        rcases List.mem_append.mp h with h | h
        · split at h
          · rename_i hr
            rw [List.mem_singleton.mp h]
            exact ⟨0, by simp, rfl, List.mem_cons_self, hr, e2⟩
          · cases h
        · obtain ⟨j, h1, h2, h3, h4⟩ := clT_who h
          exact ⟨j + 1, by rw [h1]; push_cast; omega, h2, List.mem_cons_of_mem _ h3, h4⟩
      · rw [if_neg e2] at h ⊢
        obtain ⟨j, h1, h2, h3, h4⟩ := clT_who h
        exact ⟨j, h1, h2, List.mem_cons_of_mem _ h3, h4⟩
theorem clT_snoc {c : MC} (h : c.2.mark = "open") : ∀ cs : List MC, clT (cs ++ [c]) = clT cs
  | [] => by
    show clT [c] = []
    rw [clT, if_pos h]
  | d :: cs => by rw [List.cons_append, clT, clT, clT_snoc h cs]
theorem who_snoc {c : MC} (h : c.2.mark = "open") : ∀ (cs : List MC) (p : Int) (i : Nat), whoG row p i (cs ++ [c]) = whoG row p i cs
  | [], p, i => by
    show whoG row p i [c] = []
    rw [whoG, if_pos h]
  | d :: cs, p, i => by rw [List.cons_append, whoG, whoG, who_snoc h cs, who_snoc h cs]
theorem close_who {c c' : MC} (ho : c.2.mark = "open") (hc : c'.2.mark ≠ "open") : ∀ {cs : List MC} {q : Nat} {p : Int} {i : Nat}, cs[q]? = some c → ∃ R T, whoG row p i (cs.set q c') = whoG row p i cs ++ R ∧ (∀ z ∈ R, p + (clT cs).length ≤ z.1) ∧ clT (cs.set q c') = clT cs ++ T
  | [], q, p, i, h => by cases h
  | d :: cs, 0, p, i, h => by
    cases h
    refine ⟨whoG row p i (c' :: cs), clT (c' :: cs), ?_, fun z hz => ?_, ?_⟩
    · rw [List.set_cons_zero, whoG, whoG.eq_2 (c := c), if_pos ho, List.nil_append]
    · rw [clT, if_pos ho]
      have := whoG_ge hz
      show p + 0 ≤ _
      omega
    · rw [List.set_cons_zero, clT.eq_2 (c := c), if_pos ho, List.nil_append]
  | d :: cs, q + 1, p, i, h => by
    rw [List.set_cons_succ, whoG, whoG, clT, clT]
    by_cases e1 : d.2.mark = "open"
    · rw [if_pos e1, if_pos e1, if_pos e1, if_pos e1]
      exact ⟨[], [], rfl, (fun z hz => by cases hz), rfl⟩
    · rw [if_neg e1, if_neg e1, if_neg e1, if_neg e1]
      by_cases e2 : d.2.mark = "given"
      · rw [if_pos e2, if_pos e2, if_pos e2, if_pos e2]
        obtain ⟨R, T, h1, h2, h3⟩ := close_who ho hc (p := p + 1) (i := i + 1) (show cs[q]? = some c from h)
        refine ⟨R, T, by rw [h1, List.append_assoc], fun z hz => ?_, by rw [h3]; rfl⟩
        have := h2 z hz
        rw [List.length_cons]
        push_cast
        omega
      · rw [if_neg e2, if_neg e2, if_neg e2, if_neg e2]
        exact close_who ho hc (p := p) (i := i + 1) (show cs[q]? = some c from h)
theorem who_row {f : Int → Bool} : ∀ {cs : List MC} {p : Int} {i : Nat}, (∀ c ∈ cs, c.1 ∈ row' ↔ (c.1 ∈ row ∧ f c.1 = true)) → whoG row' p i cs = (whoG row p i cs).filter fun z => f z.2.2.1
  | [], _, _, _ => rfl
  | c :: cs, p, i, h => by
    have ih := fun p i => who_row (f := f) (cs := cs) (p := p) (i := i) fun d hd => h d (List.mem_cons_of_mem _ hd)
    have hc := h c List.mem_cons_self
    rw [whoG, whoG]
    by_cases e1 : c.2.mark = "open"
    · rw [if_pos e1, if_pos e1]
      rfl
    · rw [if_neg e1, if_neg e1]
      by_cases e2 : c.2.mark = "given"
      · rw [if_pos e2, if_pos e2, List.filter_append, ih]
        congr 1
        by_cases e3 : c.1 ∈ row
        · rw [if_pos e3]
          by_cases e4 : f c.1 = true
          · rw [if_pos (hc.mpr ⟨e3, e4⟩), List.filter_cons_of_pos (by exact e4)]
            rfl
          · rw [if_neg (fun z => e4 (hc.mp z).2), List.filter_cons_of_neg (by exact e4)]
            rfl
        · rw [if_neg e3, if_neg (fun z => e3 (hc.mp z).1)]
          rfl
      · rw [if_neg e2, if_neg e2, ih]
/-- counting, by parts -/
theorem cnt_split {α : Type} (p q : α → Bool) : ∀ xs : List α, (xs.filter p).length = (xs.filter fun x => p x && q x).length + (xs.filter fun x => p x && !q x).length
  | [] => rfl
  | x :: xs => by
    have ih := cnt_split p q xs
    rw [List.filter_cons, List.filter_cons, List.filter_cons]
    cases p x <;> cases q x <;> simp only [Bool.and_true, Bool.and_false, Bool.false_and, Bool.true_and, Bool.not_true, Bool.not_false, if_true, if_false, Bool.false_eq_true, List.length_cons, ih] <;> omega
theorem cnt_set {α : Type} {p : α → Bool} {c c' : α} (h0 : p c = false) : ∀ {xs : List α} {q : Nat}, xs[q]? = some c → ((xs.set q c').filter p).length = (xs.filter p).length + (if p c' = true then 1 else 0)
  | [], q, h => by cases h
  | x :: xs, 0, h => by
    cases h
    rw [List.set_cons_zero, List.filter_cons_of_neg (a := c) (by rw [h0]; exact Bool.false_ne_true), List.filter_cons]
    split <;> simp
  | x :: xs, q + 1, h => by
    have ih := cnt_set (c' := c') h0 (show xs[q]? = some c from h)
    rw [List.set_cons_succ, List.filter_cons, List.filter_cons]
    split
    · rw [List.length_cons, List.length_cons, ih]
      omega
    · exact ih
theorem CI.push (C : CI tk m) (k : Kd) (t : Int) : CI tk (pushM k t m) := by
  have hb : (Clm.mk m.tickets t k (lows k) "open").giv = false := by
    show decide (("open" : Str) = "given") = false
    decide +kernel
  have ew : wholeM (pushM k t m) = wholeM m := who_snoc rfl _ _ _
  have e1 : gvS (pushM k t m).row (pushM k t m).all = gvS m.row m.all := by
    show (List.filter _ (m.all ++ [_])).length = _
    rw [List.filter_append, List.filter_cons_of_neg (by show ¬ (Clm.giv _ && _) = true; rw [hb]; simp), List.filter_nil, List.append_nil]
    rfl
  have e2 : gvn (pushM k t m).all = gvn m.all := by
    show gvn (m.all ++ [_]) = _
    rw [gvn_app]
    unfold gvn
    rw [List.filter_cons_of_neg (by show ¬ Clm.giv _ = true; rw [hb]; simp)]
    rfl
  refine ⟨?_, ?_, ?_, ?_, C.ge⟩
  · rw [e1]
    unfold tkM
    rw [ew]
    exact C.cnt
  · rw [e2]
    exact C.giv
  · rw [ew]
    exact C.hold
  · show m.told ≤ (clT (m.all ++ [_])).length
    rw [clT_snoc rfl]
    exact C.le
theorem gvS_row {f : Int → Bool} {cs : List MC} (h : ∀ c ∈ cs, c.1 ∈ row' ↔ (c.1 ∈ row ∧ f c.1 = true)) : gvS row cs = gvS row' cs + (cs.filter fun c => (c.2.giv && decide (c.1 ∈ row)) && !f c.1).length := by
  unfold gvS
  rw [cnt_split (fun c : MC => c.2.giv && decide (c.1 ∈ row)) (fun c => f c.1)]
  congr 2
  refine List.filter_congr fun c hc => ?_
  rw [Bool.and_assoc]
  congr 1
  rw [← Bool.decide_eq_true (b := f c.1), ← Bool.decide_and]
  exact decide_eq_decide.mpr (h c hc).symm
/-- a page leaves, a new one comes -/
theorem CI.turn (C : CI tk m) (h2 : 2 ≤ m.most) (nd : m.row.Nodup) (lt : ∀ c ∈ m.all, c.1 < m.pages) : CI tk (turnsM m).2 := by
  unfold turnsM
  by_cases hb : blockedM m = true
  · rw [if_pos hb]
    exact C
  rw [if_neg hb]
  unfold turn0M
  by_cases hm : m.most ≤ ((freeM m).length : Nat)
  · rw [if_pos hm]
    have key : ∀ fp, fp ∈ m.row → fp ≠ m.held → CI tk { m with row := m.row.erase fp ++ [m.pages], pages := m.pages + 1, gone := m.gone + evM fp m } := fun fp hf hh => by
      have hr : ∀ c ∈ m.all, c.1 ∈ m.row.erase fp ++ [m.pages] ↔ (c.1 ∈ m.row ∧ decide (c.1 ≠ fp) = true) := fun c hc => by
        have := lt c hc
        rw [List.mem_append, List.mem_singleton, nd.mem_erase_iff, decide_eq_true_eq]
        constructor
        · rintro (⟨a, b⟩ | a)
          · exact ⟨b, a⟩
          · omega
        · rintro ⟨a, b⟩
          exact .inl ⟨b, a⟩
      have ew : whoG (m.row.erase fp ++ [m.pages]) 0 0 m.all = (wholeM m).filter fun z => decide (z.2.2.1 ≠ fp) := who_row (f := fun p => decide (p ≠ fp)) hr
      have eg := gvS_row (f := fun p => decide (p ≠ fp)) hr
      have ee : (m.all.filter fun c => (c.2.giv && decide (c.1 ∈ m.row)) && !decide (c.1 ≠ fp)).length = evM fp m := by
        unfold evM
        congr 1
        refine List.filter_congr fun c _ => ?_
        by_cases e : c.1 = fp
        · rw [decide_eq_false (not_not_intro e), decide_eq_true e, decide_eq_true (by rw [e]; exact hf)]
          show ((c.2.giv && true) && !false) = (true && c.2.giv)
          cases c.2.giv <;> rfl
        · rw [decide_eq_true e, decide_eq_false e]
          simp
      have et : ((whoG (m.row.erase fp ++ [m.pages]) 0 0 m.all).filter fun z => decide (z.1 < m.told)).length = tkM m := by
        unfold tkM
        rw [ew, List.filter_filter]
        congr 1
        refine List.filter_congr fun z hz => ?_
        by_cases e : z.1 < m.told
        · rw [decide_eq_true e, C.hold z hz e, decide_eq_true (show m.held ≠ fp from fun q => hh q.symm)]
          rfl
        · rw [decide_eq_false e]
          rfl
      refine ⟨?_, C.giv, fun z hz h => ?_, C.le, C.ge⟩
      · show tk + (m.gone + evM fp m) + gvS (m.row.erase fp ++ [m.pages]) m.all = m.given + (((whoG (m.row.erase fp ++ [m.pages]) 0 0 m.all).filter fun z => decide (z.1 < m.told)).length : Nat)
        rw [et]
        have := C.cnt
        rw [ee] at eg
        omega
      · have hz : z ∈ whoG (m.row.erase fp ++ [m.pages]) 0 0 m.all := hz
        rw [ew] at hz
        exact C.hold z (List.mem_filter.mp hz).1 h
    cases ef : freeM m with
    | nil =>
      rw [ef, List.length_nil] at hm
      omega
    | cons fp r =>
      have hfm : fp ∈ freeM m := by rw [ef]; exact List.mem_cons_self
      obtain ⟨h1, h2⟩ := List.mem_filter.mp hfm
      exact key fp h1 (of_decide_eq_true h2)
  · rw [if_neg hm]
    have hr : ∀ c ∈ m.all, c.1 ∈ m.row ++ [m.pages] ↔ (c.1 ∈ m.row ∧ (fun _ : Int => true) c.1 = true) := fun c hc => by
      have := lt c hc
      rw [List.mem_append, List.mem_singleton]
      exact ⟨fun z => ⟨z.elim id fun q => by omega, rfl⟩, fun z => .inl z.1⟩
    have ew : whoG (m.row ++ [m.pages]) 0 0 m.all = wholeM m := by
      rw [who_row (f := fun _ => true) hr]
      exact List.filter_eq_self.mpr fun _ _ => rfl
    have eg := gvS_row (f := fun _ => true) hr
    have ez : (m.all.filter fun c => (c.2.giv && decide (c.1 ∈ m.row)) && !(fun _ : Int => true) c.1).length = 0 := by
      rw [List.length_eq_zero_iff]
      exact List.filter_eq_nil_iff.mpr fun c _ => by simp
    rw [ez, Nat.add_zero] at eg
    refine ⟨?_, C.giv, fun z hz h => ?_, C.le, C.ge⟩
    · show tk + m.gone + gvS (m.row ++ [m.pages]) m.all = m.given + (((whoG (m.row ++ [m.pages]) 0 0 m.all).filter fun z => decide (z.1 < m.told)).length : Nat)
      rw [ew, ← eg]
      exact C.cnt
    · have hz : z ∈ whoG (m.row ++ [m.pages]) 0 0 m.all := hz
      rw [ew] at hz
      exact C.hold z hz h
theorem CI.claim (C : CI tk m) (h2 : 2 ≤ m.most) (nd : m.row.Nodup) (lt : ∀ c ∈ m.all, c.1 < m.pages) (k : Kd) (t : Int) : CI tk (claimsM k t m).2 := by
  have C1 : CI tk (begM t m) := ⟨C.cnt, C.giv, C.hold, C.le, C.ge⟩
  unfold claimsM
  split
  · exact ⟨C.cnt, C.giv, C.hold, C.le, C.ge⟩
  · refine CI.push ?_ k t
    unfold turnedM
    split
    · exact C1.turn h2 nd lt
    · exact C1
/-- the last open claim is given in, or thrown back -/
theorem CI.close {q : Nat} {c : MC} {mk : Str} (C : CI tk m) (hq : m.all[q]? = some c) (ho : c.2.mark = "open") (hr : c.1 ∈ m.row) (hm : mk ≠ "open") (g : Int) (pl : List Int) (bk : Int) (hg : g = m.given + (if mk = "given" then 1 else 0)) :
    CI tk { m with all := setAt q (mkMC mk) m.all, pile := pl, given := g, back := bk } := by
  have ea : setAt q (mkMC mk) m.all = m.all.set q (mkMC mk c) := setAt_eq hq
  have hg0 : c.2.giv = false := by
    show decide (c.2.mark = "given") = false
    rw [ho]
    decide +kernel
  have hc' : (mkMC mk c).2.mark ≠ "open" := hm
  obtain ⟨R, T, h1, h2, h3⟩ := close_who (row := m.row) ho hc' (p := 0) (i := 0) hq
  have hw : ∀ z ∈ R, ¬ z.1 < m.told := fun z hz => by
    have := h2 z hz
    have := C.le
    omega
  have eS : gvS m.row (m.all.set q (mkMC mk c)) = gvS m.row m.all + (if mk = "given" then 1 else 0) := by
    unfold gvS
    rw [cnt_set (p := fun c : MC => c.2.giv && decide (c.1 ∈ m.row)) (c := c) (by show (c.2.giv && _) = false; rw [hg0]; rfl) hq]
    congr 1
    have e2 : ((mkMC mk c).2.giv && decide ((mkMC mk c).1 ∈ m.row)) = decide (mk = "given") := by
      show (decide (mk = "given") && decide (c.1 ∈ m.row)) = _
      rw [decide_eq_true hr, Bool.and_true]
    rw [e2]
    by_cases e : mk = "given"
    · rw [if_pos e, if_pos (decide_eq_true e)]
    · rw [if_neg e, if_neg (by rw [decide_eq_false e]; exact Bool.false_ne_true)]
  have eN : gvn (m.all.set q (mkMC mk c)) = gvn m.all + (if mk = "given" then 1 else 0) := by
    unfold gvn
    rw [cnt_set (p := fun c : MC => c.2.giv) (c := c) hg0 hq]
    congr 1
    by_cases e : mk = "given"
    · rw [if_pos e, if_pos (show Clm.giv _ = true from decide_eq_true e)]
    · rw [if_neg e, if_neg (show ¬ Clm.giv (mkMC mk c).2 = true from fun z => e (of_decide_eq_true (show decide (mk = ("given" : Str)) = true from z)))]
  have eT : ((whoG m.row 0 0 (m.all.set q (mkMC mk c))).filter fun z => decide (z.1 < m.told)).length = tkM m := by
    have er : R.filter (fun z => decide (z.1 < m.told)) = [] := List.filter_eq_nil_iff.mpr fun z hz => by rw [decide_eq_false (hw z hz)]; exact Bool.false_ne_true
    unfold tkM wholeM
    rw [h1, List.filter_append, er, List.append_nil]
  have hcn := C.cnt
  have hgv := C.giv
  refine ⟨?_, ?_, fun z hz h => ?_, ?_, C.ge⟩
  · show tk + m.gone + gvS m.row (setAt q (mkMC mk) m.all) = g + (((whoG m.row 0 0 (setAt q (mkMC mk) m.all)).filter fun z => decide (z.1 < m.told)).length : Nat)
    rw [ea, eT, eS, hg]
    by_cases e : mk = "given"
    · rw [if_pos e, if_pos e]
      push_cast
      omega
    · rw [if_neg e, if_neg e]
      push_cast
      omega
  · show g = gvn (setAt q (mkMC mk) m.all)
    rw [ea, eN, hg, hgv]
    by_cases e : mk = "given"
    · rw [if_pos e, if_pos e]
      push_cast
      rfl
    · rw [if_neg e, if_neg e]
      push_cast
      rfl
  · have hz : z ∈ whoG m.row 0 0 (setAt q (mkMC mk) m.all) := hz
    rw [ea, h1] at hz
    rcases List.mem_append.mp hz with w | w
    · exact C.hold z w h
    · exact absurd h (hw z w)
  · show m.told ≤ (clT (setAt q (mkMC mk) m.all)).length
    rw [ea, h3, List.length_append]
    have := C.le
    push_cast
    omega
/-- standing given ones of pages before w's: all of them are seen ahead of w -/
theorem vis_cnt {w : Wn} : ∀ {cs : List MC} {p : Int} {i : Nat}, (cs.filter fun c => decide (c.1 ∈ row)).Pairwise (fun a b => a.1 ≤ b.1) → w ∈ whoG row p i cs →
    (cs.filter fun c => (c.2.giv && decide (c.1 ∈ row)) && decide (c.1 < w.2.2.1)).length = ((whoG row p i cs).filter fun z => decide (z.2.2.1 < w.2.2.1) && decide (z.1 < w.1)).length
  | [], _, _, _, h => by cases h
  | c :: cs, p, i, mo, h => by
    have h0 := h
    rw [whoG] at h ⊢
    by_cases e1 : c.2.mark = "open"
    · rw [if_pos e1] at h
      cases h
    · rw [if_neg e1] at h ⊢
      have mo2 : (cs.filter fun c => decide (c.1 ∈ row)).Pairwise (fun a b => a.1 ≤ b.1) := by
        rw [List.filter_cons] at mo
        split at mo
        · exact (List.pairwise_cons.mp mo).2
        · exact mo
      by_cases e2 : c.2.mark = "given"
      · have hg : c.2.giv = true := decide_eq_true e2
        rw [if_pos e2] at h ⊢
        by_cases e3 : c.1 ∈ row
        · rw [if_pos e3] at h ⊢
          rw [List.filter_cons_of_pos (by exact decide_eq_true e3)] at mo
          have ge := (List.pairwise_cons.mp mo).1
          rcases List.mem_cons.mp (show w ∈ (p, i, c) :: whoG row (p + 1) (i + 1) cs from h) with hw | hw
          · have z1 : ((c :: cs).filter fun d => (d.2.giv && decide (d.1 ∈ row)) && decide (d.1 < w.2.2.1)) = [] := List.filter_eq_nil_iff.mpr fun d hd q => by
              rw [Bool.and_eq_true, Bool.and_eq_true] at q
              have lt := of_decide_eq_true q.2
              rw [hw] at lt
              rcases List.mem_cons.mp hd with e | e
              · rw [e] at lt
                exact absurd lt (Int.lt_irrefl _)
              · have := ge d (List.mem_filter.mpr ⟨e, q.1.2⟩)
                have lt : d.1 < c.1 := lt
                omega
            have z2 : (([(p, i, c)] ++ whoG row (p + 1) (i + 1) cs).filter fun z => decide (z.2.2.1 < w.2.2.1) && decide (z.1 < w.1)) = [] := List.filter_eq_nil_iff.mpr fun z hz q => by
              rw [Bool.and_eq_true] at q
              have lt := of_decide_eq_true q.2
              rw [hw] at lt
              have lt : z.1 < p := lt
              rcases List.mem_append.mp hz with e | e
              · rw [List.mem_singleton.mp e] at lt
                exact absurd lt (Int.lt_irrefl _)
              · have := whoG_ge e
                omega
            rw [z1, z2]
            rfl
          · have ih := vis_cnt (p := p + 1) (i := i + 1) mo2 hw
            have hp := whoG_ge hw
            rw [List.filter_cons, hg, decide_eq_true e3, List.singleton_append, List.filter_cons]
            have : decide ((p, i, c).1 < w.1) = true := decide_eq_true (show p < w.1 by omega)
            rw [this, Bool.and_true, Bool.and_true, Bool.true_and]
            show (if decide (c.1 < w.2.2.1) = true then _ else _ : List MC).length = (if decide (c.1 < w.2.2.1) = true then _ else _ : List Wn).length
            split
            · rw [List.length_cons, List.length_cons, ih]
            · exact ih
        · rw [if_neg e3, List.nil_append] at h ⊢
          rw [List.filter_cons_of_neg (by rw [decide_eq_false e3]; simp)]
          exact vis_cnt mo2 h
      · have hg : c.2.giv = false := decide_eq_false e2
        rw [if_neg e2] at h ⊢
        rw [List.filter_cons_of_neg (by rw [hg]; simp)]
        exact vis_cnt mo2 h
theorem SgOk.mono (O : SgOk sg pages) : ((allS sg).filter fun c => decide (c.1 ∈ sg.map Sg.p)).Pairwise (fun a b => a.1 ≤ b.1) := by
  have gen : ∀ r : List Sg, (∀ s ∈ r, s ∈ sg) → (r.map Sg.p).Pairwise (· < ·) → ((allS r).filter fun c => decide (c.1 ∈ sg.map Sg.p)).Pairwise (fun a b => a.1 ≤ b.1) ∧ ∀ c ∈ (allS r).filter fun c => decide (c.1 ∈ sg.map Sg.p), ∃ s ∈ r, c.1 = s.p := by
    intro r
    induction r with
    | nil => exact fun _ _ => ⟨.nil, fun c hc => by cases hc⟩
    | cons s r ih =>
      intro h1 h2
      rw [List.map_cons] at h2
      obtain ⟨i1, i2⟩ := ih (fun u hu => h1 u (List.mem_cons_of_mem _ hu)) (List.pairwise_cons.mp h2).2
      have hs := h1 s List.mem_cons_self
      have eg : s.g.filter (fun c => decide (c.1 ∈ sg.map Sg.p)) = [] := List.filter_eq_nil_iff.mpr fun c hc => by
        rw [decide_eq_false (O.pgG s hs c hc).1]
        exact Bool.false_ne_true
      have eP : s.P.filter (fun c => decide (c.1 ∈ sg.map Sg.p)) = s.P := List.filter_eq_self.mpr fun c hc => by
        rw [O.pgP s hs c hc]
        exact decide_eq_true (List.mem_map_of_mem hs)
      rw [allS_cons, List.filter_append, List.filter_append, eg, List.nil_append, eP]
      refine ⟨List.pairwise_append.mpr ⟨?_, i1, fun a ha b hb => ?_⟩, fun c hc => ?_⟩
      · refine List.pairwise_of_forall_mem_list fun a ha b hb => ?_
        rw [O.pgP s hs a ha, O.pgP s hs b hb]
        exact Int.le_refl _
      · obtain ⟨u, hu, e⟩ := i2 b hb
        rw [O.pgP s hs a ha, e]
        exact Int.le_of_lt ((List.pairwise_cons.mp h2).1 u.p (List.mem_map_of_mem hu))
      · rcases List.mem_append.mp hc with q | q
        · exact ⟨s, List.mem_cons_self, O.pgP s hs c q⟩
        · obtain ⟨u, hu, e⟩ := i2 c q
          exact ⟨u, List.mem_cons_of_mem _ hu, e⟩
  exact (gen sg (fun _ h => h) O.inc).1
theorem Bis.mono (B : Bis room most over sg l m) : (m.all.filter fun c => decide (c.1 ∈ m.row)).Pairwise (fun a b => a.1 ≤ b.1) := by
  rw [B.all, B.row]
  exact B.ok.mono
theorem Bis.held_le (B : Bis room most over sg l m) : ∀ x ∈ m.row, m.held ≤ x := by
  rw [B.row, B.held]
  intro x hx
  have hx0 := (B.ok.pos x hx).1
  have hin := B.ok.inc
  cases sg with
  | nil => cases hx
  | cons s r =>
    show (if s.h = true then s.p else -1) ≤ x
    split
    · rw [List.map_cons] at hin hx
      rcases List.mem_cons.mp hx with e | e
      · rw [e]
        exact Int.le_refl _
      · exact Int.le_of_lt ((List.pairwise_cons.mp hin).1 x e)
    · omega
theorem Bis.nd (B : Bis room most over sg l m) : m.row.Nodup := by
  rw [B.row]
  exact B.ok.inc.imp fun h e => by omega
theorem Bis.open_row {c : MC} (B : Bis room most over sg l m) (h : c ∈ m.all) (ho : c.2.mark = "open") : c.1 ∈ m.row := by
  rw [B.all] at h
  rw [B.row]
  obtain ⟨s, hs, hc⟩ := List.mem_flatMap.mp h
  rcases List.mem_append.mp hc with q | q
  · exact ((B.ok.pgG s hs c q).2 ho).elim
  · rw [B.ok.pgP s hs c q]
    exact List.mem_map_of_mem hs
/-- what a taker is told -/
inductive TakeR (m : MM) (tk : Int) : PyData × MM → Prop
  | non : (∀ z ∈ wholeM m, z.1 < m.told) → CI tk m → TakeR m tk (.none, m)
  | lost {n : Int} {m' : MM} : 0 < n → m.told + n < (clT m.all).length → m'.told = m.told + n → m'.all = m.all → CI tk m' → TakeR m tk (thD (.inl n), m')
  | ev {c : MC} {m' : MM} : c ∈ m.all → (clT m.all)[m.told.toNat]? = some c.2.time → m'.told = m.told + 1 → m'.all = m.all → CI (tk + 1) m' → TakeR m tk (evD m.told c.2, m')
theorem CI.take (C : CI tk m) (mo : (m.all.filter fun c => decide (c.1 ∈ m.row)).Pairwise (fun a b => a.1 ≤ b.1)) (hl : ∀ x ∈ m.row, m.held ≤ x) : TakeR m tk (takesM m) := by
  have hin : ((wholeM m).map (·.1)).Pairwise (· < ·) := whoG_inc
  have ef : ((wholeM m).map snW).filter (fun z => decide (m.told ≤ z.1)) = ((wholeM m).filter fun z => decide (m.told ≤ z.1)).map snW := by
    rw [List.filter_map]
    rfl
  cases e : (wholeM m).filter fun z => decide (m.told ≤ z.1) with
  | nil =>
    rw [e] at ef
    have : takesM m = (.none, m) := by
      unfold takesM toldM
      rw [toldT_nil ef]
    rw [this]
    refine .non (fun z hz => ?_) C
    have := List.filter_eq_nil_iff.mp e z hz
    have : ¬ m.told ≤ z.1 := fun q => this (decide_eq_true q)
    omega
  | cons w r =>
    rw [e, List.map_cons] at ef
    obtain ⟨R, hR⟩ := toldT_cons ef
    obtain ⟨A, D, eW, hA, hw, _⟩ := List.filter_eq_cons_iff.mp e
    have hw := of_decide_eq_true hw
    have hA : ∀ a ∈ A, a.1 < m.told := fun a ha => by
      have := hA a ha
      have : ¬ m.told ≤ a.1 := fun q => this (decide_eq_true q)
      omega
    have hD : ∀ d ∈ D, w.1 < d.1 := fun d hd => by
      rw [eW, List.map_append, List.map_cons, List.pairwise_append] at hin
      exact (List.pairwise_cons.mp hin.2.1).1 d.1 (List.mem_map_of_mem (f := fun z : Wn => z.1) hd)
    have hwm : w ∈ wholeM m := by rw [eW]; exact List.mem_append_right _ List.mem_cons_self
    obtain ⟨j, h1, h2, h3, h4, _⟩ := clT_who hwm
    have hj := (List.getElem?_eq_some_iff.mp h2).1
    have hcn := C.cnt
    have e0 : tkM m = A.length := by
      unfold tkM
      rw [eW, List.filter_append, List.filter_eq_self.mpr fun a ha => decide_eq_true (hA a ha), List.filter_eq_nil_iff.mpr, List.append_nil]
      intro z hz q
      have q := of_decide_eq_true q
      rcases List.mem_cons.mp hz with x | x
      · rw [x] at q
        omega
      · have := hD z x
        omega
    by_cases hlt : m.told < w.1
    · rw [show (snW w).1 = w.1 from rfl, if_pos hlt] at hR
      have et : takesM m = (thD (.inl (w.1 - m.told)), { m with told := m.told + (w.1 - m.told) }) := by
        unfold takesM toldM
        rw [hR]
        rfl
      rw [et]
      refine .lost (by omega) (by omega) rfl rfl ⟨?_, C.giv, fun z hz h => ?_, ?_, ?_⟩
      · show tk + m.gone + gvS m.row m.all = m.given + (((wholeM m).filter fun z => decide (z.1 < m.told + (w.1 - m.told))).length : Nat)
        have : ((wholeM m).filter fun z => decide (z.1 < m.told + (w.1 - m.told))).length = A.length := by
          rw [eW, List.filter_append, List.filter_eq_self.mpr fun a ha => decide_eq_true (by have := hA a ha; omega), List.filter_eq_nil_iff.mpr, List.append_nil]
          intro z hz q
          have q := of_decide_eq_true q
          rcases List.mem_cons.mp hz with x | x
          · rw [x] at q
            omega
          · have := hD z x
            omega
        rw [this, ← e0]
        exact hcn
      · have h : z.1 < m.told + (w.1 - m.told) := h
        have hz : z ∈ wholeM m := hz
        refine C.hold z hz ?_
        have hz2 := hz
        rw [eW] at hz2
        rcases List.mem_append.mp hz2 with x | x
        · exact hA z x
        · rcases List.mem_cons.mp x with x | x
          · rw [x] at h
            omega
          · have := hD z x
            omega
      · show m.told + (w.1 - m.told) ≤ (clT m.all).length
        omega
      · have := C.ge
        show 0 ≤ m.told + (w.1 - m.told)
        omega
    · have ew : w.1 = m.told := by omega
      rw [show (snW w).1 = w.1 from rfl, if_neg hlt, List.nil_append] at hR
      have ep := pageOf_at hwm
      rw [ew] at ep
      have et : takesM m = (evD m.told w.2.2.2, { m with told := m.told + 1, row := m.row.filter (fun x => decide (w.2.2.1 ≤ x)), held := w.2.2.1 }) := by
        unfold takesM toldM
        rw [hR]
        show (evD w.1 w.2.2.2, _) = _
        rw [ew]
        show (_, ({ m with told := m.told + 1, row := m.row.filter (fun x => decide (pageOf m.told m ≤ x)), held := pageOf m.told m } : MM)) = _
        rw [ep]
      rw [et]
      have hr : ∀ c ∈ m.all, c.1 ∈ m.row.filter (fun x => decide (w.2.2.1 ≤ x)) ↔ (c.1 ∈ m.row ∧ (fun x => decide (w.2.2.1 ≤ x)) c.1 = true) := fun c _ => List.mem_filter
      have eW' : whoG (m.row.filter (fun x => decide (w.2.2.1 ≤ x))) 0 0 m.all = (wholeM m).filter fun z => decide (w.2.2.1 ≤ z.2.2.1) := who_row (f := fun x => decide (w.2.2.1 ≤ x)) hr
      have eg := gvS_row (f := fun x => decide (w.2.2.1 ≤ x)) hr
      have ev := vis_cnt (row := m.row) mo hwm
      have e3 : (m.all.filter fun c => (c.2.giv && decide (c.1 ∈ m.row)) && !decide (w.2.2.1 ≤ c.1)).length = (m.all.filter fun c => (c.2.giv && decide (c.1 ∈ m.row)) && decide (c.1 < w.2.2.1)).length := by
        congr 1
        refine List.filter_congr fun c _ => ?_
        congr 1
        by_cases q : w.2.2.1 ≤ c.1
        · rw [decide_eq_true q, decide_eq_false (by omega)]
          rfl
        · rw [decide_eq_false q, decide_eq_true (by omega)]
          rfl
      have e4 := cnt_split (fun z : Wn => decide (z.1 < m.told)) (fun z => decide (w.2.2.1 ≤ z.2.2.1)) (wholeM m)
      have e5 : ((wholeM m).filter fun z => decide (z.1 < m.told) && !decide (w.2.2.1 ≤ z.2.2.1)).length = ((wholeM m).filter fun z => decide (z.2.2.1 < w.2.2.1) && decide (z.1 < w.1)).length := by
        congr 1
        refine List.filter_congr fun z _ => ?_
        rw [ew, Bool.and_comm]
        congr 1
        by_cases q : w.2.2.1 ≤ z.2.2.1
        · rw [decide_eq_true q, decide_eq_false (by omega)]
          rfl
        · rw [decide_eq_false q, decide_eq_true (by omega)]
          rfl
      have e6 : (((wholeM m).filter fun z => decide (w.2.2.1 ≤ z.2.2.1)).filter fun z => decide (z.1 < m.told + 1)).length = ((wholeM m).filter fun z => decide (z.1 < m.told) && decide (w.2.2.1 ≤ z.2.2.1)).length + 1 := by
        rw [List.filter_filter, eW, List.filter_append, List.filter_append, List.filter_cons_of_pos (by rw [ew, decide_eq_true (by omega), decide_eq_true (Int.le_refl _)]; rfl), List.filter_cons_of_neg (by rw [ew, decide_eq_false (by omega)]; simp), List.length_append, List.length_append, List.length_cons]
        have d1 : D.filter (fun z => decide (z.1 < m.told + 1) && decide (w.2.2.1 ≤ z.2.2.1)) = [] := List.filter_eq_nil_iff.mpr fun z hz q => by
          rw [Bool.and_eq_true] at q
          have := of_decide_eq_true q.1
          have := hD z hz
          omega
        have d2 : D.filter (fun z => decide (z.1 < m.told) && decide (w.2.2.1 ≤ z.2.2.1)) = [] := List.filter_eq_nil_iff.mpr fun z hz q => by
          rw [Bool.and_eq_true] at q
          have := of_decide_eq_true q.1
          have := hD z hz
          omega
        have d3 : A.filter (fun z => decide (z.1 < m.told + 1) && decide (w.2.2.1 ≤ z.2.2.1)) = A.filter (fun z => decide (z.1 < m.told) && decide (w.2.2.1 ≤ z.2.2.1)) := List.filter_congr fun z hz => by
          have := hA z hz
          rw [decide_eq_true (show z.1 < m.told + 1 by omega), decide_eq_true this]
        rw [d1, d2, d3]
        rfl
      have e7 : tkM m = ((wholeM m).filter fun z => decide (z.1 < m.told)).length := rfl
      refine .ev (c := w.2.2) h3 ?_ rfl rfl ⟨?_, C.giv, fun z hz h => ?_, ?_, ?_⟩
      · rw [← ew, h1, Int.zero_add, Int.toNat_natCast]
        exact h2
      · show tk + 1 + m.gone + gvS (m.row.filter (fun x => decide (w.2.2.1 ≤ x))) m.all = m.given + (((whoG (m.row.filter (fun x => decide (w.2.2.1 ≤ x))) 0 0 m.all).filter fun z => decide (z.1 < m.told + 1)).length : Nat)
        have ev2 : (m.all.filter fun c => (c.2.giv && decide (c.1 ∈ m.row)) && decide (c.1 < w.2.2.1)).length = ((wholeM m).filter fun z => decide (z.2.2.1 < w.2.2.1) && decide (z.1 < w.1)).length := ev
        rw [eW', e6]
        push_cast
        omega
      · have h : z.1 < m.told + 1 := h
        have hz : z ∈ whoG (m.row.filter (fun x => decide (w.2.2.1 ≤ x))) 0 0 m.all := hz
        rw [eW'] at hz
        obtain ⟨a1, a2⟩ := List.mem_filter.mp hz
        have a2 := of_decide_eq_true a2
        show z.2.2.1 = w.2.2.1
        by_cases q : z.1 < m.told
        · have hh := C.hold z a1 q
          have := hl w.2.2.1 h4
          omega
        · have hz2 := a1
          rw [eW] at hz2
          rcases List.mem_append.mp hz2 with x | x
          · exact absurd (hA z x) q
          · rcases List.mem_cons.mp x with x | x
            · rw [x]
            · have := hD z x
              omega
      · show m.told + 1 ≤ (clT m.all).length
        omega
      · have := C.ge
        show 0 ≤ m.told + 1
        omega
theorem who_len : ∀ {cs : List MC} {p : Int} {i : Nat}, (∀ c ∈ cs, c.2.mark ≠ "open") → (whoG row p i cs).length = gvS row cs
  | [], _, _, _ => rfl
  | c :: cs, p, i, h => by
    have ih := fun p i => who_len (cs := cs) (p := p) (i := i) fun d hd => h d (List.mem_cons_of_mem _ hd)
    rw [whoG, if_neg (h c List.mem_cons_self)]
    unfold gvS
    rw [List.filter_cons]
    by_cases e : c.2.mark = "given"
    · have hg : c.2.giv = true := decide_eq_true e
      rw [if_pos e, List.length_append, ih, hg, Bool.true_and]
      by_cases e3 : c.1 ∈ row
      · rw [if_pos e3, if_pos (decide_eq_true e3), List.length_cons]
        show 1 + gvS row cs = gvS row cs + 1
        omega
      · rw [if_neg e3, if_neg (by rw [decide_eq_false e3]; exact Bool.false_ne_true)]
        show 0 + gvS row cs = gvS row cs
        omega
    · have hg : c.2.giv = false := decide_eq_false e
      rw [if_neg e, ih, hg, if_neg (by simp)]
      rfl
/-- at the end: all is taken or lost -/
theorem CI.fin (C : CI tk m) (ho : ∀ c ∈ m.all, c.2.mark ≠ "open") (hn : ∀ z ∈ wholeM m, z.1 < m.told) : tk + m.gone = m.given := by
  have h1 : tkM m = gvS m.row m.all := by
    unfold tkM
    rw [List.filter_eq_self.mpr fun z hz => decide_eq_true (hn z hz)]
    exact who_len ho
  have := C.cnt
  omega
theorem clT_len : ∀ cs : List MC, (clT cs).length ≤ gvn cs
  | [] => Nat.le_refl _
  | c :: cs => by
    have ih := clT_len cs
    have e0 : gvn (c :: cs) = (if c.2.giv = true then 1 else 0) + gvn cs := by
      unfold gvn
      rw [List.filter_cons]
      split
      · rw [List.length_cons]
        omega
      · omega
    rw [clT, e0]
    by_cases e1 : c.2.mark = "open"
    · rw [if_pos e1]
      exact Nat.zero_le _
    · rw [if_neg e1]
      by_cases e2 : c.2.mark = "given"
      · rw [if_pos e2, if_pos (show c.2.giv = true from decide_eq_true e2), List.length_cons]
        omega
      · rw [if_neg e2]
        omega
end
end Ls
-- own part: n21
namespace Ls
open PySem PySem.Spec PyProof.Rows L2
def spNeed (K : PySem.W.Frag) (C : Addr) : Sp := fun vs H Q _ => ∃ (x v : Addr) (k : Kd) (us : List Int) (L : List (As K)), vs = [.ref x, .ref v] ∧ Ls.Sep L H ∧ kindF C x k ∈ L ∧ im (.ref v) (intsD us) ∈ L ∧ k.2.length ≤ 4 ∧ FitsV k us ∧ ∀ H', Ls.Sep L H' → Q .non H'
end Ls
namespace Lw
open PySem PySem.Spec PyProof.Rows L2 Ls
end Lw
-- own part: n22
namespace Ls
open PySem PySem.Spec PyProof.Rows L2
def spFill (K : PySem.W.Frag) (Z : Cz) : Sp := fun vs H Q _ => ∃ (x v : Addr) (n : Int) (i j : Nat) (r : List (Nat × Nat)) (us : List Int) (k : Kd) (l : Ln) (L : List (As K)), vs = [.ref x, .int n, .ref v] ∧ n ∈ l.pile ∧ l.fine ∧ spotsB n l.book = (i, j) :: r ∧ (∀ g c, l.book[i]? = some g → g.clms[j]? = some c → c.kind = k) ∧ FitsV k us ∧ im (.ref v) (intsD us) ∈ L ∧ Ls.Sep (laneA Z (.ref x) l :: L) H ∧
  ∀ H', Ls.Sep (laneA Z (.ref x) (fillL i j us l) :: L) H' → Q .non H'
def spValue (K : PySem.W.Frag) : Sp := fun vs H Q _ => ∃ (d f : Addr) (fd : Fd) (L : List (As K)), vs = [.ref d, .ref f] ∧ Ls.Sep L H ∧ dr d ∈ L ∧ im (.ref f) (fdD fd) ∈ L ∧ GoodF fd ∧ ∀ (n : Int) H', fd.2.1 ≤ n → n ≤ fd.2.2 → Ls.Sep L H' → Q (.int n) H'
def spValues (K : PySem.W.Frag) : Sp := fun vs H Q _ => ∃ (d f : Addr) (k : Kd) (L : List (As K)), vs = [.ref d, .ref f] ∧ Ls.Sep L H ∧ dr d ∈ L ∧ im (.ref f) (fdsD k.2) ∈ L ∧ GoodK k ∧ ∀ p us H', FitsV k us → Ls.Sep (im (.ref p) (intsD us) :: L) H' → Q (.ref p) H'
def spLen (K : PySem.W.Frag) (Z : Cz) : Sp := fun vs H Q _ => ∃ (x : Addr) (l : Ln) (L : List (As K)), vs = [.ref x] ∧ l.fine ∧ Ls.Sep (laneA Z (.ref x) l :: L) H ∧ ∀ H', (dueL l).length ≤ 1000000 → Ls.Sep (laneA Z (.ref x) l :: L) H' → Q (.int ((dueL l).length : Nat)) H'
theorem k_lenLn {K : PySem.W.Frag} {L : List (As K)} {H : Hp} {Q : VK} {E : XK} {sp : Sp} {Z : Cz} {x : Addr} {l : Ln} (h : Ls.Sep L H) (m : laneA Z (.ref x) l ∈ L) (q : sp [.ref x] H (fun v H' => ∃ i : Int, v = .int i ∧ 0 ≤ i ∧ i < 2 ^ 63 ∧ Q (.int i) H') E) : rLenC Z.l sp E [.ref x] H Q := by
  obtain ⟨M, hM⟩ := Rem.of_mem m
  obtain ⟨x', bk, pl, vs, e, h2⟩ := (h.rem hM).lane
  cases e
  exact k_lenC h2 List.mem_cons_self q
end Ls
namespace Lw
open PySem PySem.Spec PyProof.Rows L2 Ls
theorem ok_Lane___len__ {P : Program} {w : World} {K : PySem.W.Frag} {mg : Str → Option Value} {base : Heap} (E : Env K mg) : FnOk P w K mg base CX0 2 E.a_Lane___len__ E.fd_Lane___len__ ["self"] (spLen K ⟨E.C_Kind, E.C_Page, E.C_Lane⟩) := by
  refine E.F_Lane___len__.ok sc_Lane___len__ (fun vs H Q E h => ?_) (fun cdv A outer s H vs Q E' hr h => ?_)
  · walk_at "hl"
  · have hu := huOf hr
    have G_Lane_seen := ok_Lane_seen (P := P) (w := w) (base := base) E
    have hr_Lane_seen := hr.mono (show 1 ≤ 1 by decide)
    have b_Lane_seen := b_Lane_seen E
    have hcl_Lane := E.cl_Lane
    have hna_Lane_coming := E.na_Lane_coming
    have hcl_Kind := E.cl_Kind
    have hcl_Page := E.cl_Page
    obtain ⟨x, l, L, rfl, fi, hS, q⟩ := h
    refine ⟨_, PSs.nox (pss_one (ps_ret (pe_callB (call_lenU K rfl) (by rfl) E.n_len boot_len (pa_cons (pe_lc (own := [("place", 1), ("at", 2), ("claim", 3)]) rfl sc_Lane___len__.nd (pi_seqU K rfl (pe_meth0 (pv 0) E.cl_Lane E.m_Lane_seen G_Lane_seen hr_Lane_seen b_Lane_seen .nil pass0)) (blkOk_by (N := ["self", "place", "at", "claim"]) (sc := defScope s_Lane___len__) (by decide +kernel)) (fun _ _ _ _ _ => (kGTup (n := 3) K rfl (pg_tup rfl (pgs_cons (pg_name (i := 1) sc_Lane___len__.nd rfl (Or.inl rfl)) (pgs_cons (pg_name (i := 2) sc_Lane___len__.nd rfl (Or.inl rfl)) (pgs_cons (pg_name (i := 3) sc_Lane___len__.nd rfl (Or.inl rfl)) pgs_nil)))))) (fun _ _ _ _ _ => (pts_one (pt_cmpR (op_ge) (pv 1) (kFld K rfl (pe_fld (pv 0) rfl)) (nomark _)))) (fun _ _ _ _ _ => (pv 1))) pa_nil)))), ?_⟩
    refine k_body (s1 := some _ :: [none, none, none]) rfl ?_
    walk_at "s"
    refine ⟨x, l, _, rfl, fi, hS, ?_⟩
    clear hS
    intro p0 us H hul hS
    have hus := hS.len2 (f := seenF ⟨E.C_Kind, E.C_Page, E.C_Lane⟩) (by walk_at "mem")
    walk_at "s"
    refine lc_flat2 (fun _ (z : Sn) => if decide (l.coming ≤ z.1) = true then [PyData.int z.1] else []) hS (fun acc => wk_ob2 (by walk_at "mem") (by walk_at "mem")) (fun i z acc hz hk hn la v z' hv hz' H hS => ?_) (fun H hS => ?_)
    · cases hz.symm.trans hz'
      simp only [List.append, List.cons_append, List.nil_append] at hS
      replace hS := Sep.seen hS
      obtain ⟨T, w, ev, hS⟩ := hS
      subst ev
      walk_at "ls"
      by_cases e : l.coming ≤ z.1
      · rw [if_pos (decide_eq_true e)]
        walk_at "s"
        exact lc_keep hS (.int _) (by walk_at "sub") (by rw [sizeLine_eq]; have := (List.getElem?_eq_some_iff.mp hz).1; omega) (hk _ (if_pos (decide_eq_true e)))
      · rw [if_neg (by rw [decide_eq_false e]; exact Bool.false_ne_true)]
        exact lc_skip hS (by walk_at "sub") (hn (if_neg (by rw [decide_eq_false e]; exact Bool.false_ne_true)))
    · rw [flat_filter (fun z : Sn × Nat => decide (l.coming ≤ z.1.1)) (fun z => PyData.int z.1.1)] at hS
      have el : ((seenL l).zipIdx.filter fun z : Sn × Nat => decide (l.coming ≤ z.1.1)).length = (dueL l).length := by
        have e : dueL l = (((seenL l).zipIdx).map (·.1)).filter fun z => decide (l.coming ≤ z.1) := by
          rw [List.zipIdx_map_fst]
          rfl
        rw [e, List.filter_map, List.length_map]
        rfl
      have hdl : (dueL l).length ≤ 1000000 := by
        have := (List.filter_sublist (p := fun z : Sn => decide (l.coming ≤ z.1)) (l := seenL l)).length_le
        have e2 : (List.filter (fun z : Sn => decide (l.coming ≤ z.1)) (seenL l)).length = (dueL l).length := rfl
        omega
      walk_at "s"
      rw [List.length_map, el]
      exact q _ hdl (Sub.ok (by walk_at "sub") hS)
end Lw
-- own part: q1
namespace Ls
open PySem PySem.Spec PyProof.Rows L2
def mk3 (s : Str) : Str := if s = "freed" then "thrown" else s
def row3 (c : MC) : List PyData := [.int c.2.tick, .int c.2.time, .str (mk3 c.2.mark)]
/-- a row of the plain model: [ticket, time, mark] -/
def rowF {K : PySem.W.Frag} (v : V) (c : MC) : As K := ex fun (a : Addr) => all [pr (v = .ref a), Ls.fzl a (row3 c)]
instance {K : PySem.W.Frag} {v : V} {c : MC} : Dup (rowF (K := K) v c) := by unfold rowF; infer_instance
theorem Sep.rowF {K : PySem.W.Frag} {L : List (As K)} {H : Hp} {v : V} {c : MC} (h : Ls.Sep (rowF v c :: L) H) : ∃ a, v = .ref a ∧ Ls.Sep (Ls.fzl a (row3 c) :: L) H := by
  obtain ⟨a, h3⟩ := Sep.ex_iff.mp h
  rw [Sep.all_iff, List.cons_append, Sep.pr_iff] at h3
  exact ⟨a, h3.1, h3.2⟩
theorem Sep.toRow {K : PySem.W.Frag} {L : List (As K)} {H : Hp} {a : Addr} {c : MC} (h : Ls.Sep (Ls.fzl a (row3 c) :: L) H) : Ls.Sep (Ls.rowF (.ref a) c :: L) H :=
  Sep.ex_iff.mpr ⟨a, by rw [Sep.all_iff, List.cons_append, Sep.pr_iff]; exact ⟨rfl, h⟩⟩
/-- what the law closes: None for an open claim, the time of one given in -/
def closeO (c : MC) : List (Option Int) := if c.2.mark = "open" then [none] else if c.2.mark = "given" then [some c.2.time] else []
def closedO (cs : List MC) : List (Option Int) := cs.flatMap closeO
theorem closed_split : ∀ cs : List MC, ∃ R, closedO cs = (clT cs).map some ++ R ∧ (R = [] ∨ ∃ R', R = none :: R')
  | [] => ⟨[], rfl, .inl rfl⟩
  | c :: cs => by
    obtain ⟨R, h1, h2⟩ := closed_split cs
    have e0 : closedO (c :: cs) = closeO c ++ closedO cs := List.flatMap_cons
    rw [e0, clT]
    unfold closeO
    by_cases e1 : c.2.mark = "open"
    · rw [if_pos e1, if_pos e1]
      exact ⟨none :: closedO cs, rfl, .inr ⟨_, rfl⟩⟩
    · rw [if_neg e1, if_neg e1]
      by_cases e2 : c.2.mark = "given"
      · rw [if_pos e2, if_pos e2]
        exact ⟨R, by rw [h1]; rfl, h2⟩
      · rw [if_neg e2, if_neg e2]
        exact ⟨R, h1, h2⟩
theorem any_some (ns : List Int) : (ns.map some).any Option.isNone = false := by
  rw [List.any_map, List.any_eq_false]
  intro n _
  exact Bool.false_ne_true
theorem closeO_len (c : MC) : (closeO c).length ≤ 1 := by
  unfold closeO
  split
  · exact Nat.le_refl _
  · split
    · exact Nat.le_refl _
    · exact Nat.zero_le _
theorem closedO_len : ∀ cs : List MC, (closedO cs).length ≤ cs.length
  | [] => Nat.le_refl _
  | c :: cs => by
    have := closedO_len cs
    have := closeO_len c
    rw [show closedO (c :: cs) = closeO c ++ closedO cs from List.flatMap_cons, List.length_append, List.length_cons]
    omega
theorem mk3_open (s : Str) : (mk3 s = "open") = (s = "open") := by
  unfold mk3
  split
  · rename_i h
    rw [h]
    exact propext ⟨fun e => absurd e (by decide +kernel), fun e => absurd e (by decide +kernel)⟩
  · rfl
theorem mk3_given (s : Str) : (mk3 s = "given") = (s = "given") := by
  unfold mk3
  split
  · rename_i h
    rw [h]
    exact propext ⟨fun e => absurd e (by decide +kernel), fun e => absurd e (by decide +kernel)⟩
  · rfl
def spNext (K : PySem.W.Frag) : Sp := fun vs H Q _ => ∃ (v : V) (rp kp : Addr) (us : List V) (k : Kd) (tk : Int) (m : MM) (r : PyData × MM) (L : List (As K)), vs = [v, .int m.told, .ref rp, .ref kp] ∧ im v r.1 ∈ L ∧ ob rp (.lst us) ∈ L ∧ al2 Ls.rowF us m.all ∈ L ∧ im (.ref kp) (kdD k) ∈ L ∧ GoodK k ∧ m.all.length ≤ 1000 ∧ (∀ c ∈ m.all, c.2.kind = k ∧ c.2.vals = lows k) ∧ 0 ≤ m.told ∧ TakeR m tk r ∧ Ls.Sep L H ∧
  ∀ H', Ls.Sep L H' → Q (.int r.2.told) H'
end Ls
namespace Lw
open PySem PySem.Spec PyProof.Rows L2 Ls
theorem ok__law_told_next {P : Program} {w : World} {K : PySem.W.Frag} {mg : Str → Option Value} {base : Heap} (E : Env K mg) : FnOk P w K mg base CX0 6 E.a__law_told_next E.fd__law_told_next ["_law_thing", "_law_place", "_law_row", "_law_kind"] (spNext K) := by
  refine E.F__law_told_next.ok sc__law_told_next (fun vs H Q E h => ?_) (fun cdv A outer s H vs Q E' hr h => ?_)
  · walk_at "hl"
  · have hu := huOf hr
    have G__law_same := ok__law_same (P := P) (w := w) (base := base) E 4
    have hr__law_same := hr.mono (show 5 ≤ 5 by decide)
    have b__law_same := b__law_same E
    have hcl_Lane := E.cl_Lane
    have hcl_Kind := E.cl_Kind
    have hcl_Page := E.cl_Page
    obtain ⟨v, rp, kp, us, k, tk, m, r, L, rfl, hv, m1, m2, m3, gk, few, hk, h0, T, hS, q⟩ := h
    have hlen := hS.len2 (f := rowF) m2
    refine ⟨_, PSs.nox (pss_cons (ps_if (pt_cmpR (op_isU) (pv 0) pe_non (nomark _)) (pss_one (ps_ret (pv 1))) pss_nil)
(pss_cons (ps_set (i := 4) sc__law_told_next.nd rfl (Or.inl rfl) (pe_lst pa_nil))
(pss_cons (ps_for PassesOwn.never rfl (pi_seqU K rfl (pv 2)) (kGLst (n := 3) K rfl (pg_lst rfl (pgs_cons (pg_name (i := 5) sc__law_told_next.nd rfl (Or.inl rfl)) (pgs_cons (pg_name (i := 6) sc__law_told_next.nd rfl (Or.inl rfl)) (pgs_cons (pg_name (i := 7) sc__law_told_next.nd rfl (Or.inl rfl)) pgs_nil)))))
(pss_cut (ps_if (pt_cmpR (op_eqU K rfl hu) (pv 7) pe_str (nomark _)) (pss_one (ps_expr (kBM K rfl (pe_bm PySem.F.plainAttrs_list PySem.F.slot_list_append PySem.F.type_list_append mt_append (pv 4) (pa_cons pe_non pa_nil))))) pss_nil)
(pss_one (ps_if (pt_cmpR (op_eqU K rfl hu) (pv 7) pe_str (nomark _)) (pss_one (ps_expr (kBM K rfl (pe_bm PySem.F.plainAttrs_list PySem.F.slot_list_append PySem.F.type_list_append mt_append (pv 4) (pa_cons (pv 6) pa_nil))))) pss_nil))))
(pss_cut (ps_if (pt_cmpR (op_inU K rfl hu) pe_non (pv 4) (by with_unfolding_all rfl)) (pss_one (ps_set (i := 4) sc__law_told_next.nd rfl (Or.inl rfl) (pe_slice (sl_U K rfl) (pv 4) po_none (po_some (kBM K rfl (pe_bm PySem.F.plainAttrs_list PySem.F.slot_list_index PySem.F.type_list_index mt_index (pv 4) (pa_cons pe_non pa_nil))))))) pss_nil)
(pss_cons (ps_if (pt_cmpR (op_eqU K rfl hu) (pe_ix (ix_U K rfl) (pv 0) pe_int (fun _ _ => rfl)) pe_str (nomark _)) (pss_cons (ps_set (i := 8) sc__law_told_next.nd rfl (Or.inl rfl) (pe_and (pe_call G__law_same hr__law_same rfl E.g__law_same E.F__law_same.kp b__law_same .nil pass0 (pa_cons (pv 0) (pa_cons (pe_tup (pa_cons pe_str (pa_cons (pe_ix (ix_U K rfl) (pv 0) pe_int (fun _ _ => rfl)) pa_nil))) pa_nil))) (pe_and (pe_cmpR (op_lt) pe_int (pe_ix (ix_U K rfl) (pv 0) pe_int (fun _ _ => rfl)) (nomark _)) (pe_one (pe_cmpR (op_lt) (pe_op (op_addU K rfl) (pv 1) (pe_ix (ix_U K rfl) (pv 0) pe_int (fun _ _ => rfl))) (pe_callB (call_lenU K rfl) (by rfl) E.n_len boot_len (pa_cons (pv 4) pa_nil)) (nomark _))))))
(pss_one (ps_ret (pe_join (pe_ifExp (pt_val (pv 8)) (pe_op (op_addU K rfl) (pv 1) (pe_ix (ix_U K rfl) (pv 0) pe_int (fun _ _ => rfl))) pe_non))))) pss_nil)
(pss_cons (ps_if (pt_cmpR (op_ge) (pv 1) (pe_callB (call_lenU K rfl) (by rfl) E.n_len boot_len (pa_cons (pv 4) pa_nil)) (nomark _)) (pss_one (ps_ret pe_non)) pss_nil)
(pss_cons (ps_set (i := 9) sc__law_told_next.nd rfl (Or.inl rfl) (pe_tup (pa_cons pe_str (pa_cons (pv 1) (pa_cons (pe_ix (ix_U K rfl) (pv 4) (pv 1) (fun _ _ => rfl)) (pa_cons (pe_ix (ix_U K rfl) (pv 3) pe_int (fun _ _ => rfl)) (pa_cons (pe_callTy (call_tupleU K rfl) (by rfl) E.n_tuple boot_tuple (pa_cons (pe_lc (own := [("_law_word_here", 10), ("_law_low", 11), ("_law_high", 12)]) rfl sc__law_told_next.nd (pi_seqU K rfl (pe_ix (ix_U K rfl) (pv 3) pe_int (fun _ _ => rfl))) (blkOk_by (N := ["_law_thing", "_law_place", "_law_row", "_law_kind", "_law_closed", "_law_ticket", "_law_time", "_law_mark", "_law_good", "_law_due", "_law_word_here", "_law_low", "_law_high"]) (sc := defScope s__law_told_next) (by decide +kernel)) (fun _ _ _ _ _ => (kGTup (n := 3) K rfl (pg_tup rfl (pgs_cons (pg_name (i := 10) sc__law_told_next.nd rfl (Or.inl rfl)) (pgs_cons (pg_name (i := 11) sc__law_told_next.nd rfl (Or.inl rfl)) (pgs_cons (pg_name (i := 12) sc__law_told_next.nd rfl (Or.inl rfl)) pgs_nil)))))) (fun _ _ _ _ _ => pts_nil) (fun _ _ _ _ _ => (pv 11))) pa_nil)) pa_nil)))))))
(pss_one (ps_ret (pe_join (pe_ifExp (pt_val (pe_call G__law_same hr__law_same rfl E.g__law_same E.F__law_same.kp b__law_same .nil pass0 (pa_cons (pv 0) (pa_cons (pv 9) pa_nil)))) (pe_op (op_addU K rfl) (pv 1) pe_int) pe_non))))))))))), ?_⟩
    refine k_body (s1 := some _ :: some _ :: some _ :: some _ :: [none, none, none, none, none, none, none, none, none]) rfl ?_
    by_cases hn : v = .non
    · subst hn
      cases T with
      | non hn C =>
        walk_at "s"
        rw [if_pos (decide_eq_true rfl)]
        walk_at "s"
        exact q _ hS
      | lost _ _ _ _ _ =>
        obtain ⟨_, _, e, _⟩ := im_tup (hS.imm hv)
        cases e
      | ev _ _ _ _ _ =>
        obtain ⟨_, _, e, _⟩ := im_tup (hS.imm hv)
        cases e
    · have hv2 : ∃ va, v = .ref va := by
        cases T with
        | non hn2 C => exact absurd (im_non (hS.imm hv)) hn
        | lost _ _ _ _ _ =>
          obtain ⟨a, _, e, _⟩ := im_tup (hS.imm hv)
          exact ⟨a, e⟩
        | ev _ _ _ _ _ =>
          obtain ⟨a, _, e, _⟩ := im_tup (hS.imm hv)
          exact ⟨a, e⟩
      obtain ⟨va, rfl⟩ := hv2
      walk_at "s"
      rename Addr => pc
      refine for_wk (n := m.all.length) (Y := fun i q => ∀ v c, us[i]? = some v → m.all[i]? = some c → q v [rowF v c]) (fun i σ L' => L' = Ls.ld pc ((closedO (m.all.take i)).map oD) :: L ∧ ∃ c5 c6 c7, σ = [some (.ref va), some (.int m.told), some (.ref rp), some (.ref kp), some (.ref pc), c5, c6, c7, none, none, none, none, none]) (fun i σ L' e => by rw [e.1]; exact wk_ob2 (f := rowF) (by walk_at "mem") (by walk_at "mem")) hS ⟨rfl, _, _, _, rfl⟩ (fun i σ L' hi iv v c hv' hc H hS9 => ?_) (fun σ L' H iv hS9 => ?_)
      · obtain ⟨rfl, c5, c6, c7, rfl⟩ := iv
        clear hS
        have hS := hS9
        clear hS9
        have ec : closedO (m.all.take (i + 1)) = closedO (m.all.take i) ++ closeO c := by
          unfold closedO
          rw [List.take_add_one, hc, List.flatMap_append]
          show _ ++ List.flatMap closeO [c] = _
          rw [List.flatMap_cons, List.flatMap_nil, List.append_nil]
        have lc := closedO_len (m.all.take i)
        rw [List.length_take] at lc
        walk_at "ns"
        replace hS := Sep.rowF hS
        obtain ⟨ra, ev, hS⟩ := hS
        subst ev
        unfold row3 at hS
        refine k_glstF hS (by walk_at "mem") rfl ?_
        walk_at "gv"
        walk_at "s"
        refine k_cut (fun σ H => σ = [some (.ref va), some (.int m.told), some (.ref rp), some (.ref kp), some (.ref pc), some (.int c.2.tick), some (.int c.2.time), some (.str (mk3 c.2.mark)), none, none, none, none, none] ∧ Ls.Sep (K := K) (Ls.ld pc ((closedO (m.all.take i) ++ (if c.2.mark = "open" then [none] else [])).map oD) :: L) H) ?_ ?_
        · walk_at "s"
          by_cases e1 : c.2.mark = "open"
          · rw [if_pos (decide_eq_true (Eq.mpr (mk3_open _) e1)), if_pos e1]
            walk_at "s"
            refine ⟨rfl, ?_⟩
            have e3 : (closedO (m.all.take i) ++ [(none : Option Int)]).map oD = (closedO (m.all.take i)).map oD ++ [PyData.none] := by
              rw [List.map_append]
              rfl
            rw [e3]
            exact Sub.ok (by walk_at "sub") hS
          · rw [if_neg (by rw [decide_eq_false (fun z => e1 (Eq.mp (mk3_open _) z))]; exact Bool.false_ne_true), if_neg e1]
            walk_at "s"
            refine ⟨rfl, ?_⟩
            rw [List.append_nil]
            exact Sub.ok (by walk_at "sub") hS
        · clear hS
          rintro σ H ⟨rfl, hS⟩
          walk_at "s"
          by_cases e2 : c.2.mark = "given"
          · have e1 : ¬ c.2.mark = "open" := by rw [e2]; decide +kernel
            rw [if_neg e1, List.append_nil] at hS
            rw [if_pos (decide_eq_true (Eq.mpr (mk3_given _) e2))]
            walk_at "s"
            refine ⟨_, ⟨?_, _, _, _, rfl⟩, hS⟩
            have : closeO c = [some c.2.time] := by
              unfold closeO
              rw [if_neg e1, if_pos e2]
            rw [ec, this, List.map_append]
            rfl
          · rw [if_neg (by rw [decide_eq_false (fun z => e2 (Eq.mp (mk3_given _) z))]; exact Bool.false_ne_true)]
            walk_at "s"
            refine ⟨_, ⟨?_, _, _, _, rfl⟩, hS⟩
            have : closeO c = (if c.2.mark = "open" then [none] else []) := by
              unfold closeO
              rw [if_neg e2]
            rw [ec, this]
      · obtain ⟨rfl, c5, c6, c7, rfl⟩ := iv
        clear hS
        have hS := hS9
        clear hS9
        rw [List.take_length] at hS
        refine k_cut (fun σ H => ∃ pd, σ = [some (.ref va), some (.int m.told), some (.ref rp), some (.ref kp), some (.ref pd), c5, c6, c7, none, none, none, none, none] ∧ Ls.Sep (K := K) (Ls.ld pd ((clT m.all).map PyData.int) :: L) H) ?_ ?_
        · obtain ⟨R, es, eR⟩ := closed_split m.all
          have lo := closedO_len m.all
          have emp : ((clT m.all).map some).map oD = (clT m.all).map PyData.int := by
            rw [List.map_map]
            rfl
          walk_at "s"
          refine k_inN hS (by walk_at "mem") ?_
          walk_at "s"
          rcases eR with rfl | ⟨R', rfl⟩
          · rw [List.append_nil] at es
            rw [es, any_some, if_neg Bool.false_ne_true]
            walk_at "s"
            refine ⟨_, rfl, ?_⟩
            rw [es, emp] at hS
            exact Sub.ok (by walk_at "sub") hS
          · rw [es, List.any_append, any_some, Bool.false_or, List.any_cons]
            rw [es] at hS
            rw [if_pos (show (none.isNone || R'.any Option.isNone) = true from rfl)]
            walk_at "s"
            refine k_indexN (K := K) (ns := clT m.all) (R := R') hS (by walk_at "mem") ?_
            walk_at "s"
            have ecut : cutD (((clT m.all).map some ++ none :: R').map oD) none (some ((clT m.all).length : Int)) = (clT m.all).map PyData.int := by
              rw [cutD_to (by omega), Int.toNat_natCast, ← List.map_take, List.take_append_of_le_length (by rw [List.length_map]; exact Nat.le_refl _), List.take_of_length_le (by rw [List.length_map]; exact Nat.le_refl _), emp]
            rw [ecut] at hS
            exact ⟨_, rfl, Sub.ok (by walk_at "sub") hS⟩
        · clear hS
          rintro σ H ⟨pd, rfl, hS⟩
          have hln : (clT m.all).length ≤ 1000 := by
            obtain ⟨R, es, _⟩ := closed_split m.all
            have := closedO_len m.all
            rw [es, List.length_append, List.length_map] at this
            omega
          cases T with
          | non hn2 C => cases im_non (hS.imm (by walk_at "mem" : im (.ref va) PyData.none ∈ _))
          | @lost n m' hn hl e1 e2 C =>
            have hv : im (.ref va) (.tuple [.str "lost", .int n]) ∈ L := hv
            walk_at "s"
            rw [if_pos (by decide +kernel)]
            walk_at "s"
            have okl : OkD 1 (.tuple [.str "lost", .int n]) := ⟨by show 2 ≤ 100000; decide, fun d hd => by
              simp only [List.mem_cons, List.not_mem_nil, or_false] at hd
              rcases hd with rfl | rfl
              · show PyData.strOk _ = true
                decide +kernel
              · trivial⟩
            refine use_sameD (d := .tuple [.str "lost", .int n]) hS (.dat (.im (by walk_at "mem"))) (.dat (.im (by walk_at "mem"))) (OkD.mono (by decide) okl) ?_
            clear hS
            intro H hS
            walk_at "s"
            rw [show decide (m.told + n < (((clT m.all).map PyData.int).length : Nat)) = true from decide_eq_true (by rw [List.length_map]; exact hl)]
            refine k_joinS (fun v (M : List (As K)) => v = V.int (m.told + n) ∧ M = L) ?_ ?_
            · walk_at "s"
              exact ⟨_, ⟨rfl, rfl⟩, Sub.ok (by walk_at "sub") hS⟩
            · clear hS
              rintro v M H ⟨rfl, rfl⟩ hS
              rw [e1] at q
              exact q _ hS
          | @ev c m' hc ht e1 e2 C =>
            have hv : im (.ref va) (.tuple [.str "event", .int m.told, .int c.2.time, .str c.2.kind.1, intsD c.2.vals]) ∈ L := hv
            obtain ⟨ek, evs⟩ := hk c hc
            rw [ek, evs] at hv
            walk_at "s"
            rw [if_neg (by decide +kernel)]
            walk_at "s"
            have htl := (List.getElem?_eq_some_iff.mp ht).1
            have hx : atI ((clT m.all).map PyData.int) m.told = some (.int c.2.time) := by
              have := atI_nat (show ((clT m.all).map PyData.int)[m.told.toNat]? = some (.int c.2.time) by rw [List.getElem?_map, ht]; rfl)
              rwa [Int.toNat_of_nonneg h0] at this
            rw [if_neg (by rw [decide_eq_false (by rw [List.length_map]; omega)]; exact Bool.false_ne_true)]
            walk_at "s"
            refine lc_flat (zs := k.2) (fun f => [PyData.int f.2.1]) hS (fun acc => wk_imm (by walk_at "mem")) (fun j f acc hf hkk _ la => ?_) (fun H hS => ?_)
            · walk_at "gi"
              walk_at "ls"
              refine lc_keep hS (.int _) (by walk_at "sub") ?_ (hkk _ rfl)
              have := (List.getElem?_eq_some_iff.mp hf).1
              have := gk.2.1
              rw [sizeLine_eq]
              omega
            · rw [flat_map] at hS
              have elw : k.2.map (fun f => PyData.int f.2.1) = (lows k).map PyData.int := by
                unfold lows
                rw [List.map_map]
                rfl
              rw [elw] at hS
              walk_at "s"
              have okl : OkD 2 (.tuple [.str "event", .int m.told, .int c.2.time, .str k.1, .tuple ((lows k).map PyData.int)]) := by
                refine ⟨by show 5 ≤ 100000; decide, fun d hd => ?_⟩
                simp only [List.mem_cons, List.not_mem_nil, or_false] at hd
                rcases hd with rfl | rfl | rfl | rfl | rfl
                · show PyData.strOk _ = true
                  decide +kernel
                · trivial
                · trivial
                · show PyData.strOk _ = true
                  unfold PyData.strOk
                  rw [← Array.all_toList, List.all_eq_true]
                  intro x hx'
                  have := gk.1.2.2 x hx'
                  exact decide_eq_true (by omega)
                · refine ⟨by rw [List.length_map]; unfold lows; rw [List.length_map]; have := gk.2.1; omega, fun d hd => ?_⟩
                  obtain ⟨i, _, rfl⟩ := List.mem_map.mp hd
                  trivial
              have hv : im (.ref va) (.tuple [.str "event", .int m.told, .int c.2.time, .str k.1, .tuple ((lows k).map PyData.int)]) ∈ L := hv
              refine k_joinS (fun v (M : List (As K)) => v = V.int (m.told + 1) ∧ M = L) ?_ ?_
              · walk_at "s"
                refine use_sameD (d := .tuple [.str "event", .int m.told, .int c.2.time, .str k.1, .tuple ((lows k).map PyData.int)]) hS (.dat (.im (by walk_at "mem"))) (.dat (.im (by walk_at "mem"))) (OkD.mono (by decide) okl) ?_
                clear hS
                intro H hS
                walk_at "s"
                exact ⟨_, ⟨rfl, rfl⟩, Sub.ok (by walk_at "sub") hS⟩
              · clear hS
                rintro v M H ⟨rfl, rfl⟩ hS
                rw [e1] at q
                exact q _ hS
end Lw
-- own part: q2
namespace Ls
open PySem PySem.Spec PyProof.Rows L2
def otD : Option Th → PyData
  | none => .none
  | some t => thD t
def isEvT : Option Th → Bool
  | some (.inr _) => true
  | _ => false
def evN (ts : List (Option Th)) : Nat := (ts.filter isEvT).length
theorem evN_snoc (ts : List (Option Th)) (o : Option Th) : evN (ts ++ [o]) = evN ts + (if isEvT o = true then 1 else 0) := by
  unfold evN
  rw [List.filter_append, List.length_append, List.filter_cons]
  split <;> rfl
/-- where the law stands: the lane, its plain row, what was taken -/
structure St (room most : Int) (k : Kd) (ts : List (Option Th)) (sg : List Sg) (l : Ln) (m : MM) : Prop where
  B : Bis room most true sg l m
  C : CI (evN ts) m
  hk : ∀ c ∈ m.all, c.2.kind = k ∧ c.2.vals = lows k
  m1 : 2 ≤ most
  m2 : most ≤ 16
  r1 : 5 ≤ room
  r2 : room ≤ 12
section
variable {room most : Int} {k : Kd} {ts : List (Option Th)} {sg : List Sg} {l : Ln} {m : MM}
theorem St.fine (S : St room most k ts sg l m) : l.fine := by
  obtain ⟨hd, bs, I⟩ := S.B.inv
  exact I.fine S.r2 S.m1 S.m2
theorem takesM_pile (m : MM) : (takesM m).2.pile = m.pile := by
  unfold takesM
  split <;> rfl
theorem St.take (S : St room most k ts sg l m) : ∃ sg' o, (takeL l).1 = otD o ∧ (takesM m).1 = otD o ∧ St room most k (ts ++ [o]) sg' (takeL l).2 (takesM m).2 ∧ TakeR m (evN ts) (takesM m) ∧ (takesM m).2.all = m.all ∧ (takesM m).2.pile = m.pile ∧ (o = none → (takesM m).2 = m ∧ ∀ z ∈ wholeM m, z.1 < m.told) ∧ (o ≠ none → m.told + 1 ≤ (takesM m).2.told) := by
  obtain ⟨sg', B', e⟩ := S.B.take
  have T := S.C.take S.B.mono S.B.held_le
  have hp := takesM_pile m
  generalize hr : takesM m = r at B' e T hp ⊢
  cases T with
  | non hn C =>
    refine ⟨sg', none, e, rfl, ⟨B', ?_, S.hk, S.m1, S.m2, S.r1, S.r2⟩, .non hn C, rfl, hp, fun _ => ⟨rfl, hn⟩, fun z => (z rfl).elim⟩
    rw [evN_snoc]
    exact C
  | @lost n m' hn hl e1 e2 C =>
    refine ⟨sg', some (.inl n), e, rfl, ⟨B', ?_, by rw [e2]; exact S.hk, S.m1, S.m2, S.r1, S.r2⟩, .lost hn hl e1 e2 C, e2, hp, (fun z => by cases z), fun _ => by rw [e1]; omega⟩
    rw [evN_snoc]
    exact C
  | @ev c m' hc ht e1 e2 C =>
    refine ⟨sg', some (.inr (m.told, c.2)), e, rfl, ⟨B', ?_, by rw [e2]; exact S.hk, S.m1, S.m2, S.r1, S.r2⟩, .ev hc ht e1 e2 C, e2, hp, (fun z => by cases z), fun _ => by rw [e1]; omega⟩
    rw [evN_snoc]
    exact C
/-- nothing left to be told -/
theorem St.none_due (S : St room most k ts sg l m) (h : ∀ z ∈ wholeM m, z.1 < m.told) : dueL l = [] := by
  refine List.filter_eq_nil_iff.mpr fun z hz q => ?_
  have q := of_decide_eq_true q
  have : keyS m.row z ∈ (wholeM m).map keyW := by rw [← S.B.seen]; exact List.mem_map_of_mem hz
  obtain ⟨w, h1, h2⟩ := List.mem_map.mp this
  have e : w.1 = z.1 := congrArg Prod.fst h2
  have := h w h1
  have := S.B.told
  omega
theorem otD_non {o : Option Th} (h : otD o = .none) : o = none := by
  cases o with
  | none => rfl
  | some t =>
    cases t with
    | inl n => cases h
    | inr z => cases h
theorem St.taken_none (S : St room most k ts sg l m) (h : ∀ z ∈ wholeM m, z.1 < m.told) : (takeL l).1 = .none := by
  unfold takeL
  rw [S.none_due h]
end
theorem k_ixDi {K : PySem.W.Frag} {L : List (As K)} {H : Hp} {a : Addr} {ds : List PyData} {d : PyData} {i : Int} {Q : VK} (h : Ls.Sep L H) (m : Ls.ld a ds ∈ L) (e : atI ds i = some d) (q : ∀ v, Ls.Sep (im v d :: L) H → Q v H) : rIx K (.ref a) (.int i) H Q := by
  obtain ⟨xs, h1, h2⟩ := h.ldm m
  obtain ⟨v, hv, hd⟩ := atI_all h2 e
  exact k_ixL (sql_of h1) hv (q v (Sep.im_iff.mpr ⟨hd, h⟩))
theorem atI_snoc (xs : List PyData) (d : PyData) : atI (xs ++ [d]) (-1) = some d := by
  refine atI_lastD ?_
  rw [List.length_append, List.length_singleton, Nat.add_sub_cancel, List.getElem?_append_right (Nat.le_refl _), Nat.sub_self]
  rfl
def spEmptied (K : PySem.W.Frag) (Z : Cz) : Sp := fun vs H Q _ => ∃ (x rp kp tp : Addr) (us : List V) (room most : Int) (k : Kd) (ts : List (Option Th)) (sg : List Sg) (l : Ln) (m : MM) (L : List (As K)), vs = [.ref x, .int m.told, .ref rp, .ref kp, .ref tp] ∧ ob rp (.lst us) ∈ L ∧ al2 Ls.rowF us m.all ∈ L ∧ im (.ref kp) (kdD k) ∈ L ∧ GoodK k ∧ m.all.length ≤ 1000 ∧ m.pile = [] ∧ ts.length ≤ 1000 ∧ St room most k ts sg l m ∧
  Ls.Sep (laneA Z (.ref x) l :: Ls.ld tp (ts.map otD) :: L) H ∧ ∀ H', Q (.bl true) H'
end Ls
namespace Lw
open PySem PySem.Spec PyProof.Rows L2 Ls
theorem ok__law_emptied {P : Program} {w : World} {K : PySem.W.Frag} {mg : Str → Option Value} {base : Heap} (E : Env K mg) : FnOk P w K mg base CX0 7 E.a__law_emptied E.fd__law_emptied ["_law_lane", "_law_place", "_law_row", "_law_kind", "_law_told"] (spEmptied K ⟨E.C_Kind, E.C_Page, E.C_Lane⟩) := by
  refine E.F__law_emptied.ok sc__law_emptied (fun vs H Q E h => ?_) (fun cdv A outer s H vs Q E' hr h => ?_)
  · walk_at "hl"
  · have hu := huOf hr
    have G_Lane_counts := ok_Lane_counts (P := P) (w := w) (base := base) E
    have hr_Lane_counts := hr.mono (show 1 ≤ 6 by decide)
    have b_Lane_counts := b_Lane_counts E
    have G__law_told_next := ok__law_told_next (P := P) (w := w) (base := base) E
    have hr__law_told_next := hr.mono (show 6 ≤ 6 by decide)
    have b__law_told_next := b__law_told_next E
    have G__law_same := ok__law_same (P := P) (w := w) (base := base) E 4
    have hr__law_same := hr.mono (show 5 ≤ 6 by decide)
    have b__law_same := b__law_same E
    have G_Lane_take := ok_Lane_take (P := P) (w := w) (base := base) E
    have hr_Lane_take := hr.mono (show 3 ≤ 6 by decide)
    have b_Lane_take := b_Lane_take E
    have G_Lane___len__ := ok_Lane___len__ (P := P) (w := w) (base := base) E
    have hr_Lane___len__ := hr.mono (show 2 ≤ 6 by decide)
    have hrm_Lane___len__ := hr.mono (show 2 + 1 ≤ 6 by decide)
    have b_Lane___len__ := b_Lane___len__ E
    have G_Lane_look := ok_Lane_look (P := P) (w := w) (base := base) E
    have hr_Lane_look := hr.mono (show 3 ≤ 6 by decide)
    have b_Lane_look := b_Lane_look E
    have G_Lane_pending := ok_Lane_pending (P := P) (w := w) (base := base) E
    have hr_Lane_pending := hr.mono (show 1 ≤ 6 by decide)
    have b_Lane_pending := b_Lane_pending E
    have hcl_Lane := E.cl_Lane
    have hcl_Kind := E.cl_Kind
    have hcl_Page := E.cl_Page
    obtain ⟨x, rp, kp, tp, us, room, most, k, ts0, sg0, l0, m0, L, rfl, mr, mu, mk, gk, few, hpl, ft, S0, hS, q⟩ := h
    refine ⟨_, PSs.nox (pss_cons (ps_set (i := 5) sc__law_emptied.nd rfl (Or.inl rfl) (pe_callB (call_lenU K rfl) (by rfl) E.n_len boot_len (pa_cons (pe_lc (own := [("_law_one", 6)]) rfl sc__law_emptied.nd (pi_seqU K rfl (pv 2)) (blkOk_by (N := ["_law_lane", "_law_place", "_law_row", "_law_kind", "_law_told", "_law_many", "_law_one", "_law_step", "_law_given", "_law_thrown", "_law_lost", "_law_missed", "_law_taken", "_law_thing"]) (sc := defScope s__law_emptied) (by decide +kernel)) (fun _ _ _ _ _ => (pg_name (i := 6) sc__law_emptied.nd rfl (Or.inl rfl))) (fun _ _ _ _ _ => (pts_one (pt_cmpR (op_eqU K rfl hu) (pe_ix (ix_U K rfl) (pv 6) pe_int (fun _ _ => rfl)) pe_str (nomark _)))) (fun _ _ _ _ _ => (pv 6))) pa_nil)))
(pss_cons (ps_for PassesOwn.never rfl (pi_range1 rfl E.n_range (pa_cons (pe_op (op_addU K rfl) (pe_op op_mul pe_int (pv 5)) pe_int) pa_nil)) (pg_name (i := 7) sc__law_emptied.nd rfl (Or.inl rfl))
(pss_cons (ps_expr (kBM K rfl (pe_bm PySem.F.plainAttrs_list PySem.F.slot_list_append PySem.F.type_list_append mt_append (pv 4) (pa_cons (pe_meth0 (pv 0) E.cl_Lane E.m_Lane_take G_Lane_take hr_Lane_take b_Lane_take .nil pass0) pa_nil))))
(pss_cons (ps_set (i := 1) sc__law_emptied.nd rfl (Or.inl rfl) (pe_call G__law_told_next hr__law_told_next rfl E.g__law_told_next E.F__law_told_next.kp b__law_told_next .nil pass0 (pa_cons (pe_ix (ix_U K rfl) (pv 4) (pe_un un_neg pe_int) (fun _ _ => rfl)) (pa_cons (pv 1) (pa_cons (pv 2) (pa_cons (pv 3) pa_nil))))))
(pss_one (ps_if (pt_cmpR (op_isU) (pv 1) pe_non (nomark _)) (pss_one (ps_ret pe_bl)) pss_nil)))))
(pss_cons (ps_if (PW.pt (pw_or (pt_cmpR (op_isnotU) (pe_ix (ix_U K rfl) (pv 4) (pe_un un_neg pe_int) (fun _ _ => rfl)) pe_non (nomark _)) (pw_or (pt_cmpR (op_neU K rfl hu) (pe_callB (call_lenC E.m_Lane___len__ G_Lane___len__ hrm_Lane___len__ b_Lane___len__ pass0) (by rfl) E.n_len boot_len (pa_cons (pv 0) pa_nil)) pe_int (nomark _)) (pw_or1 (pt_cmpR (op_neZ K rfl hu) (pe_meth0 (pv 0) E.cl_Lane E.m_Lane_look G_Lane_look hr_Lane_look b_Lane_look .nil pass0) (pe_lst pa_nil) (nomark _)))))) (pss_one (ps_ret pe_bl)) pss_nil)
(pss_cons (ps_asg (pe_meth0 (pv 0) E.cl_Lane E.m_Lane_counts G_Lane_counts hr_Lane_counts b_Lane_counts .nil pass0) (kGTup (n := 4) K rfl (pg_tup rfl (pgs_cons (pg_name (i := 8) sc__law_emptied.nd rfl (Or.inl rfl)) (pgs_cons (pg_name (i := 9) sc__law_emptied.nd rfl (Or.inl rfl)) (pgs_cons (pg_name (i := 10) sc__law_emptied.nd rfl (Or.inl rfl)) (pgs_cons (pg_name (i := 11) sc__law_emptied.nd rfl (Or.inl rfl)) pgs_nil)))))))
(pss_cons (ps_set (i := 12) sc__law_emptied.nd rfl (Or.inl rfl) (pe_callB (call_lenU K rfl) (by rfl) E.n_len boot_len (pa_cons (pe_lc (own := [("_law_thing", 13)]) rfl sc__law_emptied.nd (pi_seqU K rfl (pv 4)) (blkOk_by (N := ["_law_lane", "_law_place", "_law_row", "_law_kind", "_law_told", "_law_many", "_law_one", "_law_step", "_law_given", "_law_thrown", "_law_lost", "_law_missed", "_law_taken", "_law_thing"]) (sc := defScope s__law_emptied) (by decide +kernel)) (fun _ _ _ _ _ => (pg_name (i := 13) sc__law_emptied.nd rfl (Or.inl rfl))) (fun _ _ _ _ _ => (pts_one (PW.pt (pw_and (pt_cmpR (op_isnotU) (pv 13) pe_non (nomark _)) (pw_and1 (pt_cmpR (op_eqU K rfl hu) (pe_ix (ix_U K rfl) (pv 13) pe_int (fun _ _ => rfl)) pe_str (nomark _))))))) (fun _ _ _ _ _ => (pv 13))) pa_nil)))
(pss_one (ps_ret (pe_and (pe_cmpR (op_eqU K rfl hu) (pv 8) (pv 5) (nomark _)) (pe_and (pe_cmpR (op_eqU K rfl hu) (pe_op (op_addU K rfl) (pv 12) (pv 10)) (pv 5) (nomark _)) (pe_one (pe_call G__law_same hr__law_same rfl E.g__law_same E.F__law_same.kp b__law_same .nil pass0 (pa_cons (pe_meth0 (pv 0) E.cl_Lane E.m_Lane_pending G_Lane_pending hr_Lane_pending b_Lane_pending .nil pass0) (pa_cons (pe_lst pa_nil) pa_nil))))))))))))), ?_⟩
    refine k_body (s1 := some _ :: some _ :: some _ :: some _ :: some _ :: [none, none, none, none, none, none, none, none, none]) rfl ?_
    walk_at "s"
    refine lc_filt (fun c : MC => c.2.giv) hS (fun acc N => wk_ob2 (f := rowF) (by walk_at "mem") (by walk_at "mem")) (fun i v c acc N hv hc la li eN kp2 sk H hS => ?_) (fun acc H hS => ?_)
    · replace hS := hS.dup List.mem_cons_self
      replace hS := hS.rowF
      obtain ⟨ra, ev, hS⟩ := hS
      subst ev
      unfold row3 at hS
      walk_at "ls"
      refine k_ixF (d := .str (mk3 c.2.mark)) hS (by walk_at "mem") rfl ?_
      walk_at "gv"
      walk_at "s"
      by_cases e : c.2.mark = "given"
      · rw [if_pos (decide_eq_true (Eq.mpr (mk3_given _) e))]
        walk_at "s"
        exact kp2 (decide_eq_true e) hS (by walk_at "sub") (by rw [sizeLine_eq]; omega)
      · rw [if_neg (by rw [decide_eq_false (fun z => e (Eq.mp (mk3_given _) z))]; exact Bool.false_ne_true)]
        exact sk (decide_eq_false e) hS (by walk_at "sub")
    · have hl := hS.len2 (List.mem_cons_of_mem _ List.mem_cons_self)
      have hl2 : acc.length = gvn m0.all := hl
      have hlf : (m0.all.filter fun c => c.2.giv).length ≤ m0.all.length := List.length_filter_le _ _
      have hl3 : acc.length ≤ 1000 := by omega
      generalize hmany : acc.length = many at hl hl2 hl3
      walk_at "s"
      rw [hmany]
      refine for_wk (n := (2 * (many : Int) + 2).toNat) (fun i σ L' => ∃ sg l m ts, L' = laneA ⟨E.C_Kind, E.C_Page, E.C_Lane⟩ (.ref x) l :: Ls.ld tp (ts.map otD) :: L ∧ St room most k ts sg l m ∧ m.all = m0.all ∧ m.pile = [] ∧ ts.length = ts0.length + i ∧ (i = 0 ∨ (ts.getLast? = some none ∧ ∀ z ∈ wholeM m, z.1 < m.told) ∨ (i : Int) ≤ m.told) ∧ ∃ c7, σ = [some (.ref x), some (.int m.told), some (.ref rp), some (.ref kp), some (.ref tp), some (.int (many : Nat)), none, c7, none, none, none, none, none, none]) (fun i σ L' _ => wk_rng) (Sub.ok (by walk_at "sub") hS) ⟨sg0, l0, m0, ts0, rfl, S0, rfl, hpl, rfl, .inl rfl, _, rfl⟩ (fun i σ L' hi iv H hS9 => ?_) (fun σ L' H iv hS9 => ?_)
      · obtain ⟨sg, l, m, ts, rfl, S, ea, ep, hlen, hpr, c7, rfl⟩ := iv
        clear hS
        have hS := hS9
        clear hS9
        walk_at "ns"
        walk_at "s"
        refine ⟨x, l, _, rfl, S.fine, hS, ?_⟩
        clear hS
        intro v H hS
        obtain ⟨sg', o, eo, eo2, S', T, ea2, ep2, h1, h2⟩ := S.take
        rw [eo] at hS
        walk_at "s"
        refine k_ixDi hS (by walk_at "mem") (atI_snoc _ _) ?_
        clear hS
        intro v2 hS
        walk_at "s"
        refine ⟨v2, rp, kp, us, k, evN ts, m, takesM m, _, rfl, by rw [eo2]; walk_at "mem", by walk_at "mem", by rw [ea]; walk_at "mem", by walk_at "mem", gk, by rw [ea]; exact few, S.hk, S.C.ge, T, hS, ?_⟩
        clear hS
        intro H hS
        walk_at "s"
        refine ⟨_, ⟨sg', (takeL l).2, (takesM m).2, ts ++ [o], rfl, S', ea2.trans ea, ep2.trans ep, by rw [List.length_append, hlen]; rfl, ?_, _, rfl⟩, ?_⟩
        · by_cases ho : o = none
          · subst ho
            obtain ⟨e1, e2⟩ := h1 rfl
            rw [e1]
            exact .inr (.inl ⟨List.getLast?_concat .., e2⟩)
          · refine .inr (.inr ?_)
            have h3 := h2 ho
            rcases hpr with e | ⟨_, e⟩ | e
            · have := S.C.ge
              push_cast
              omega
            · exact absurd (otD_non (eo.symm.trans (S.taken_none e))) ho
            · push_cast
              omega
        · have e3 : (ts ++ [o]).map otD = ts.map otD ++ [otD o] := by rw [List.map_append]; rfl
          rw [e3]
          exact Sub.ok (by walk_at "sub") hS
      · obtain ⟨sg, l, m, ts, rfl, S, ea, ep, hlen, hpr, c7, rfl⟩ := iv
        clear hS
        have hS := hS9
        clear hS9
        have hle := S.C.le
        have hcl := clT_len m.all
        rw [ea] at hle hcl
        have hend : ts.getLast? = some none ∧ ∀ z ∈ wholeM m, z.1 < m.told := by
          rcases hpr with e | e | e
          · omega
          · exact e
          · omega
        obtain ⟨hlast, hno⟩ := hend
        obtain ⟨ys, ey⟩ : ∃ ys, ts = ys ++ [none] := List.getLast?_eq_some_iff.mp hlast
        have hdue := S.none_due hno
        have e4 : ts.map otD = ys.map otD ++ [PyData.none] := by rw [ey, List.map_append]; rfl
        have hx : atI (ts.map otD) (-1) = some .none := by rw [e4]; exact atI_snoc _ _
        have hop : ∀ c ∈ m.all, c.2.mark ≠ "open" := fun c hc e => by
          have := S.B.opn
          rw [ep] at this
          have h0 := List.map_eq_nil_iff.mp this
          have := List.filter_eq_nil_iff.mp h0 c hc
          exact this (decide_eq_true e)
        have hfin := S.C.fin hop hno
        have hgiv := S.C.giv
        rw [ea] at hgiv
        walk_at "s"
        rw [if_neg (by simp)]
        walk_at "s"
        refine k_lenLn hS (by walk_at "mem") ?_
        refine ⟨x, l, _, rfl, S.fine, hS, ?_⟩
        clear hS
        intro H hle2 hS
        rw [hdue, List.length_nil]
        refine ⟨0, rfl, by decide, by decide, ?_⟩
        walk_at "s"
        refine ⟨x, l, _, rfl, S.fine, hS, ?_⟩
        clear hS
        intro pk H _ hS
        have etd : toldD l.coming l = [] := by
          unfold toldD
          rw [toldT_nil hdue]
          rfl
        rw [etd] at hS
        walk_at "s"
        rw [if_neg (by simp)]
        walk_at "s"
        refine ⟨.ref x, l, _, rfl, Sub.ok (by walk_at "sub") hS, ?_⟩
        clear hS
        intro pq H hS
        unfold cntD at hS
        walk_at "s"
        have gv0 : ∀ q : V → List (As K) → Prop, Gv PyData.none q → Gv (otD none) q := fun _ h => h
        have gv1 : ∀ (n : Int) (q : V → List (As K) → Prop), Gv (PyData.tuple [.str "lost", .int n]) q → Gv (otD (some (.inl n))) q := fun _ _ h => h
        have gv2 : ∀ (w : Int × Clm) (q : V → List (As K) → Prop), Gv (PyData.tuple [.str "event", .int w.1, .int w.2.time, .str w.2.kind.1, intsD w.2.vals]) q → Gv (otD (some (.inr w))) q := fun _ _ h => h
        refine lc_flat (zs := ts) (fun z => if isEvT z = true then [otD z] else []) hS (fun acc => wk_ldm (by walk_at "mem")) (fun j z acc hz hkk hsk la => ?_) (fun H hS => ?_) (hr := fun z => by split <;> simp)
        · have hjl := (List.getElem?_eq_some_iff.mp hz).1
          cases z with
          | none =>
            refine gv0 _ ?_
            walk_at "gi"
            walk_at "ls"
            rw [if_neg (by simp)]
            walk_at "s"
            exact lc_skip hS (by walk_at "sub") (hsk rfl)
          | some th =>
            cases th with
            | inl n =>
              refine gv1 n _ ?_
              walk_at "gi"
              walk_at "ls"
              rw [if_pos (by simp)]
              walk_at "s"
              rw [if_neg (by decide +kernel)]
              exact lc_skip hS (by walk_at "sub") (hsk rfl)
            | inr w =>
              refine gv2 w _ ?_
              walk_at "gi"
              walk_at "ls"
              rw [if_pos (by simp)]
              walk_at "s"
              rw [if_pos (by decide +kernel)]
              walk_at "s"
              exact lc_keep (d := PyData.tuple [.str "event", .int w.1, .int w.2.time, .str w.2.kind.1, intsD w.2.vals]) hS (.im (by walk_at "mem")) (by walk_at "sub") (by rw [sizeLine_eq]; omega) (hkk _ rfl)
        · rw [flat_filter] at hS
          walk_at "s"
          have hbg := S.B.given
          have hbo := S.B.gone
          rw [if_pos (decide_eq_true (by omega))]
          walk_at "s"
          rw [List.length_map, if_pos (decide_eq_true (by
            have : (ts.filter isEvT).length = evN ts := rfl
            omega))]
          walk_at "s"
          refine ⟨.ref x, l, _, rfl, Sub.ok (by walk_at "sub") hS, ?_⟩
          clear hS
          intro pp H hS
          rw [show l.pile = [] by rw [← S.B.pile]; exact ep, List.map_nil] at hS
          walk_at "s"
          refine use_sameD (d := .list []) hS (.ld (by walk_at "mem")) (.ld (by walk_at "mem")) (show OkD 4 (.list []) from ⟨by decide, fun d hd => by cases hd⟩) ?_
          intro H _
          exact q _
end Lw
-- own part: q3
namespace Ls
open PySem PySem.Spec PyProof.Rows L2
section
variable {room most : Int} {k : Kd} {ts : List (Option Th)} {sg : List Sg} {l : Ln} {m : MM} {t n : Int}
theorem claimsM_or' (k : Kd) (t : Int) (m : MM) : (claimsM k t m).2.time = some t ∧ (((claimsM k t m).1 = none ∧ (claimsM k t m).2.all = m.all ∧ (claimsM k t m).2.pile = m.pile ∧ (claimsM k t m).2.told = m.told) ∨ ((claimsM k t m).1 = some (m.tickets + 1) ∧ (∃ p, (claimsM k t m).2.all = m.all ++ [(p, ⟨m.tickets + 1, t, k, lows k, "open"⟩)]) ∧ (claimsM k t m).2.pile = m.pile ++ [m.tickets + 1] ∧ (claimsM k t m).2.told = m.told)) := by
  unfold claimsM
  split
  · exact ⟨rfl, .inl ⟨rfl, rfl, rfl, rfl⟩⟩
  · unfold turnedM
    split
    · obtain ⟨t1, t2, t3, _, _, _, _, t4, t5⟩ := turns_f (begM t m)
      refine ⟨t4, .inr ⟨rfl, ⟨lastR (turnsM (begM t m)).2, ?_⟩, ?_, t5⟩⟩
      · unfold pushM
        rw [t1, t2]
        rfl
      · unfold pushM
        rw [t3, t2]
        rfl
    · exact ⟨rfl, .inr ⟨rfl, ⟨_, rfl⟩, rfl, rfl⟩⟩
theorem row_upd {mk M : Str} {c : MC} (hM : mk3 mk = M) (e : c.2.tick = n) : row3 (updM n (mkF mk) c) = [.int c.2.tick, .int c.2.time, .str M] := by
  unfold row3 updM updC
  rw [if_pos e]
  show [PyData.int c.2.tick, PyData.int c.2.time, PyData.str (mk3 mk)] = _
  rw [hM]
theorem St.claim (S : St room most k ts sg l m) (gk : GoodK k) (t : Int) : ∃ sg', St room most k ts sg' (claimL k t l).2 (claimsM k t m).2 ∧ (claimL k t l).1 = (claimsM k t m).1 := by
  obtain ⟨sg', B', e⟩ := S.B.claim S.m1 S.r1 gk t
  obtain ⟨hd, bs, I⟩ := S.B.inv
  have hm : 2 ≤ m.most := by rw [S.B.most, I.emost]; exact S.m1
  have lt : ∀ c ∈ m.all, c.1 < m.pages := by rw [S.B.all]; exact S.B.ok.lt
  refine ⟨sg', ⟨B', S.C.claim hm S.B.nd lt k t, ?_, S.m1, S.m2, S.r1, S.r2⟩, e⟩
  rcases (claimsM_or' k t m).2 with ⟨_, e2, _⟩ | ⟨_, ⟨p, e2⟩, _⟩
  · rw [e2]; exact S.hk
  · rw [e2]
    intro c hc
    rcases List.mem_append.mp hc with q | q
    · exact S.hk c q
    · rw [List.mem_singleton.mp q]
      exact ⟨rfl, rfl⟩
theorem St.hk_set {q : Nat} {c : MC} {mk : Str} (S : St room most k ts sg l m) (hq : m.all[q]? = some c) : ∀ d ∈ setAt q (mkMC mk) m.all, d.2.kind = k ∧ d.2.vals = lows k := by
  rw [setAt_eq hq]
  intro d hd
  rcases List.mem_or_eq_of_mem_set hd with z | z
  · exact S.hk d z
  · rw [z]
    exact S.hk c (List.mem_of_getElem? hq)
theorem St.give (S : St room most k ts sg l m) (hp : m.pile = m.pile.dropLast ++ [n]) : ∃ i j r q c sg', spotsB n l.book = (i, j) :: r ∧ FirstC n m.all q c ∧ St room most k ts sg' (giveL i j l) (givesM q m) := by
  have hpl : l.pile = l.pile.dropLast ++ [n] := by rw [← S.B.pile]; exact hp
  have hn : n ∈ l.pile := by rw [hpl]; exact List.mem_append_right _ List.mem_cons_self
  obtain ⟨hd, bs, I⟩ := S.B.inv
  obtain ⟨i, j, r, hs⟩ := I.spots hn
  obtain ⟨q, c, hf, ho⟩ := S.B.first hn
  obtain ⟨sg', B'⟩ := S.B.give hpl hs hf
  exact ⟨i, j, r, q, c, sg', hs, hf, B', S.C.close (mk := "given") hf.1 ho (S.B.open_row (List.mem_of_getElem? hf.1) ho) (by decide +kernel) _ _ _ (by rw [if_pos rfl]), S.hk_set hf.1, S.m1, S.m2, S.r1, S.r2⟩
theorem St.throw (S : St room most k ts sg l m) (hp : m.pile = m.pile.dropLast ++ [n]) : ∃ i j r q c sg', ∃ mk : Str, (mk = ("thrown" : Str) ∨ mk = ("freed" : Str)) ∧ spotsB n l.book = (i, j) :: r ∧ FirstC n m.all q c ∧ St room most k ts sg' (throwL i j n l) { m with all := setAt q (mkMC mk) m.all, pile := m.pile.dropLast, back := m.back + 1 } := by
  have hpl : l.pile = l.pile.dropLast ++ [n] := by rw [← S.B.pile]; exact hp
  have hn : n ∈ l.pile := by rw [hpl]; exact List.mem_append_right _ List.mem_cons_self
  obtain ⟨hd, bs, I⟩ := S.B.inv
  obtain ⟨i, j, r, hs⟩ := I.spots hn
  obtain ⟨q, c, hf, ho⟩ := S.B.first hn
  obtain ⟨sg', mk0, hmk0, B'⟩ := S.B.throw hpl hs hf
  obtain ⟨mk, emk⟩ : ∃ mk : Str, mk = Str.ofString mk0 := ⟨_, rfl⟩
  have hmk : mk = ("thrown" : Str) ∨ mk = ("freed" : Str) := by rw [emk]; exact hmk0.imp (fun e => by rw [e]) fun e => by rw [e]
  rw [← emk] at B'
  have h1 : mk ≠ ("open" : Str) := by rcases hmk with rfl | rfl <;> decide +kernel
  have h2 : mk ≠ ("given" : Str) := by rcases hmk with rfl | rfl <;> decide +kernel
  exact ⟨i, j, r, q, c, sg', mk, hmk, hs, hf, B', S.C.close (mk := mk) hf.1 ho (S.B.open_row (List.mem_of_getElem? hf.1) ho) h1 m.given _ _ (by rw [if_neg h2, Int.add_zero]), S.hk_set hf.1, S.m1, S.m2, S.r1, S.r2⟩
theorem St.tks (S : St room most k ts sg l m) : (m.all.map fun c => c.2.tick).Pairwise (· < ·) := by
  rw [S.B.all]
  exact S.B.ok.tks
theorem St.start (many wide : Int) (h1 : 2 ≤ many) (h2 : many ≤ 16) (h3 : 5 ≤ wide) (h4 : wide ≤ 12) : ∃ sg, St wide many k [] sg (newLn many wide true) (emptyM many wide true) := by
  obtain ⟨sg, B⟩ : ∃ sg, Bis wide many true sg (newLn many wide true) (emptyM many wide true) := ⟨_, Bis.start h1 (by omega)⟩
  refine ⟨sg, B, ⟨rfl, rfl, (fun z hz => by cases hz), Int.le_refl 0, Int.le_refl 0⟩, (fun c hc => by cases hc), h1, h2, h3, h4⟩
end
theorem Sep.newIm {K : PySem.W.Frag} {L : List (As K)} {H : Hp} {p : Addr} {xs : List V} {ds : List PyData} (h : Ls.Sep L H) (hp : H p = none) (h2 : ImAll K H xs ds) : Ls.Sep (Ls.ld p ds :: L) (upd H p (.lst xs)) := by
  have z := (h.newD (p := p) (xs := []) (ds := []) hp .nil).setD (xs := xs) (es := ds) (h2.mono (Tp.new hp))
  have e : upd (upd H p (.lst [])) p (.lst xs) = upd H p (.lst xs) := by
    funext b
    by_cases hb : b = p
    · rw [hb, upd_same, upd_same]
    · rw [upd_ne hb, upd_ne hb, upd_ne hb]
  rw [e] at z
  exact z
end Ls
namespace Lw
open PySem PySem.Spec PyProof.Rows L2 Ls
theorem ok_law {P : Program} {w : World} {K : PySem.W.Frag} {mg : Str → Option Value} {base : Heap} (E : Env K mg) : FnOk P w K mg base CX0 9 E.a_law E.fd_law ["_law_script"] (spLaw K) := by
  refine E.F_law.ok sc_law (fun vs H Q E h => ?_) (fun cdv A outer s H vs Q E' hr h => ?_)
  · walk_at "hl"
  · have hu := huOf hr
    have G__law_begin := ok__law_begin (P := P) (w := w) (base := base) E
    have hr__law_begin := hr.mono (show 1 ≤ 8 by decide)
    have b__law_begin := b__law_begin E
    have G__law_kinds_for := ok__law_kinds_for (P := P) (w := w) (base := base) E
    have hr__law_kinds_for := hr.mono (show 6 ≤ 8 by decide)
    have b__law_kinds_for := b__law_kinds_for E
    have G_Lane___init__ := ok_Lane___init__ (P := P) (w := w) (base := base) E
    have hr_Lane___init__ := hr.mono (show 3 ≤ 8 by decide)
    have hrm_Lane := hr.mono (show 3 + 1 ≤ 8 by decide)
    have G__law_emptied := ok__law_emptied (P := P) (w := w) (base := base) E
    have hr__law_emptied := hr.mono (show 7 ≤ 8 by decide)
    have b__law_emptied := b__law_emptied E
    have G__law_pick := ok__law_pick (P := P) (w := w) (base := base) E
    have hr__law_pick := hr.mono (show 1 ≤ 8 by decide)
    have b__law_pick := b__law_pick E
    have G_Lane_give := ok_Lane_give (P := P) (w := w) (base := base) E
    have hr_Lane_give := hr.mono (show 3 ≤ 8 by decide)
    have b_Lane_give := b_Lane_give E
    have G_Lane_claim := ok_Lane_claim (P := P) (w := w) (base := base) E
    have hr_Lane_claim := hr.mono (show 5 ≤ 8 by decide)
    have b_Lane_claim := b_Lane_claim E
    have G_Kind___init__ := ok_Kind___init__ (P := P) (w := w) (base := base) E
    have hr_Kind___init__ := hr.mono (show 3 ≤ 8 by decide)
    have hrm_Kind := hr.mono (show 3 + 1 ≤ 8 by decide)
    have b_Kind___init__ := b_Kind___init__ E
    have G_Lane_throw := ok_Lane_throw (P := P) (w := w) (base := base) E
    have hr_Lane_throw := hr.mono (show 3 ≤ 8 by decide)
    have b_Lane_throw := b_Lane_throw E
    have G__law_told_next := ok__law_told_next (P := P) (w := w) (base := base) E
    have hr__law_told_next := hr.mono (show 6 ≤ 8 by decide)
    have b__law_told_next := b__law_told_next E
    have G_Lane_take := ok_Lane_take (P := P) (w := w) (base := base) E
    have hr_Lane_take := hr.mono (show 3 ≤ 8 by decide)
    have b_Lane_take := b_Lane_take E
    have hcl_Lane := E.cl_Lane
    have hcl_Kind := E.cl_Kind
    have hcl_Page := E.cl_Page
    obtain ⟨_, kb_Lane___init____pages_room⟩ := kb_Lane___init____pages_room0 E
    obtain ⟨a, ns, rfl, hs, hl, q⟩ := h
    refine ⟨_, PSs.nox (pss_cons (ps_set (i := 1) sc_law.nd rfl (Or.inl rfl) (pe_call G__law_begin hr__law_begin rfl E.g__law_begin E.F__law_begin.kp b__law_begin .nil pass0 (pa_cons (pv 0) pa_nil)))
(pss_cons (ps_set (i := 2) sc_law.nd rfl (Or.inl rfl) (pe_call G__law_kinds_for hr__law_kinds_for rfl E.g__law_kinds_for E.F__law_kinds_for.kp b__law_kinds_for .nil pass0 (pa_cons (pv 1) pa_nil)))
(pss_cons (ps_par (i := 3) (j := 4) rfl sc_law.nd rfl rfl (by decide) rfl rfl (pa_cons (pe_op (op_addU K rfl) pe_int (pe_call G__law_pick hr__law_pick rfl E.g__law_pick E.F__law_pick.kp b__law_pick .nil pass0 (pa_cons (pv 1) (pa_cons pe_int pa_nil)))) (pa_cons (pe_op (op_addU K rfl) pe_int (pe_call G__law_pick hr__law_pick rfl E.g__law_pick E.F__law_pick.kp b__law_pick .nil pass0 (pa_cons (pv 1) (pa_cons pe_int pa_nil)))) pa_nil)) (by with_unfolding_all rfl))
(pss_cons (ps_set (i := 5) sc_law.nd rfl (Or.inl rfl) (pe_makeK0 E.mk_Lane G_Lane___init__ hrm_Lane rfl E.g_Lane kb_Lane___init____pages_room pass0 (pk_cons (pv 3) (pk_cons (pv 4) pk_nil))))
(pss_cons (ps_set (i := 6) sc_law.nd rfl (Or.inl rfl) (pe_lst pa_nil))
(pss_cons (ps_set (i := 7) sc_law.nd rfl (Or.inl rfl) (pe_lst pa_nil))
(pss_cons (ps_set (i := 8) sc_law.nd rfl (Or.inl rfl) (pe_lst pa_nil))
(pss_cons (ps_set (i := 9) sc_law.nd rfl (Or.inl rfl) pe_int)
(pss_cons (ps_for PassesOwn.never rfl (pi_range1 rfl E.n_range (pa_cons (pe_op (op_addU K rfl) pe_int (pe_call G__law_pick hr__law_pick rfl E.g__law_pick E.F__law_pick.kp b__law_pick .nil pass0 (pa_cons (pv 1) (pa_cons pe_int pa_nil)))) pa_nil)) (pg_name (i := 10) sc_law.nd rfl (Or.inl rfl))
(pss_cons (ps_set (i := 11) sc_law.nd rfl (Or.inl rfl) (pe_call G__law_pick hr__law_pick rfl E.g__law_pick E.F__law_pick.kp b__law_pick .nil pass0 (pa_cons (pv 1) (pa_cons pe_int pa_nil))))
(pss_one (ps_if (pt_cmpR (op_lt) (pv 11) pe_int (nomark _)) (pss_cons (ps_set (i := 12) sc_law.nd rfl (Or.inr rfl) (pe_meth (pv 5) E.cl_Lane E.m_Lane_claim G_Lane_claim hr_Lane_claim b_Lane_claim .nil pass0 (pa_cons (pe_make E.mk_Kind G_Kind___init__ hrm_Kind rfl E.g_Kind b_Kind___init__ .nil pass0 (pa_cons (pe_ix (ix_U K rfl) (pe_ix (ix_U K rfl) (pv 2) pe_int (fun _ _ => rfl)) pe_int (fun _ _ => rfl)) (pa_cons (pe_ix (ix_U K rfl) (pe_ix (ix_U K rfl) (pv 2) pe_int (fun _ _ => rfl)) pe_int (fun _ _ => rfl)) pa_nil))) (pa_cons (pv 10) pa_nil))))
(pss_one (ps_if (pt_cmpR (op_isnotU) (pv 12) pe_non (nomark _)) (pss_cons (ps_expr (kBM K rfl (pe_bm PySem.F.plainAttrs_list PySem.F.slot_list_append PySem.F.type_list_append mt_append (pv 7) (pa_cons (pv 12) pa_nil))))
(pss_one (ps_expr (kBM K rfl (pe_bm PySem.F.plainAttrs_list PySem.F.slot_list_append PySem.F.type_list_append mt_append (pv 6) (pa_cons (pe_lst (pa_cons (pv 12) (pa_cons (pv 10) (pa_cons pe_str pa_nil)))) pa_nil)))))) pss_nil))) (pss_one (ps_if (PW.pt (pw_and (pt_cmpR (op_lt) (pv 11) pe_int (nomark _)) (pw_and1 (pt_cmpR (op_neZ K rfl hu) (pv 7) (pe_lst pa_nil) (nomark _))))) (pss_cons (ps_set (i := 12) sc_law.nd rfl (Or.inr rfl) (kBM0 K rfl (pe_bm0 PySem.F.plainAttrs_list PySem.F.slot_list_pop PySem.F.type_list_pop mt_pop (pv 7))))
(pss_cons (ps_set (i := 13) sc_law.nd rfl (Or.inr rfl) (pe_ix (ix_U K rfl) (pe_lst (pa_cons pe_str (pa_cons pe_str pa_nil))) (pe_callTy (call_int1) (by rfl) E.n_int boot_int (pa_cons (pe_cmpR (op_eqU K rfl hu) (pe_call G__law_pick hr__law_pick rfl E.g__law_pick E.F__law_pick.kp b__law_pick .nil pass0 (pa_cons (pv 1) (pa_cons pe_int pa_nil))) pe_int (nomark _)) pa_nil)) (fun _ _ => rfl)))
(pss_cons (ps_setLc (i := 6) (own := [("_law_one", 14)]) rfl sc_law.nd rfl rfl (sw_true rfl rfl rfl (by decide +kernel)) (pi_seqU K rfl (pv 6)) (blkOk_by (N := ["_law_script", "_law_d", "_law_kinds", "_law_many", "_law_wide", "_law_lane", "_law_row", "_law_pile", "_law_told", "_law_place", "_law_turn", "_law_way", "_law_ticket", "_law_mark", "_law_one"]) (sc := defScope s_law) (by decide +kernel)) (fun _ _ _ _ _ => (pg_name (i := 14) sc_law.nd rfl (Or.inl rfl))) (fun _ _ _ _ _ => pts_nil) (fun _ _ _ _ _ => (pe_join (pe_ifExp (pt_cmpR (op_eqU K rfl hu) (pe_ix (ix_U K rfl) (pv 14) pe_int (fun _ _ => rfl)) (pv 12) (nomark _)) (pe_lst (pa_cons (pe_ix (ix_U K rfl) (pv 14) pe_int (fun _ _ => rfl)) (pa_cons (pe_ix (ix_U K rfl) (pv 14) pe_int (fun _ _ => rfl)) (pa_cons (pv 13) pa_nil)))) (pv 14)))))
(pss_one (ps_if (pt_cmpR (op_eqU K rfl hu) (pv 13) pe_str (nomark _)) (pss_one (ps_expr (pe_meth (pv 5) E.cl_Lane E.m_Lane_give G_Lane_give hr_Lane_give b_Lane_give .nil pass0 (pa_cons (pv 12) pa_nil)))) (pss_one (ps_expr (pe_meth (pv 5) E.cl_Lane E.m_Lane_throw G_Lane_throw hr_Lane_throw b_Lane_throw .nil pass0 (pa_cons (pv 12) pa_nil))))))))) (pss_one (ps_if (pt_cmpR (op_eqU K rfl hu) (pv 11) pe_int (nomark _)) (pss_cons (ps_expr (kBM K rfl (pe_bm PySem.F.plainAttrs_list PySem.F.slot_list_append PySem.F.type_list_append mt_append (pv 8) (pa_cons (pe_meth0 (pv 5) E.cl_Lane E.m_Lane_take G_Lane_take hr_Lane_take b_Lane_take .nil pass0) pa_nil))))
(pss_cons (ps_set (i := 9) sc_law.nd rfl (Or.inl rfl) (pe_call G__law_told_next hr__law_told_next rfl E.g__law_told_next E.F__law_told_next.kp b__law_told_next .nil pass0 (pa_cons (pe_ix (ix_U K rfl) (pv 8) (pe_un un_neg pe_int) (fun _ _ => rfl)) (pa_cons (pv 9) (pa_cons (pv 6) (pa_cons (pe_ix (ix_U K rfl) (pv 2) pe_int (fun _ _ => rfl)) pa_nil))))))
(pss_one (ps_if (pt_cmpR (op_isU) (pv 9) pe_non (nomark _)) (pss_one (ps_ret pe_bl)) pss_nil)))) pss_nil))))))))
(pss_cons (ps_for PassesOwn.never rfl (pi_seqU K rfl (kRevL K rfl (pe_revL (pv 7)))) (pg_name (i := 12) sc_law.nd rfl (Or.inr rfl))
(pss_cons (ps_expr (pe_meth (pv 5) E.cl_Lane E.m_Lane_give G_Lane_give hr_Lane_give b_Lane_give .nil pass0 (pa_cons (pv 12) pa_nil)))
(pss_one (ps_setLc (i := 6) (own := [("_law_one", 14)]) rfl sc_law.nd rfl rfl (sw_true rfl rfl rfl (by decide +kernel)) (pi_seqU K rfl (pv 6)) (blkOk_by (N := ["_law_script", "_law_d", "_law_kinds", "_law_many", "_law_wide", "_law_lane", "_law_row", "_law_pile", "_law_told", "_law_place", "_law_turn", "_law_way", "_law_ticket", "_law_mark", "_law_one"]) (sc := defScope s_law) (by decide +kernel)) (fun _ _ _ _ _ => (pg_name (i := 14) sc_law.nd rfl (Or.inl rfl))) (fun _ _ _ _ _ => pts_nil) (fun _ _ _ _ _ => (pe_join (pe_ifExp (pt_cmpR (op_eqU K rfl hu) (pe_ix (ix_U K rfl) (pv 14) pe_int (fun _ _ => rfl)) (pv 12) (nomark _)) (pe_lst (pa_cons (pe_ix (ix_U K rfl) (pv 14) pe_int (fun _ _ => rfl)) (pa_cons (pe_ix (ix_U K rfl) (pv 14) pe_int (fun _ _ => rfl)) (pa_cons pe_str pa_nil)))) (pv 14))))))))
(pss_one (ps_ret (pe_call G__law_emptied hr__law_emptied rfl E.g__law_emptied E.F__law_emptied.kp b__law_emptied .nil pass0 (pa_cons (pv 5) (pa_cons (pv 9) (pa_cons (pv 6) (pa_cons (pe_ix (ix_U K rfl) (pv 2) pe_int (fun _ _ => rfl)) (pa_cons (pv 8) pa_nil)))))))))))))))))), ?_⟩
    refine k_body (s1 := some _ :: [none, none, none, none, none, none, none, none, none, none, none, none, none, none]) rfl ?_
    walk_at "s"
    refine use_beginS (L := []) Sep.nil hs hl (fun d H hS => ?_)
    walk_at "s"
    refine ⟨d, _, rfl, hS, by walk_at "mem", ?_⟩
    clear hS
    intro kb ks H l1 l3 gk hS
    obtain ⟨k, kr, rfl⟩ : ∃ k kr, ks = k :: kr := by
      cases ks with
      | nil => simp at l1
      | cons k kr => exact ⟨k, kr, rfl⟩
    rw [List.map_cons] at hS
    have gk1 := gk k List.mem_cons_self
    walk_at "s"
    walk_at "pk"
    intro r1 H hS r10 r11
    walk_at "s"
    walk_at "pk"
    intro r2 H hS r20 r21
    walk_at "s"
    simp only [List.set_cons_succ, List.set_cons_zero]
    walk_at "s"
    generalize hmany : 2 + r1 = many
    generalize hwide : 5 + r2 = wide
    refine ⟨rfl, rfl, k_madeK hS ?_⟩
    clear hS
    intro xl H hS
    refine ⟨xl, many, wide, true, _, rfl, by omega, by omega, by omega, by omega, hS, ?_⟩
    clear hS
    intro H hS
    refine ⟨rfl, ?_⟩
    obtain ⟨sg0, S0⟩ := St.start (k := k) many wide (by omega) (by omega) (by omega) (by omega)
    walk_at "s"
    walk_at "pk"
    intro r3 H hS r30 r31
    rename_i rp0 _ pp _
    rename Addr => tp
    walk_at "s"
    replace hS := Sep.nil2 (f := rowF) (Sep.ldnil (hS.rem (A := Ls.ld rp0 []) (by walk_at "rem")))
    have hS0 : Ls.Sep (K := K) [ob rp0 (.lst []), al2 rowF [] (emptyM many wide true).all, laneA ⟨E.C_Kind, E.C_Page, E.C_Lane⟩ (.ref xl) (newLn many wide true), Ls.ld pp ((emptyM many wide true).pile.map PyData.int), Ls.ld tp (([] : List (Option Th)).map otD), Ls.ld kb (kdD k :: kr.map kdD), dr d] H := by
      show Ls.Sep (K := K) [ob rp0 (.lst []), al2 rowF [] [], laneA ⟨E.C_Kind, E.C_Page, E.C_Lane⟩ (.ref xl) (newLn many wide true), Ls.ld pp [], Ls.ld tp [], Ls.ld kb (kdD k :: kr.map kdD), dr d] H
      exact Sub.ok (by walk_at "sub") hS
    clear hS
    refine for_wk (n := (10 + r3).toNat) (fun i σ L' => ∃ ts sg l m us rp c10 c11 c12 c13 c14, L' = [ob rp (.lst us), al2 rowF us m.all, laneA ⟨E.C_Kind, E.C_Page, E.C_Lane⟩ (.ref xl) l, Ls.ld pp (m.pile.map PyData.int), Ls.ld tp (ts.map otD), Ls.ld kb (kdD k :: kr.map kdD), dr d] ∧ Ls.St wide many k ts sg l m ∧ m.all.length ≤ i ∧ ts.length ≤ i ∧ (∀ u, l.latest = some u → u < i) ∧ σ = [some (.ref a), some (.ref d), some (.ref kb), some (.int many), some (.int wide), some (.ref xl), some (.ref rp), some (.ref pp), some (.ref tp), some (.int m.told), c10, c11, c12, c13, c14]) (fun i σ L' _ => wk_rng) hS0 ⟨[], sg0, _, _, [], rp0, _, _, _, _, _, rfl, S0, Nat.le_refl _, Nat.le_refl _, fun u hu => (by cases hu), rfl⟩ (fun i σ L' hi iv H hS => ?_) (fun σ L' H iv hS => ?_)
    · obtain ⟨ts, sg, l, m, us, rp, c10, c11, c12, c13, c14, rfl, S, hla, hlt, hlat, rfl⟩ := iv
      clear hS0
      walk_at "ns"
      have hlen := hS.len2 (f := rowF) (by walk_at "mem")
      have hpln : m.pile.length ≤ m.all.length := by rw [← S.B.opn, List.length_map]; exact List.length_filter_le _ _
      have hi70 : i < 70 := by omega
      walk_at "s"
      walk_at "pk"
      intro wy H hS w0 w1
      walk_at "s"
      by_cases b1 : wy < 2
      · rw [if_pos (decide_eq_true b1)]
        walk_at "s"
        refine k_ixDi (d := kdD k) hS (by walk_at "mem") (atI_nat (show (kdD k :: kr.map kdD)[0]? = some (kdD k) from rfl)) ?_
        clear hS
        intro kv1 hS
        obtain ⟨ka1, _, ev, _, _⟩ := im_tup (hS.imm List.mem_cons_self)
        subst ev
        walk_at "s"
        refine k_ixDi (d := kdD k) hS (by walk_at "mem") (atI_nat (show (kdD k :: kr.map kdD)[0]? = some (kdD k) from rfl)) ?_
        clear hS
        intro kv2 hS
        obtain ⟨ka2, _, ev, _, _⟩ := im_tup (hS.imm List.mem_cons_self)
        subst ev
        walk_at "s"
        rename Addr => xk
        refine ⟨xk, _, k, _, rfl, hS, by walk_at "mem", gk1, ?_⟩
        clear hS
        intro H hS
        refine ⟨rfl, ?_⟩
        walk_at "s"
        obtain ⟨hd, bs, I⟩ := S.B.inv
        refine ⟨.ref xl, xk, 0 + (i : Int), k, l, _, rfl, gk1, S.fine, I.len.2, by rw [← S.B.pile]; omega, fun u hu => by have := hlat u hu; omega, ?_, hS.rem (A := laneA ⟨E.C_Kind, E.C_Page, E.C_Lane⟩ (.ref xl) l) (by walk_at "rem"), ?_⟩
        · walk_at "mem"
        clear hS
        intro H hS
        obtain ⟨sg', S', e⟩ := S.claim gk1 (0 + (i : Int))
        obtain ⟨ct, co⟩ := claimsM_or' k (0 + (i : Int)) m
        have hlat' : ∀ u, (claimL k (0 + (i : Int)) l).2.latest = some u → u < ((i + 1 : Nat) : Int) := fun u hu => by
          rw [← S'.B.time, ct] at hu
          have := Option.some.inj hu
          push_cast
          omega
        rw [e]
        rcases co with ⟨c1, c2, c3, c4⟩ | ⟨c1, ⟨pg, c2⟩, c3, c4⟩
        · rw [c1]
          dsimp only [oiV]
          walk_at "s"
          rw [if_neg (by simp)]
          walk_at "s"
          refine ⟨_, ⟨ts, sg', _, _, us, rp, _, _, _, _, _, rfl, S', by rw [c2]; omega, by omega, hlat', by rw [c4]⟩, ?_⟩
          rw [c2, c3]
          exact Sub.ok (by walk_at "sub") hS
        · rw [c1]
          dsimp only [oiV]
          walk_at "s"
          rw [if_pos (by simp)]
          walk_at "s"
          rename Addr => pn
          have hr : [PyData.int (m.tickets + 1), .int (0 + (i : Int)), .str "open"] = row3 (pg, ⟨m.tickets + 1, 0 + (i : Int), k, lows k, "open"⟩) := by
            unfold row3
            dsimp only
            rw [show mk3 ("open" : Str) = "open" from if_neg (by decide +kernel)]
          rw [hr] at hS
          replace hS := Sep.toRow (Sep.freezeD hS)
          replace hS := hS.rem (A := al2 rowF us m.all) (by walk_at "rem")
          replace hS := Sep.snoc (hS.rem (A := rowF (.ref pn) (pg, ⟨m.tickets + 1, 0 + (i : Int), k, lows k, "open"⟩)) (by walk_at "rem"))
          refine ⟨_, ⟨ts, sg', _, _, us ++ [.ref pn], rp, _, _, _, _, _, rfl, S', by rw [c2, List.length_append, List.length_singleton]; omega, by omega, hlat', by rw [c4]⟩, ?_⟩
          rw [c2, c3, List.map_append, List.map_cons, List.map_nil]
          exact Sub.ok (by walk_at "sub") hS
      · rw [if_neg (by rw [decide_eq_false b1]; exact Bool.false_ne_true)]
        walk_at "s"
        by_cases b4 : wy = 4
        · subst b4
          rw [if_neg (by decide)]
          walk_at "s"
          refine ⟨xl, l, _, rfl, S.fine, hS.rem (A := laneA ⟨E.C_Kind, E.C_Page, E.C_Lane⟩ (.ref xl) l) (by walk_at "rem"), ?_⟩
          clear hS
          intro v H hS
          obtain ⟨sg', o, eo, eo2, S', T, ea2, ep2, h1, h2⟩ := S.take
          rw [eo] at hS
          walk_at "s"
          refine k_ixDi hS (by walk_at "mem") (atI_snoc _ _) ?_
          clear hS
          intro v2 hS
          walk_at "s"
          refine k_ixDi (d := kdD k) hS (by walk_at "mem") (atI_nat (show (kdD k :: kr.map kdD)[0]? = some (kdD k) from rfl)) ?_
          clear hS
          intro kv1 hS
          obtain ⟨ka1, _, ev, _, _⟩ := im_tup (hS.imm List.mem_cons_self)
          subst ev
          walk_at "s"
          refine ⟨v2, rp, ka1, us, k, evN ts, m, takesM m, _, rfl, by rw [eo2]; walk_at "mem", by walk_at "mem", by walk_at "mem", by walk_at "mem", gk1, by omega, S.hk, S.C.ge, T, hS, ?_⟩
          clear hS
          intro H hS
          walk_at "s"
          have hlat' : ∀ u, (takeL l).2.latest = some u → u < ((i + 1 : Nat) : Int) := fun u hu => by
            obtain ⟨hd, bs, I⟩ := S.B.inv
            obtain ⟨_, _, _, _, _, _, e6, _⟩ := I.take
            rw [e6] at hu
            have := hlat u hu
            push_cast
            omega
          have e3 : (ts ++ [o]).map otD = ts.map otD ++ [otD o] := by rw [List.map_append]; rfl
          refine ⟨_, ⟨ts ++ [o], sg', _, _, us, rp, _, _, _, _, _, rfl, S', by rw [ea2]; omega, by rw [List.length_append, List.length_singleton]; omega, hlat', rfl⟩, ?_⟩
          rw [ea2, ep2, e3]
          exact Sub.ok (by walk_at "sub") hS
        · rw [if_pos (decide_eq_true (by omega))]
          walk_at "s"
          by_cases hp0 : m.pile = []
          · rw [if_neg (by rw [hp0]; simp)]
            walk_at "s"
            refine ⟨_, ⟨ts, sg, l, m, us, rp, _, _, _, _, _, rfl, S, by omega, by omega, (fun u hu => by have := hlat u hu; push_cast; omega), rfl⟩, Sub.ok (by walk_at "sub") hS⟩
          · rw [if_pos (by simp [hp0])]
            obtain ⟨pl, n, epl⟩ : ∃ pl n, m.pile = pl ++ [n] := ⟨_, _, (List.dropLast_concat_getLast hp0).symm⟩
            have hpd : m.pile = m.pile.dropLast ++ [n] := by rw [epl, List.dropLast_concat]
            have hpn : (m.pile.map PyData.int)[(m.pile.map PyData.int).length - 1]? = some (.int n) := by
              rw [epl, List.map_append, List.length_append, List.length_map, List.map_cons, List.map_nil, List.length_singleton, Nat.add_sub_cancel, List.getElem?_append_right (by rw [List.length_map]; exact Nat.le_refl _), List.length_map, Nat.sub_self]
              rfl
            walk_at "s"
            refine k_popD (d := .int n) hS (by walk_at "rep") hpn ?_
            dsimp only [Gv]
            clear hS
            intro H hS
            rw [List.nil_append, ← List.map_dropLast] at hS
            walk_at "s"
            walk_at "pk"
            intro r4 H hS r40 r41
            walk_at "s"
            refine .inr ⟨_, rfl, ?_⟩
            by_cases b5 : r4 = 0
            · rw [decide_eq_true b5, if_pos rfl]
              walk_at "s"
              rename Addr => pr2
              obtain ⟨i', j', r', q', c', sg', mk, hmk, hs', hf, S'⟩ := S.throw hpd
              have hMk : mk3 mk = ("thrown" : Str) := by rcases hmk with e | e <;> rw [e] <;> decide +kernel
              replace hS : Ls.Sep (K := K) (Ls.ld pr2 [] :: [ob rp (.lst us), al2 rowF us m.all, laneA ⟨E.C_Kind, E.C_Page, E.C_Lane⟩ (.ref xl) l, Ls.ld pp (m.pile.dropLast.map PyData.int), Ls.ld tp (ts.map otD), Ls.ld kb (kdD k :: kr.map kdD), dr d]) _ := Sub.ok (by walk_at "sub") hS
              have hS1 := (Sep.nil2 (f := rowF) hS).perm (.swap _ _ _)
              clear hS
              have tks := S.tks
              refine lc_wkO (n := m.all.length) (Y := fun i q => ∀ v c, us[i]? = some v → m.all[i]? = some c → q v [rowF v c]) (fun i acc L' => L' = al2 rowF acc ((m.all.map (updM n (mkF mk))).take i) :: [ob rp (.lst us), al2 rowF us m.all, laneA ⟨E.C_Kind, E.C_Page, E.C_Lane⟩ (.ref xl) l, Ls.ld pp (m.pile.dropLast.map PyData.int), Ls.ld tp (ts.map otD), Ls.ld kb (kdD k :: kr.map kdD), dr d]) (fun i acc L' e => by rw [e]; exact wk_ob2 (f := rowF) (by walk_at "mem") (by walk_at "mem")) hS1 rfl (fun j acc L' hj iv v c hv hc H hS => ?_) (fun acc L' H iv hS => ?_)
              · subst iv
                have et : (m.all.map (updM n (mkF mk))).take (j + 1) = (m.all.map (updM n (mkF mk))).take j ++ [updM n (mkF mk) c] := by
                  rw [List.take_add_one, List.getElem?_map, hc]
                  rfl
                walk_at "ns"
                have hal := hS.len2 (f := rowF) (vs := acc) (by walk_at "mem")
                rw [List.length_take, List.length_map] at hal
                replace hS := hS.dup List.mem_cons_self
                replace hS := hS.rowF
                obtain ⟨ra, ev, hS⟩ := hS
                subst ev
                unfold row3 at hS
                walk_at "ls"
                refine k_nojoin ?_
                walk_at "s"
                refine k_ixF (d := .int c.2.tick) hS (by walk_at "mem") rfl ?_
                walk_at "gv"
                walk_at "s"
                by_cases e : c.2.tick = n
                · rw [if_pos (decide_eq_true e)]
                  walk_at "s"
                  refine k_ixF (d := .int c.2.tick) hS (by walk_at "mem") rfl ?_
                  walk_at "gv"
                  walk_at "s"
                  refine k_ixF (d := .int c.2.time) hS (by walk_at "mem") rfl ?_
                  walk_at "gv"
                  walk_at "s"
                  rename Addr => pn
                  have hr := row_upd (M := "thrown") hMk e
                  rw [← hr] at hS
                  replace hS := Sep.toRow (Sep.freezeD hS)
                  replace hS := hS.rem (A := al2 rowF acc ((m.all.map (updM n (mkF mk))).take j)) (by walk_at "rem")
                  replace hS := Sep.snoc (hS.rem (A := rowF (.ref pn) (updM n (mkF mk) c)) (by walk_at "rem"))
                  rw [← et] at hS
                  exact lc_keepO hS (by walk_at "sub") (by rw [sizeLine_eq]; omega) rfl
                · rw [if_neg (by rw [decide_eq_false e]; exact Bool.false_ne_true)]
                  walk_at "s"
                  have hu : updM n (mkF mk) c = c := updM_id e
                  rw [hu] at et
                  replace hS := hS.rem (A := al2 rowF acc ((m.all.map (updM n (mkF mk))).take j)) (by walk_at "rem")
                  replace hS := Sep.snoc (hS.rem (A := rowF (.ref ra) c) (by walk_at "rem"))
                  rw [← et] at hS
                  exact lc_keepO hS (by walk_at "sub") (by rw [sizeLine_eq]; omega) rfl
              · subst iv
                rw [List.take_of_length_le (by rw [List.length_map]; exact Nat.le_refl _)] at hS
                walk_at "s"
                rw [if_neg (by decide +kernel)]
                walk_at "s"
                refine ⟨xl, n, i', j', r', l, _, rfl, by rw [← S.B.pile]; exact hpd, S.fine, hs', hS.rem (A := laneA ⟨E.C_Kind, E.C_Page, E.C_Lane⟩ (.ref xl) l) (by walk_at "rem"), ?_⟩
                clear hS
                intro H hS
                walk_at "s"
                have eall : setAt q' (mkMC mk) m.all = m.all.map (updM n (mkF mk)) := setAt_map (f := mkF mk) tks hf
                refine ⟨_, ⟨ts, sg', _, _, acc, pr2, _, _, _, _, _, rfl, S', ?_, by omega, (fun u hu => by have := hlat u hu; push_cast; omega), rfl⟩, ?_⟩
                · show (setAt q' (mkMC mk) m.all).length ≤ _
                  rw [eall, List.length_map]
                  omega
                · show Ls.Sep (K := K) [ob pr2 (.lst acc), al2 rowF acc (setAt q' (mkMC mk) m.all), laneA ⟨E.C_Kind, E.C_Page, E.C_Lane⟩ (.ref xl) (throwL i' j' n l), Ls.ld pp (m.pile.dropLast.map PyData.int), Ls.ld tp (ts.map otD), Ls.ld kb (kdD k :: kr.map kdD), dr d] _
                  rw [eall]
                  exact Sub.ok (by walk_at "sub") hS
            · rw [decide_eq_false b5, if_neg Bool.false_ne_true]
              walk_at "s"
              rename Addr => pr2
              obtain ⟨i', j', r', q', c', sg', hs', hf, S'⟩ := S.give hpd
              have hMk : mk3 ("given" : Str) = ("given" : Str) := by decide +kernel
              replace hS : Ls.Sep (K := K) (Ls.ld pr2 [] :: [ob rp (.lst us), al2 rowF us m.all, laneA ⟨E.C_Kind, E.C_Page, E.C_Lane⟩ (.ref xl) l, Ls.ld pp (m.pile.dropLast.map PyData.int), Ls.ld tp (ts.map otD), Ls.ld kb (kdD k :: kr.map kdD), dr d]) _ := Sub.ok (by walk_at "sub") hS
              have hS1 := (Sep.nil2 (f := rowF) hS).perm (.swap _ _ _)
              clear hS
              have tks := S.tks
              refine lc_wkO (n := m.all.length) (Y := fun i q => ∀ v c, us[i]? = some v → m.all[i]? = some c → q v [rowF v c]) (fun i acc L' => L' = al2 rowF acc ((m.all.map (updM n (mkF "given"))).take i) :: [ob rp (.lst us), al2 rowF us m.all, laneA ⟨E.C_Kind, E.C_Page, E.C_Lane⟩ (.ref xl) l, Ls.ld pp (m.pile.dropLast.map PyData.int), Ls.ld tp (ts.map otD), Ls.ld kb (kdD k :: kr.map kdD), dr d]) (fun i acc L' e => by rw [e]; exact wk_ob2 (f := rowF) (by walk_at "mem") (by walk_at "mem")) hS1 rfl (fun j acc L' hj iv v c hv hc H hS => ?_) (fun acc L' H iv hS => ?_)
              · subst iv
                have et : (m.all.map (updM n (mkF "given"))).take (j + 1) = (m.all.map (updM n (mkF "given"))).take j ++ [updM n (mkF "given") c] := by
                  rw [List.take_add_one, List.getElem?_map, hc]
                  rfl
                walk_at "ns"
                have hal := hS.len2 (f := rowF) (vs := acc) (by walk_at "mem")
                rw [List.length_take, List.length_map] at hal
                replace hS := hS.dup List.mem_cons_self
                replace hS := hS.rowF
                obtain ⟨ra, ev, hS⟩ := hS
                subst ev
                unfold row3 at hS
                walk_at "ls"
                refine k_nojoin ?_
                walk_at "s"
                refine k_ixF (d := .int c.2.tick) hS (by walk_at "mem") rfl ?_
                walk_at "gv"
                walk_at "s"
                by_cases e : c.2.tick = n
                · rw [if_pos (decide_eq_true e)]
                  walk_at "s"
                  refine k_ixF (d := .int c.2.tick) hS (by walk_at "mem") rfl ?_
                  walk_at "gv"
                  walk_at "s"
                  refine k_ixF (d := .int c.2.time) hS (by walk_at "mem") rfl ?_
                  walk_at "gv"
                  walk_at "s"
                  rename Addr => pn
                  have hr := row_upd (M := "given") hMk e
                  rw [← hr] at hS
                  replace hS := Sep.toRow (Sep.freezeD hS)
                  replace hS := hS.rem (A := al2 rowF acc ((m.all.map (updM n (mkF "given"))).take j)) (by walk_at "rem")
                  replace hS := Sep.snoc (hS.rem (A := rowF (.ref pn) (updM n (mkF "given") c)) (by walk_at "rem"))
                  rw [← et] at hS
                  exact lc_keepO hS (by walk_at "sub") (by rw [sizeLine_eq]; omega) rfl
                · rw [if_neg (by rw [decide_eq_false e]; exact Bool.false_ne_true)]
                  walk_at "s"
                  have hu : updM n (mkF "given") c = c := updM_id e
                  rw [hu] at et
                  replace hS := hS.rem (A := al2 rowF acc ((m.all.map (updM n (mkF "given"))).take j)) (by walk_at "rem")
                  replace hS := Sep.snoc (hS.rem (A := rowF (.ref ra) c) (by walk_at "rem"))
                  rw [← et] at hS
                  exact lc_keepO hS (by walk_at "sub") (by rw [sizeLine_eq]; omega) rfl
              · subst iv
                rw [List.take_of_length_le (by rw [List.length_map]; exact Nat.le_refl _)] at hS
                walk_at "s"
                rw [if_pos (by decide +kernel)]
                walk_at "s"
                refine ⟨xl, n, i', j', r', l, _, rfl, by rw [← S.B.pile]; exact hpd, S.fine, hs', hS.rem (A := laneA ⟨E.C_Kind, E.C_Page, E.C_Lane⟩ (.ref xl) l) (by walk_at "rem"), ?_⟩
                clear hS
                intro H hS
                walk_at "s"
                have eall : setAt q' (mkMC "given") m.all = m.all.map (updM n (mkF "given")) := setAt_map (f := mkF "given") tks hf
                refine ⟨_, ⟨ts, sg', _, _, acc, pr2, _, _, _, _, _, rfl, S', ?_, by omega, (fun u hu => by have := hlat u hu; push_cast; omega), rfl⟩, ?_⟩
                · show (setAt q' (mkMC "given") m.all).length ≤ _
                  rw [eall, List.length_map]
                  omega
                · show Ls.Sep (K := K) [ob pr2 (.lst acc), al2 rowF acc (setAt q' (mkMC "given") m.all), laneA ⟨E.C_Kind, E.C_Page, E.C_Lane⟩ (.ref xl) (giveL i' j' l), Ls.ld pp (m.pile.dropLast.map PyData.int), Ls.ld tp (ts.map otD), Ls.ld kb (kdD k :: kr.map kdD), dr d] _
                  rw [eall]
                  exact Sub.ok (by walk_at "sub") hS
    · obtain ⟨ts, sg, l, m, us, rp, c10, c11, c12, c13, c14, rfl, S, hla, hlt, hlat, rfl⟩ := iv
      clear hS0
      walk_at "s"
      unfold tRevL
      walk_at "s"
      obtain ⟨xs, hx1, hx2⟩ := hS.ldm (a := pp) (ds := m.pile.map PyData.int) (by walk_at "mem")
      refine ⟨pp, xs, rfl, sql_of hx1, fun pv hpv => ?_⟩
      replace hS := Sep.newIm (p := pv) hS hpv (ImAll.rev hx2)
      rw [← List.map_reverse] at hS
      have hpln : m.pile.length ≤ m.all.length := by rw [← S.B.opn, List.length_map]; exact List.length_filter_le _ _
      walk_at "s"
      refine for_wk (n := m.pile.reverse.length) (Y := fun i q => ∀ z, m.pile.reverse[i]? = some z → Gv (PyData.int z) q) (fun i σ L' => ∃ sg l m' us rp c10 c11 c12 c13 c14, L' = [ob rp (.lst us), al2 rowF us m'.all, laneA ⟨E.C_Kind, E.C_Page, E.C_Lane⟩ (.ref xl) l, Ls.ld pv (m.pile.reverse.map PyData.int), Ls.ld tp (ts.map otD), Ls.ld kb (kdD k :: kr.map kdD), dr d] ∧ Ls.St wide many k ts sg l m' ∧ m'.all.length = m.all.length ∧ m'.pile = m.pile.take (m.pile.length - i) ∧ m'.told = m.told ∧ σ = [some (.ref a), some (.ref d), some (.ref kb), some (.int many), some (.int wide), some (.ref xl), some (.ref rp), some (.ref pp), some (.ref tp), some (.int m.told), c10, c11, c12, c13, c14]) (fun i σ L' e => by obtain ⟨_, _, _, _, _, _, _, _, _, _, rfl, _⟩ := e; exact wk_ldm (by walk_at "mem")) (Sub.ok (by walk_at "sub") hS) ⟨sg, l, m, us, rp, _, _, _, _, _, rfl, S, rfl, (by rw [Nat.sub_zero, List.take_length]), rfl, rfl⟩ (fun i σ L' hi iv n hn => ?_) (fun σ L' H iv hS9 => ?_)
      · obtain ⟨sg, l, m2, us, rp, c10, c11, c12, c13, c14, rfl, S2, ela, epl, etl, rfl⟩ := iv
        have hi' : i < m.pile.length := by rw [List.length_reverse] at hi; exact hi
        rw [List.getElem?_reverse hi'] at hn
        have e5 : m2.pile = m.pile.take (m.pile.length - 1 - i) ++ [n] := by
          rw [epl, show m.pile.length - i = (m.pile.length - 1 - i) + 1 by omega, List.take_add_one, hn]
          rfl
        have e6 : m2.pile.dropLast = m.pile.take (m.pile.length - (i + 1)) := by
          rw [e5, List.dropLast_concat, show m.pile.length - 1 - i = m.pile.length - (i + 1) by omega]
        have hpd : m2.pile = m2.pile.dropLast ++ [n] := by
          rw [e5, List.dropLast_concat]
        dsimp only [Gv]
        clear hS
        intro H hS
        walk_at "ns"
        walk_at "s"
        obtain ⟨i', j', r', q', c', sg', hs', hf, S'⟩ := S2.give hpd
        have hMk : mk3 ("given" : Str) = ("given" : Str) := by decide +kernel
        refine ⟨xl, n, i', j', r', l, _, rfl, by rw [← S2.B.pile]; exact hpd, S2.fine, hs', hS.rem (A := laneA ⟨E.C_Kind, E.C_Page, E.C_Lane⟩ (.ref xl) l) (by walk_at "rem"), ?_⟩
        clear hS
        intro H hS
        walk_at "s"
        rename Addr => pr2
        replace hS : Ls.Sep (K := K) (Ls.ld pr2 [] :: [ob rp (.lst us), al2 rowF us m2.all, laneA ⟨E.C_Kind, E.C_Page, E.C_Lane⟩ (.ref xl) (giveL i' j' l), Ls.ld pv (m.pile.reverse.map PyData.int), Ls.ld tp (ts.map otD), Ls.ld kb (kdD k :: kr.map kdD), dr d]) _ := Sub.ok (by walk_at "sub") hS
        have hS1 := (Sep.nil2 (f := rowF) hS).perm (.swap _ _ _)
        clear hS
        have tks := S2.tks
        refine lc_wkO (n := m2.all.length) (Y := fun i q => ∀ v c, us[i]? = some v → m2.all[i]? = some c → q v [rowF v c]) (fun i acc L' => L' = al2 rowF acc ((m2.all.map (updM n (mkF "given"))).take i) :: [ob rp (.lst us), al2 rowF us m2.all, laneA ⟨E.C_Kind, E.C_Page, E.C_Lane⟩ (.ref xl) (giveL i' j' l), Ls.ld pv (m.pile.reverse.map PyData.int), Ls.ld tp (ts.map otD), Ls.ld kb (kdD k :: kr.map kdD), dr d]) (fun i acc L' e => by rw [e]; exact wk_ob2 (f := rowF) (by walk_at "mem") (by walk_at "mem")) hS1 rfl (fun j acc L' hj iv v c hv hc H hS => ?_) (fun acc L' H iv hS => ?_)
        · subst iv
          have et : (m2.all.map (updM n (mkF "given"))).take (j + 1) = (m2.all.map (updM n (mkF "given"))).take j ++ [updM n (mkF "given") c] := by
            rw [List.take_add_one, List.getElem?_map, hc]
            rfl
          walk_at "ns"
          have hal := hS.len2 (f := rowF) (vs := acc) (by walk_at "mem")
          rw [List.length_take, List.length_map] at hal
          replace hS := hS.dup List.mem_cons_self
          replace hS := hS.rowF
          obtain ⟨ra, ev, hS⟩ := hS
          subst ev
          unfold row3 at hS
          walk_at "ls"
          refine k_nojoin ?_
          walk_at "s"
          refine k_ixF (d := .int c.2.tick) hS (by walk_at "mem") rfl ?_
          walk_at "gv"
          walk_at "s"
          by_cases e : c.2.tick = n
          · rw [if_pos (decide_eq_true e)]
            walk_at "s"
            refine k_ixF (d := .int c.2.tick) hS (by walk_at "mem") rfl ?_
            walk_at "gv"
            walk_at "s"
            refine k_ixF (d := .int c.2.time) hS (by walk_at "mem") rfl ?_
            walk_at "gv"
            walk_at "s"
            rename Addr => pn
            have hr := row_upd (M := "given") hMk e
            rw [← hr] at hS
            replace hS := Sep.toRow (Sep.freezeD hS)
            replace hS := hS.rem (A := al2 rowF acc ((m2.all.map (updM n (mkF "given"))).take j)) (by walk_at "rem")
            replace hS := Sep.snoc (hS.rem (A := rowF (.ref pn) (updM n (mkF "given") c)) (by walk_at "rem"))
            rw [← et] at hS
            exact lc_keepO hS (by walk_at "sub") (by rw [sizeLine_eq]; omega) rfl
          · rw [if_neg (by rw [decide_eq_false e]; exact Bool.false_ne_true)]
            walk_at "s"
            have hu : updM n (mkF "given") c = c := updM_id e
            rw [hu] at et
            replace hS := hS.rem (A := al2 rowF acc ((m2.all.map (updM n (mkF "given"))).take j)) (by walk_at "rem")
            replace hS := Sep.snoc (hS.rem (A := rowF (.ref ra) c) (by walk_at "rem"))
            rw [← et] at hS
            exact lc_keepO hS (by walk_at "sub") (by rw [sizeLine_eq]; omega) rfl
        · subst iv
          rw [List.take_of_length_le (by rw [List.length_map]; exact Nat.le_refl _)] at hS
          walk_at "s"
          have eall : setAt q' (mkMC "given") m2.all = m2.all.map (updM n (mkF "given")) := setAt_map (f := mkF "given") tks hf
          refine ⟨_, ⟨sg', _, givesM q' m2, acc, pr2, _, _, _, _, _, rfl, S', ?_, e6, etl, rfl⟩, ?_⟩
          · show (setAt q' (mkMC "given") m2.all).length = _
            rw [eall, List.length_map, ela]
          · show Ls.Sep (K := K) [ob pr2 (.lst acc), al2 rowF acc (setAt q' (mkMC "given") m2.all), laneA ⟨E.C_Kind, E.C_Page, E.C_Lane⟩ (.ref xl) (giveL i' j' l), Ls.ld pv (m.pile.reverse.map PyData.int), Ls.ld tp (ts.map otD), Ls.ld kb (kdD k :: kr.map kdD), dr d] _
            rw [eall]
            exact Sub.ok (by walk_at "sub") hS
      · obtain ⟨sg, l, m2, us, rp, c10, c11, c12, c13, c14, rfl, S2, ela, epl, etl, rfl⟩ := iv
        clear hS
        have hS := hS9
        clear hS9
        rw [List.length_reverse, Nat.sub_self, List.take_zero] at epl
        rw [← etl]
        walk_at "s"
        refine k_ixDi (d := kdD k) hS (by walk_at "mem") (atI_nat (show (kdD k :: kr.map kdD)[0]? = some (kdD k) from rfl)) ?_
        clear hS
        intro kv1 hS
        obtain ⟨ka1, _, ev, _, _⟩ := im_tup (hS.imm List.mem_cons_self)
        subst ev
        walk_at "s"
        replace hS := hS.rem (A := Ls.ld tp (ts.map otD)) (by walk_at "rem")
        refine ⟨xl, rp, ka1, tp, us, wide, many, k, ts, sg, l, m2, _, rfl, ?_, ?_, ?_, gk1, by omega, epl, by omega, S2, hS.rem (A := laneA ⟨E.C_Kind, E.C_Page, E.C_Lane⟩ (.ref xl) l) (by walk_at "rem"), q⟩
        · walk_at "mem"
        · walk_at "mem"
        · walk_at "mem"
end Lw
-- own part: end
theorem PySem.Challenge.cw_lanescribe_k16_whole_takers_are_told_the_holds : PySem.Challenge.rw_lanescribe_k16_whole_takers_are_told_the.Holds :=
  Lw.head_of @Lw.ok_law
