import PyProof.Rows.All
import Wide.All
import OpenK.AllK
import Wide.FinOn
import HandS.ForMost
import HandS.ForExc
import HandS.Words
import HandS.WordsExc
import HandS.Defaults
import HandS.HeadHook4
import PySem.Challenge.RW_tarhouse_k89_whole_paths_renamed
import HandS.Star
import HandS.IsInst
import HandS.ClsMeth
import HandS.SetKeys
import HandS.StrSplit
import HandS.Wide
import HandS.Flow
import HandS.Small
import HandS.TupAny
import PyProof.Rows.SortShellAny
import KE.KBytesNew
import PyProof.Rows.RegMatchSeq
import KE.KSuper
import HandS.ExcSuper
import HandS.ExcInit
import HandS.ExcField
import KE.KExcSuper
import KE.KExcInit
import HandS.ForSpec
import HandS.Walk
import HandS.Codes
import HandS.More
import PyProof.NeKinds
import PyProof.Rows.TmSorted
import HandS.Lambda
import HandS.HeadWalk
import HandS.HeadHook1
import HandS.HeadHook2
import HandS.HeadHook3
import HandS.Head0
import HandS.Head1
import HandS.Head2
import HandS.HeadEnd
import HandS.NestedK
set_option Elab.async false
set_option linter.all false
set_option maxRecDepth 100000
set_option maxHeartbeats 4000000
namespace K89
open PySem PySem.Spec PyProof.Rows L2
/-! ### the text by places -/
def top (i : Nat) : Stmt := PySem.Challenge.pw_tarhouse_k89_whole_paths_renamed.main.body.getD i (.Pass ⟨0, 0, 0, 0⟩)
abbrev s_Refused_init : Stmt := inClass (top 10) 0
abbrev s_is_integer : Stmt := top 12
abbrev s_is_within : Stmt := top 13
abbrev s_blob : Stmt := top 14
abbrev s_is_name : Stmt := top 22
abbrev s_is_path : Stmt := top 23
abbrev s_look_name : Stmt := top 24
abbrev s_look_stamps : Stmt := top 25
abbrev s_is_piece : Stmt := top 26
abbrev s_are_spans : Stmt := top 27
abbrev s_are_pieces : Stmt := top 28
abbrev s_Member_init : Stmt := inClass (top 29) 1
abbrev s_File_init : Stmt := inClass (top 30) 1
abbrev s_File_content : Stmt := inClass (top 30) 2
abbrev s_Sparse_init : Stmt := inClass (top 31) 1
abbrev s_Sparse_content : Stmt := inClass (top 31) 2
abbrev s_Directory_init : Stmt := inClass (top 32) 1
abbrev s_Symlink_init : Stmt := inClass (top 33) 1
abbrev s_Link_init : Stmt := inClass (top 34) 1
abbrev s_above : Stmt := top 37
abbrev s_are_stamps : Stmt := top 38
abbrev s_is_thing : Stmt := top 39
abbrev s_is_entry : Stmt := top 40
abbrev s_are_of_one_house : Stmt := top 41
abbrev s_House_init : Stmt := inClass (top 42) 0
abbrev s_House_of : Stmt := inClass (top 42) 1
abbrev s_House_set_thing : Stmt := inClass (top 42) 2
abbrev s_House_share : Stmt := inClass (top 42) 3
abbrev s_House_settle : Stmt := inClass (top 42) 4
abbrev s_House_kind_at : Stmt := inClass (top 42) 5
abbrev s_House_copied : Stmt := inClass (top 42) 6
abbrev s_House_entries : Stmt := inClass (top 42) 7
abbrev s_House_sharers : Stmt := inClass (top 42) 8
abbrev s_House_thing_at : Stmt := inClass (top 42) 9
abbrev s_House_has : Stmt := inClass (top 42) 10
abbrev s_House_len : Stmt := inClass (top 42) 12
abbrev s_refusal : Stmt := top 45
abbrev s_refusal_at : Stmt := top 46
abbrev s_put_at : Stmt := top 47
abbrev s_put_member : Stmt := top 48
abbrev s_unpack_one : Stmt := top 49
abbrev s_unpacked : Stmt := top 50
abbrev s_law_source : Stmt := top 52
abbrev s_law_draw : Stmt := top 53
abbrev s_law_path : Stmt := top 54
abbrev s_law_numbers : Stmt := top 55
abbrev s_law_stamps : Stmt := top 56
abbrev s_law_pieces : Stmt := top 57
abbrev s_law_spec : Stmt := top 58
abbrev s_law_made : Stmt := top 59
abbrev s_law_specs : Stmt := top 60
abbrev s_law_tree : Stmt := top 61
abbrev s_law_copied : Stmt := top 62
abbrev s_law_above : Stmt := top 63
abbrev s_law_kind : Stmt := top 64
abbrev s_law_is_path : Stmt := top 65
abbrev s_law_word : Stmt := top 66
abbrev s_law_content : Stmt := top 67
abbrev s_law_stepped : Stmt := top 68
abbrev s_law_entries : Stmt := top 69
abbrev s_law_told : Stmt := top 70
abbrev s_law_tree_of : Stmt := top 71
abbrev s_law_led : Stmt := top 72
abbrev s_law_led_specs : Stmt := top 73
abbrev s_law_led_tree : Stmt := top 74
abbrev s_law_names_of : Stmt := top 75
abbrev s_law_right : Stmt := top 76
abbrev s_law : Stmt := top 77
-- Refused_init: 0 self 1 index 2 word
abbrev N_Refused_init : List Str := ["self", "index", "word"]
abbrev p_Refused_init : List Str := ["self", "index", "word"]
def d_Refused_init : He.DefD := ⟨("Refused", some "__init__"), "__init__", "Refused.__init__", defArgs s_Refused_init, defBody s_Refused_init, defScope s_Refused_init, [], []⟩
-- is_integer: 0 thing
abbrev N_is_integer : List Str := ["thing"]
abbrev p_is_integer : List Str := ["thing"]
def d_is_integer : He.DefD := ⟨("is_integer", none), "is_integer", "is_integer", defArgs s_is_integer, defBody s_is_integer, defScope s_is_integer, [], []⟩
theorem sc_is_integer : FnScope N_is_integer p_is_integer (defScope s_is_integer) := ⟨rfl, rfl, rfl, by decide +kernel, rfl, by decide +kernel, by decide +kernel⟩
-- is_within: 0 thing 1 low 2 high
abbrev N_is_within : List Str := ["thing", "low", "high"]
abbrev p_is_within : List Str := ["thing", "low", "high"]
def d_is_within : He.DefD := ⟨("is_within", none), "is_within", "is_within", defArgs s_is_within, defBody s_is_within, defScope s_is_within, [], []⟩
theorem sc_is_within : FnScope N_is_within p_is_within (defScope s_is_within) := ⟨rfl, rfl, rfl, by decide +kernel, rfl, by decide +kernel, by decide +kernel⟩
-- blob: 0 numbers 1 number
abbrev N_blob : List Str := ["numbers", "number"]
abbrev p_blob : List Str := ["numbers"]
def d_blob : He.DefD := ⟨("blob", none), "blob", "blob", defArgs s_blob, defBody s_blob, defScope s_blob, [], []⟩
theorem sc_blob : FnScope N_blob p_blob (defScope s_blob) := ⟨rfl, rfl, rfl, by decide +kernel, rfl, by decide +kernel, by decide +kernel⟩
-- is_name: 0 thing 1 sign
abbrev N_is_name : List Str := ["thing", "sign"]
abbrev p_is_name : List Str := ["thing"]
def d_is_name : He.DefD := ⟨("is_name", none), "is_name", "is_name", defArgs s_is_name, defBody s_is_name, defScope s_is_name, [], []⟩
theorem sc_is_name : FnScope N_is_name p_is_name (defScope s_is_name) := ⟨rfl, rfl, rfl, by decide +kernel, rfl, by decide +kernel, by decide +kernel⟩
-- is_path: 0 thing 1 part
abbrev N_is_path : List Str := ["thing", "part"]
abbrev p_is_path : List Str := ["thing"]
def d_is_path : He.DefD := ⟨("is_path", none), "is_path", "is_path", defArgs s_is_path, defBody s_is_path, defScope s_is_path, [], []⟩
theorem sc_is_path : FnScope N_is_path p_is_path (defScope s_is_path) := ⟨rfl, rfl, rfl, by decide +kernel, rfl, by decide +kernel, by decide +kernel⟩
-- look_name: 0 name
abbrev N_look_name : List Str := ["name"]
abbrev p_look_name : List Str := ["name"]
def d_look_name : He.DefD := ⟨("look_name", none), "look_name", "look_name", defArgs s_look_name, defBody s_look_name, defScope s_look_name, [], []⟩
theorem sc_look_name : FnScope N_look_name p_look_name (defScope s_look_name) := ⟨rfl, rfl, rfl, by decide +kernel, rfl, by decide +kernel, by decide +kernel⟩
-- look_stamps: 0 mode 1 time
abbrev N_look_stamps : List Str := ["mode", "time"]
abbrev p_look_stamps : List Str := ["mode", "time"]
def d_look_stamps : He.DefD := ⟨("look_stamps", none), "look_stamps", "look_stamps", defArgs s_look_stamps, defBody s_look_stamps, defScope s_look_stamps, [], []⟩
theorem sc_look_stamps : FnScope N_look_stamps p_look_stamps (defScope s_look_stamps) := ⟨rfl, rfl, rfl, by decide +kernel, rfl, by decide +kernel, by decide +kernel⟩
-- is_piece: 0 thing
abbrev N_is_piece : List Str := ["thing"]
abbrev p_is_piece : List Str := ["thing"]
def d_is_piece : He.DefD := ⟨("is_piece", none), "is_piece", "is_piece", defArgs s_is_piece, defBody s_is_piece, defScope s_is_piece, [], []⟩
theorem sc_is_piece : FnScope N_is_piece p_is_piece (defScope s_is_piece) := ⟨rfl, rfl, rfl, by decide +kernel, rfl, by decide +kernel, by decide +kernel⟩
-- are_spans: 0 size 1 spans 2 end 3 offset 4 length
abbrev N_are_spans : List Str := ["size", "spans", "end", "offset", "length"]
abbrev p_are_spans : List Str := ["size", "spans"]
def d_are_spans : He.DefD := ⟨("are_spans", none), "are_spans", "are_spans", defArgs s_are_spans, defBody s_are_spans, defScope s_are_spans, [], []⟩
theorem sc_are_spans : FnScope N_are_spans p_are_spans (defScope s_are_spans) := ⟨rfl, rfl, rfl, by decide +kernel, rfl, by decide +kernel, by decide +kernel⟩
-- are_pieces: 0 size 1 pieces 2 piece 3 offset 4 data
abbrev N_are_pieces : List Str := ["size", "pieces", "piece", "offset", "data"]
abbrev p_are_pieces : List Str := ["size", "pieces"]
def d_are_pieces : He.DefD := ⟨("are_pieces", none), "are_pieces", "are_pieces", defArgs s_are_pieces, defBody s_are_pieces, defScope s_are_pieces, [], []⟩
theorem sc_are_pieces : FnScope N_are_pieces p_are_pieces (defScope s_are_pieces) := ⟨rfl, rfl, rfl, by decide +kernel, rfl, by decide +kernel, by decide +kernel⟩
-- Member_init: 0 self 1 name 2 mode 3 time 4 more
abbrev N_Member_init : List Str := ["self", "name", "mode", "time", "more"]
abbrev p_Member_init : List Str := ["self", "name", "mode", "time", "more"]
def d_Member_init : He.DefD := ⟨("Member", some "__init__"), "__init__", "Member.__init__", defArgs s_Member_init, defBody s_Member_init, defScope s_Member_init, [], []⟩
theorem sc_Member_init : FnScope N_Member_init p_Member_init (defScope s_Member_init) := ⟨rfl, rfl, rfl, by decide +kernel, rfl, by decide +kernel, by decide +kernel⟩
-- File_init: 0 self 1 name 2 data 3 mode 4 time
abbrev N_File_init : List Str := ["self", "name", "data", "mode", "time"]
abbrev p_File_init : List Str := ["self", "name", "data", "mode", "time"]
def d_File_init : He.DefD := ⟨("File", some "__init__"), "__init__", "File.__init__", defArgs s_File_init, defBody s_File_init, defScope s_File_init, [], [("mode", .int 420), ("time", .int 0)]⟩
-- File_content: 0 self
abbrev N_File_content : List Str := ["self"]
abbrev p_File_content : List Str := ["self"]
def d_File_content : He.DefD := ⟨("File", some "content"), "content", "File.content", defArgs s_File_content, defBody s_File_content, defScope s_File_content, [], []⟩
theorem sc_File_content : FnScope N_File_content p_File_content (defScope s_File_content) := ⟨rfl, rfl, rfl, by decide +kernel, rfl, by decide +kernel, by decide +kernel⟩
-- Sparse_init: 0 self 1 name 2 size 3 mode 4 time 5 pieces
abbrev N_Sparse_init : List Str := ["self", "name", "size", "mode", "time", "pieces"]
abbrev p_Sparse_init : List Str := ["self", "name", "size", "mode", "time", "pieces"]
def d_Sparse_init : He.DefD := ⟨("Sparse", some "__init__"), "__init__", "Sparse.__init__", defArgs s_Sparse_init, defBody s_Sparse_init, defScope s_Sparse_init, [], [("mode", .int 420), ("time", .int 0)]⟩
-- Sparse_content: 0 self 1 found 2 offset 3 data
abbrev N_Sparse_content : List Str := ["self", "found", "offset", "data"]
abbrev p_Sparse_content : List Str := ["self"]
def d_Sparse_content : He.DefD := ⟨("Sparse", some "content"), "content", "Sparse.content", defArgs s_Sparse_content, defBody s_Sparse_content, defScope s_Sparse_content, [], []⟩
theorem sc_Sparse_content : FnScope N_Sparse_content p_Sparse_content (defScope s_Sparse_content) := ⟨rfl, rfl, rfl, by decide +kernel, rfl, by decide +kernel, by decide +kernel⟩
-- Directory_init: 0 self 1 name 2 mode 3 time
abbrev N_Directory_init : List Str := ["self", "name", "mode", "time"]
abbrev p_Directory_init : List Str := ["self", "name", "mode", "time"]
def d_Directory_init : He.DefD := ⟨("Directory", some "__init__"), "__init__", "Directory.__init__", defArgs s_Directory_init, defBody s_Directory_init, defScope s_Directory_init, [], [("mode", .int 493), ("time", .int 0)]⟩
-- Symlink_init: 0 self 1 name 2 target 3 mode 4 time
abbrev N_Symlink_init : List Str := ["self", "name", "target", "mode", "time"]
abbrev p_Symlink_init : List Str := ["self", "name", "target", "mode", "time"]
def d_Symlink_init : He.DefD := ⟨("Symlink", some "__init__"), "__init__", "Symlink.__init__", defArgs s_Symlink_init, defBody s_Symlink_init, defScope s_Symlink_init, [], [("mode", .int 511), ("time", .int 0)]⟩
-- Link_init: 0 self 1 name 2 target 3 mode 4 time
abbrev N_Link_init : List Str := ["self", "name", "target", "mode", "time"]
abbrev p_Link_init : List Str := ["self", "name", "target", "mode", "time"]
def d_Link_init : He.DefD := ⟨("Link", some "__init__"), "__init__", "Link.__init__", defArgs s_Link_init, defBody s_Link_init, defScope s_Link_init, [], [("mode", .int 420), ("time", .int 0)]⟩
-- above: 0 path 1 parts 2 many
abbrev N_above : List Str := ["path", "parts", "many"]
abbrev p_above : List Str := ["path"]
def d_above : He.DefD := ⟨("above", none), "above", "above", defArgs s_above, defBody s_above, defScope s_above, [], []⟩
theorem sc_above : FnScope N_above p_above (defScope s_above) := ⟨rfl, rfl, rfl, by decide +kernel, rfl, by decide +kernel, by decide +kernel⟩
-- are_stamps: 0 mode 1 time
abbrev N_are_stamps : List Str := ["mode", "time"]
abbrev p_are_stamps : List Str := ["mode", "time"]
def d_are_stamps : He.DefD := ⟨("are_stamps", none), "are_stamps", "are_stamps", defArgs s_are_stamps, defBody s_are_stamps, defScope s_are_stamps, [], []⟩
theorem sc_are_stamps : FnScope N_are_stamps p_are_stamps (defScope s_are_stamps) := ⟨rfl, rfl, rfl, by decide +kernel, rfl, by decide +kernel, by decide +kernel⟩
-- is_thing: 0 thing 1 data 2 mode 3 time 4 target 5 other
abbrev N_is_thing : List Str := ["thing", "data", "mode", "time", "target", "other"]
abbrev p_is_thing : List Str := ["thing"]
def d_is_thing : He.DefD := ⟨("is_thing", none), "is_thing", "is_thing", defArgs s_is_thing, defBody s_is_thing, defScope s_is_thing, [], []⟩
theorem sc_is_thing : FnScope N_is_thing p_is_thing (defScope s_is_thing) := ⟨rfl, rfl, rfl, by decide +kernel, rfl, by decide +kernel, by decide +kernel⟩
-- is_entry: 0 thing
abbrev N_is_entry : List Str := ["thing"]
abbrev p_is_entry : List Str := ["thing"]
def d_is_entry : He.DefD := ⟨("is_entry", none), "is_entry", "is_entry", defArgs s_is_entry, defBody s_is_entry, defScope s_is_entry, [], []⟩
theorem sc_is_entry : FnScope N_is_entry p_is_entry (defScope s_is_entry) := ⟨rfl, rfl, rfl, by decide +kernel, rfl, by decide +kernel, by decide +kernel⟩
-- are_of_one_house: 0 entries 1 things 2 path 3 thing 4 other
abbrev N_are_of_one_house : List Str := ["entries", "things", "path", "thing", "other"]
abbrev p_are_of_one_house : List Str := ["entries"]
def d_are_of_one_house : He.DefD := ⟨("are_of_one_house", none), "are_of_one_house", "are_of_one_house", defArgs s_are_of_one_house, defBody s_are_of_one_house, defScope s_are_of_one_house, [], []⟩
theorem sc_are_of_one_house : FnScope N_are_of_one_house p_are_of_one_house (defScope s_are_of_one_house) := ⟨rfl, rfl, rfl, by decide +kernel, rfl, by decide +kernel, by decide +kernel⟩
-- House_init: 0 self
abbrev N_House_init : List Str := ["self"]
abbrev p_House_init : List Str := ["self"]
def d_House_init : He.DefD := ⟨("House", some "__init__"), "__init__", "House.__init__", defArgs s_House_init, defBody s_House_init, defScope s_House_init, [], []⟩
theorem sc_House_init : FnScope N_House_init p_House_init (defScope s_House_init) := ⟨rfl, rfl, rfl, by decide +kernel, rfl, by decide +kernel, by decide +kernel⟩
-- House_of: 0 cls 1 entries 2 made 3 path 4 thing 5 entry
abbrev N_House_of : List Str := ["cls", "entries", "made", "path", "thing", "entry"]
abbrev p_House_of : List Str := ["cls", "entries"]
def d_House_of : He.DefD := ⟨("House", some "of"), "of", "House.of", defArgs s_House_of, defBody s_House_of, defScope s_House_of, [], []⟩
theorem sc_House_of : FnScope N_House_of p_House_of (defScope s_House_of) := ⟨rfl, rfl, rfl, by decide +kernel, rfl, by decide +kernel, by decide +kernel⟩
-- House_set_thing: 0 self 1 path 2 thing
abbrev N_House_set_thing : List Str := ["self", "path", "thing"]
abbrev p_House_set_thing : List Str := ["self", "path", "thing"]
def d_House_set_thing : He.DefD := ⟨("House", some "set_thing"), "set_thing", "House.set_thing", defArgs s_House_set_thing, defBody s_House_set_thing, defScope s_House_set_thing, [], []⟩
theorem sc_House_set_thing : FnScope N_House_set_thing p_House_set_thing (defScope s_House_set_thing) := ⟨rfl, rfl, rfl, by decide +kernel, rfl, by decide +kernel, by decide +kernel⟩
-- House_share: 0 self 1 path 2 target
abbrev N_House_share : List Str := ["self", "path", "target"]
abbrev p_House_share : List Str := ["self", "path", "target"]
def d_House_share : He.DefD := ⟨("House", some "share"), "share", "House.share", defArgs s_House_share, defBody s_House_share, defScope s_House_share, [], []⟩
theorem sc_House_share : FnScope N_House_share p_House_share (defScope s_House_share) := ⟨rfl, rfl, rfl, by decide +kernel, rfl, by decide +kernel, by decide +kernel⟩
-- House_settle: 0 self 1 found 2 first 3 path 4 thing
abbrev N_House_settle : List Str := ["self", "found", "first", "path", "thing"]
abbrev p_House_settle : List Str := ["self"]
def d_House_settle : He.DefD := ⟨("House", some "settle"), "settle", "House.settle", defArgs s_House_settle, defBody s_House_settle, defScope s_House_settle, [], []⟩
theorem sc_House_settle : FnScope N_House_settle p_House_settle (defScope s_House_settle) := ⟨rfl, rfl, rfl, by decide +kernel, rfl, by decide +kernel, by decide +kernel⟩
-- House_kind_at: 0 self 1 path
abbrev N_House_kind_at : List Str := ["self", "path"]
abbrev p_House_kind_at : List Str := ["self", "path"]
def d_House_kind_at : He.DefD := ⟨("House", some "kind_at"), "kind_at", "House.kind_at", defArgs s_House_kind_at, defBody s_House_kind_at, defScope s_House_kind_at, [], []⟩
theorem sc_House_kind_at : FnScope N_House_kind_at p_House_kind_at (defScope s_House_kind_at) := ⟨rfl, rfl, rfl, by decide +kernel, rfl, by decide +kernel, by decide +kernel⟩
-- House_copied: 0 self 1 made
abbrev N_House_copied : List Str := ["self", "made"]
abbrev p_House_copied : List Str := ["self"]
def d_House_copied : He.DefD := ⟨("House", some "copied"), "copied", "House.copied", defArgs s_House_copied, defBody s_House_copied, defScope s_House_copied, [], []⟩
theorem sc_House_copied : FnScope N_House_copied p_House_copied (defScope s_House_copied) := ⟨rfl, rfl, rfl, by decide +kernel, rfl, by decide +kernel, by decide +kernel⟩
-- House_entries: 0 self
abbrev N_House_entries : List Str := ["self"]
abbrev p_House_entries : List Str := ["self"]
def d_House_entries : He.DefD := ⟨("House", some "entries"), "entries", "House.entries", defArgs s_House_entries, defBody s_House_entries, defScope s_House_entries, [], []⟩
theorem sc_House_entries : FnScope N_House_entries p_House_entries (defScope s_House_entries) := ⟨rfl, rfl, rfl, by decide +kernel, rfl, by decide +kernel, by decide +kernel⟩
-- House_sharers: 0 self 1 path 2 other
abbrev N_House_sharers : List Str := ["self", "path", "other"]
abbrev p_House_sharers : List Str := ["self", "path"]
def d_House_sharers : He.DefD := ⟨("House", some "sharers"), "sharers", "House.sharers", defArgs s_House_sharers, defBody s_House_sharers, defScope s_House_sharers, [], []⟩
theorem sc_House_sharers : FnScope N_House_sharers p_House_sharers (defScope s_House_sharers) := ⟨rfl, rfl, rfl, by decide +kernel, rfl, by decide +kernel, by decide +kernel⟩
-- House_thing_at: 0 self 1 path 2 thing
abbrev N_House_thing_at : List Str := ["self", "path", "thing"]
abbrev p_House_thing_at : List Str := ["self", "path"]
def d_House_thing_at : He.DefD := ⟨("House", some "thing_at"), "thing_at", "House.thing_at", defArgs s_House_thing_at, defBody s_House_thing_at, defScope s_House_thing_at, [], []⟩
theorem sc_House_thing_at : FnScope N_House_thing_at p_House_thing_at (defScope s_House_thing_at) := ⟨rfl, rfl, rfl, by decide +kernel, rfl, by decide +kernel, by decide +kernel⟩
-- House_has: 0 self 1 path
abbrev N_House_has : List Str := ["self", "path"]
abbrev p_House_has : List Str := ["self", "path"]
def d_House_has : He.DefD := ⟨("House", some "has"), "has", "House.has", defArgs s_House_has, defBody s_House_has, defScope s_House_has, [], []⟩
theorem sc_House_has : FnScope N_House_has p_House_has (defScope s_House_has) := ⟨rfl, rfl, rfl, by decide +kernel, rfl, by decide +kernel, by decide +kernel⟩
-- House_len: 0 self
abbrev N_House_len : List Str := ["self"]
abbrev p_House_len : List Str := ["self"]
def d_House_len : He.DefD := ⟨("House", some "__len__"), "__len__", "House.__len__", defArgs s_House_len, defBody s_House_len, defScope s_House_len, [], []⟩
theorem sc_House_len : FnScope N_House_len p_House_len (defScope s_House_len) := ⟨rfl, rfl, rfl, by decide +kernel, rfl, by decide +kernel, by decide +kernel⟩
-- refusal: 0 house 1 member 2 path
abbrev N_refusal : List Str := ["house", "member", "path"]
abbrev p_refusal : List Str := ["house", "member"]
def d_refusal : He.DefD := ⟨("refusal", none), "refusal", "refusal", defArgs s_refusal, defBody s_refusal, defScope s_refusal, [], []⟩
theorem sc_refusal : FnScope N_refusal p_refusal (defScope s_refusal) := ⟨rfl, rfl, rfl, by decide +kernel, rfl, by decide +kernel, by decide +kernel⟩
-- refusal_at: 0 house 1 path 2 member 3 target 4 standing
abbrev N_refusal_at : List Str := ["house", "path", "member", "target", "standing"]
abbrev p_refusal_at : List Str := ["house", "path", "member", "target"]
def d_refusal_at : He.DefD := ⟨("refusal_at", none), "refusal_at", "refusal_at", defArgs s_refusal_at, defBody s_refusal_at, defScope s_refusal_at, [], []⟩
theorem sc_refusal_at : FnScope N_refusal_at p_refusal_at (defScope s_refusal_at) := ⟨rfl, rfl, rfl, by decide +kernel, rfl, by decide +kernel, by decide +kernel⟩
-- put_at: 0 house 1 path 2 member 3 target 4 other
abbrev N_put_at : List Str := ["house", "path", "member", "target", "other"]
abbrev p_put_at : List Str := ["house", "path", "member", "target"]
def d_put_at : He.DefD := ⟨("put_at", none), "put_at", "put_at", defArgs s_put_at, defBody s_put_at, defScope s_put_at, [], []⟩
theorem sc_put_at : FnScope N_put_at p_put_at (defScope s_put_at) := ⟨rfl, rfl, rfl, by decide +kernel, rfl, by decide +kernel, by decide +kernel⟩
-- put_member: 0 house 1 member
abbrev N_put_member : List Str := ["house", "member"]
abbrev p_put_member : List Str := ["house", "member"]
def d_put_member : He.DefD := ⟨("put_member", none), "put_member", "put_member", defArgs s_put_member, defBody s_put_member, defScope s_put_member, [], []⟩
theorem sc_put_member : FnScope N_put_member p_put_member (defScope s_put_member) := ⟨rfl, rfl, rfl, by decide +kernel, rfl, by decide +kernel, by decide +kernel⟩
-- unpack_one: 0 house 1 index 2 member 3 word
abbrev N_unpack_one : List Str := ["house", "index", "member", "word"]
abbrev p_unpack_one : List Str := ["house", "index", "member"]
def d_unpack_one : He.DefD := ⟨("unpack_one", none), "unpack_one", "unpack_one", defArgs s_unpack_one, defBody s_unpack_one, defScope s_unpack_one, [], []⟩
theorem sc_unpack_one : FnScope N_unpack_one p_unpack_one (defScope s_unpack_one) := ⟨rfl, rfl, rfl, by decide +kernel, rfl, by decide +kernel, by decide +kernel⟩
-- unpacked: 0 house 1 members 2 made 3 index 4 member
abbrev N_unpacked : List Str := ["house", "members", "made", "index", "member"]
abbrev p_unpacked : List Str := ["house", "members"]
def d_unpacked : He.DefD := ⟨("unpacked", none), "unpacked", "unpacked", defArgs s_unpacked, defBody s_unpacked, defScope s_unpacked, [], []⟩
theorem sc_unpacked : FnScope N_unpacked p_unpacked (defScope s_unpacked) := ⟨rfl, rfl, rfl, by decide +kernel, rfl, by decide +kernel, by decide +kernel⟩
-- law_source: 0 _law_script 1 _law_at 2 _law_cell 3 _law_great 4 _law_mixed
abbrev N_law_source : List Str := ["_law_script", "_law_at", "_law_cell", "_law_great", "_law_mixed"]
abbrev p_law_source : List Str := ["_law_script", "_law_at"]
def d_law_source : He.DefD := ⟨("_law_source", none), "_law_source", "_law_source", defArgs s_law_source, defBody s_law_source, defScope s_law_source, [], []⟩
theorem sc_law_source : FnScope N_law_source p_law_source (defScope s_law_source) := ⟨rfl, rfl, rfl, by decide +kernel, rfl, by decide +kernel, by decide +kernel⟩
-- law_draw: 0 _law_source_here 1 _law_many 2 _law_digit 3 _law_primes 4 _law_turn 5 _law_base 6 _law_found
abbrev N_law_draw : List Str := ["_law_source_here", "_law_many", "_law_digit", "_law_primes", "_law_turn", "_law_base", "_law_found"]
abbrev p_law_draw : List Str := ["_law_source_here", "_law_many"]
def d_law_draw : He.DefD := ⟨("_law_draw", none), "_law_draw", "_law_draw", defArgs s_law_draw, defBody s_law_draw, defScope s_law_draw, [], []⟩
theorem sc_law_draw : FnScope N_law_draw p_law_draw (defScope s_law_draw) := ⟨rfl, rfl, rfl, by decide +kernel, rfl, by decide +kernel, by decide +kernel⟩
-- law_path: 0 _law_source_here 1 _law_parts 2 _law_turn
abbrev N_law_path : List Str := ["_law_source_here", "_law_parts", "_law_turn"]
abbrev p_law_path : List Str := ["_law_source_here"]
def d_law_path : He.DefD := ⟨("_law_path", none), "_law_path", "_law_path", defArgs s_law_path, defBody s_law_path, defScope s_law_path, [], []⟩
theorem sc_law_path : FnScope N_law_path p_law_path (defScope s_law_path) := ⟨rfl, rfl, rfl, by decide +kernel, rfl, by decide +kernel, by decide +kernel⟩
-- law_numbers: 0 _law_source_here 1 _law_many 2 _law_turn
abbrev N_law_numbers : List Str := ["_law_source_here", "_law_many", "_law_turn"]
abbrev p_law_numbers : List Str := ["_law_source_here"]
def d_law_numbers : He.DefD := ⟨("_law_numbers", none), "_law_numbers", "_law_numbers", defArgs s_law_numbers, defBody s_law_numbers, defScope s_law_numbers, [], []⟩
theorem sc_law_numbers : FnScope N_law_numbers p_law_numbers (defScope s_law_numbers) := ⟨rfl, rfl, rfl, by decide +kernel, rfl, by decide +kernel, by decide +kernel⟩
-- law_stamps: 0 _law_source_here
abbrev N_law_stamps : List Str := ["_law_source_here"]
abbrev p_law_stamps : List Str := ["_law_source_here"]
def d_law_stamps : He.DefD := ⟨("_law_stamps", none), "_law_stamps", "_law_stamps", defArgs s_law_stamps, defBody s_law_stamps, defScope s_law_stamps, [], []⟩
theorem sc_law_stamps : FnScope N_law_stamps p_law_stamps (defScope s_law_stamps) := ⟨rfl, rfl, rfl, by decide +kernel, rfl, by decide +kernel, by decide +kernel⟩
-- law_pieces: 0 _law_source_here 1 _law_one 2 _law_two 3 _law_pieces_here 4 _law_end
abbrev N_law_pieces : List Str := ["_law_source_here", "_law_one", "_law_two", "_law_pieces_here", "_law_end"]
abbrev p_law_pieces : List Str := ["_law_source_here"]
def d_law_pieces : He.DefD := ⟨("_law_pieces", none), "_law_pieces", "_law_pieces", defArgs s_law_pieces, defBody s_law_pieces, defScope s_law_pieces, [], []⟩
theorem sc_law_pieces : FnScope N_law_pieces p_law_pieces (defScope s_law_pieces) := ⟨rfl, rfl, rfl, by decide +kernel, rfl, by decide +kernel, by decide +kernel⟩
-- law_spec: 0 _law_source_here 1 _law_name 2 _law_names 3 _law_bits 4 _law_time_here 5 _law_kind_here
abbrev N_law_spec : List Str := ["_law_source_here", "_law_name", "_law_names", "_law_bits", "_law_time_here", "_law_kind_here"]
abbrev p_law_spec : List Str := ["_law_source_here", "_law_name", "_law_names"]
def d_law_spec : He.DefD := ⟨("_law_spec", none), "_law_spec", "_law_spec", defArgs s_law_spec, defBody s_law_spec, defScope s_law_spec, [], []⟩
theorem sc_law_spec : FnScope N_law_spec p_law_spec (defScope s_law_spec) := ⟨rfl, rfl, rfl, by decide +kernel, rfl, by decide +kernel, by decide +kernel⟩
-- law_made: 0 _law_spec_here 1 _law_size 2 _law_pieces_here 3 _law_some 4 _law_offset 5 _law_numbers_here
abbrev N_law_made : List Str := ["_law_spec_here", "_law_size", "_law_pieces_here", "_law_some", "_law_offset", "_law_numbers_here"]
abbrev p_law_made : List Str := ["_law_spec_here"]
def d_law_made : He.DefD := ⟨("_law_made", none), "_law_made", "_law_made", defArgs s_law_made, defBody s_law_made, defScope s_law_made, [], []⟩
theorem sc_law_made : FnScope N_law_made p_law_made (defScope s_law_made) := ⟨rfl, rfl, rfl, by decide +kernel, rfl, by decide +kernel, by decide +kernel⟩
-- law_specs: 0 _law_source_here 1 _law_most 2 _law_names 3 _law_found 4 _law_turn 5 _law_name
abbrev N_law_specs : List Str := ["_law_source_here", "_law_most", "_law_names", "_law_found", "_law_turn", "_law_name"]
abbrev p_law_specs : List Str := ["_law_source_here", "_law_most"]
def d_law_specs : He.DefD := ⟨("_law_specs", none), "_law_specs", "_law_specs", defArgs s_law_specs, defBody s_law_specs, defScope s_law_specs, [], []⟩
theorem sc_law_specs : FnScope N_law_specs p_law_specs (defScope s_law_specs) := ⟨rfl, rfl, rfl, by decide +kernel, rfl, by decide +kernel, by decide +kernel⟩
-- law_tree: 
abbrev N_law_tree : List Str := []
abbrev p_law_tree : List Str := []
def d_law_tree : He.DefD := ⟨("_law_tree", none), "_law_tree", "_law_tree", defArgs s_law_tree, defBody s_law_tree, defScope s_law_tree, [], []⟩
theorem sc_law_tree : FnScope N_law_tree p_law_tree (defScope s_law_tree) := ⟨rfl, rfl, rfl, by decide +kernel, rfl, by decide +kernel, by decide +kernel⟩
-- law_copied: 0 _law_tree_here
abbrev N_law_copied : List Str := ["_law_tree_here"]
abbrev p_law_copied : List Str := ["_law_tree_here"]
def d_law_copied : He.DefD := ⟨("_law_copied", none), "_law_copied", "_law_copied", defArgs s_law_copied, defBody s_law_copied, defScope s_law_copied, [], []⟩
theorem sc_law_copied : FnScope N_law_copied p_law_copied (defScope s_law_copied) := ⟨rfl, rfl, rfl, by decide +kernel, rfl, by decide +kernel, by decide +kernel⟩
-- law_above: 0 _law_name 1 _law_parts 2 _law_many
abbrev N_law_above : List Str := ["_law_name", "_law_parts", "_law_many"]
abbrev p_law_above : List Str := ["_law_name"]
def d_law_above : He.DefD := ⟨("_law_above", none), "_law_above", "_law_above", defArgs s_law_above, defBody s_law_above, defScope s_law_above, [], []⟩
theorem sc_law_above : FnScope N_law_above p_law_above (defScope s_law_above) := ⟨rfl, rfl, rfl, by decide +kernel, rfl, by decide +kernel, by decide +kernel⟩
-- law_kind: 0 _law_tree_here 1 _law_name
abbrev N_law_kind : List Str := ["_law_tree_here", "_law_name"]
abbrev p_law_kind : List Str := ["_law_tree_here", "_law_name"]
def d_law_kind : He.DefD := ⟨("_law_kind", none), "_law_kind", "_law_kind", defArgs s_law_kind, defBody s_law_kind, defScope s_law_kind, [], []⟩
theorem sc_law_kind : FnScope N_law_kind p_law_kind (defScope s_law_kind) := ⟨rfl, rfl, rfl, by decide +kernel, rfl, by decide +kernel, by decide +kernel⟩
-- law_is_path: 0 _law_name 1 _law_part
abbrev N_law_is_path : List Str := ["_law_name", "_law_part"]
abbrev p_law_is_path : List Str := ["_law_name"]
def d_law_is_path : He.DefD := ⟨("_law_is_path", none), "_law_is_path", "_law_is_path", defArgs s_law_is_path, defBody s_law_is_path, defScope s_law_is_path, [], []⟩
theorem sc_law_is_path : FnScope N_law_is_path p_law_is_path (defScope s_law_is_path) := ⟨rfl, rfl, rfl, by decide +kernel, rfl, by decide +kernel, by decide +kernel⟩
-- law_word: 0 _law_tree_here 1 _law_spec_here 2 _law_here 3 _law_one
abbrev N_law_word : List Str := ["_law_tree_here", "_law_spec_here", "_law_here", "_law_one"]
abbrev p_law_word : List Str := ["_law_tree_here", "_law_spec_here"]
def d_law_word : He.DefD := ⟨("_law_word", none), "_law_word", "_law_word", defArgs s_law_word, defBody s_law_word, defScope s_law_word, [], []⟩
theorem sc_law_word : FnScope N_law_word p_law_word (defScope s_law_word) := ⟨rfl, rfl, rfl, by decide +kernel, rfl, by decide +kernel, by decide +kernel⟩
-- law_content: 0 _law_spec_here 1 _law_found 2 _law_offset 3 _law_numbers_here
abbrev N_law_content : List Str := ["_law_spec_here", "_law_found", "_law_offset", "_law_numbers_here"]
abbrev p_law_content : List Str := ["_law_spec_here"]
def d_law_content : He.DefD := ⟨("_law_content", none), "_law_content", "_law_content", defArgs s_law_content, defBody s_law_content, defScope s_law_content, [], []⟩
theorem sc_law_content : FnScope N_law_content p_law_content (defScope s_law_content) := ⟨rfl, rfl, rfl, by decide +kernel, rfl, by decide +kernel, by decide +kernel⟩
-- law_stepped: 0 _law_tree_here 1 _law_spec_here 2 _law_at 3 _law_one 4 _law_files
abbrev N_law_stepped : List Str := ["_law_tree_here", "_law_spec_here", "_law_at", "_law_one", "_law_files"]
abbrev p_law_stepped : List Str := ["_law_tree_here", "_law_spec_here"]
def d_law_stepped : He.DefD := ⟨("_law_stepped", none), "_law_stepped", "_law_stepped", defArgs s_law_stepped, defBody s_law_stepped, defScope s_law_stepped, [], []⟩
theorem sc_law_stepped : FnScope N_law_stepped p_law_stepped (defScope s_law_stepped) := ⟨rfl, rfl, rfl, by decide +kernel, rfl, by decide +kernel, by decide +kernel⟩
-- law_entries: 0 _law_tree_here 1 _law_found 2 _law_first 3 _law_name 4 _law_thing 5 _law_word_here 6 _law_numbers_here 7 _law_bits 8 _law_time_here
abbrev N_law_entries : List Str := ["_law_tree_here", "_law_found", "_law_first", "_law_name", "_law_thing", "_law_word_here", "_law_numbers_here", "_law_bits", "_law_time_here"]
abbrev p_law_entries : List Str := ["_law_tree_here"]
def d_law_entries : He.DefD := ⟨("_law_entries", none), "_law_entries", "_law_entries", defArgs s_law_entries, defBody s_law_entries, defScope s_law_entries, [], []⟩
theorem sc_law_entries : FnScope N_law_entries p_law_entries (defScope s_law_entries) := ⟨rfl, rfl, rfl, by decide +kernel, rfl, by decide +kernel, by decide +kernel⟩
-- law_told: 0 _law_call 1 e
abbrev N_law_told : List Str := ["_law_call", "e"]
abbrev p_law_told : List Str := ["_law_call"]
def d_law_told : He.DefD := ⟨("_law_told", none), "_law_told", "_law_told", defArgs s_law_told, defBody s_law_told, defScope s_law_told, [], []⟩
theorem sc_law_told : FnScope N_law_told p_law_told (defScope s_law_told) := ⟨rfl, rfl, rfl, by decide +kernel, rfl, by decide +kernel, by decide +kernel⟩
-- law_tree_of: 0 _law_source_here 1 _law_most 2 _law_tree_here 3 _law_spec_here
abbrev N_law_tree_of : List Str := ["_law_source_here", "_law_most", "_law_tree_here", "_law_spec_here"]
abbrev p_law_tree_of : List Str := ["_law_source_here", "_law_most"]
def d_law_tree_of : He.DefD := ⟨("_law_tree_of", none), "_law_tree_of", "_law_tree_of", defArgs s_law_tree_of, defBody s_law_tree_of, defScope s_law_tree_of, [], []⟩
theorem sc_law_tree_of : FnScope N_law_tree_of p_law_tree_of (defScope s_law_tree_of) := ⟨rfl, rfl, rfl, by decide +kernel, rfl, by decide +kernel, by decide +kernel⟩
-- law_led: 0 _law_led_here 1 _law_name 2 _law_part
abbrev N_law_led : List Str := ["_law_led_here", "_law_name", "_law_part"]
abbrev p_law_led : List Str := ["_law_led_here", "_law_name"]
def d_law_led : He.DefD := ⟨("_law_led", none), "_law_led", "_law_led", defArgs s_law_led, defBody s_law_led, defScope s_law_led, [], []⟩
theorem sc_law_led : FnScope N_law_led p_law_led (defScope s_law_led) := ⟨rfl, rfl, rfl, by decide +kernel, rfl, by decide +kernel, by decide +kernel⟩
-- law_led_specs: 0 _law_led_here 1 _law_specs_here 2 _law_found 3 _law_spec_here 4 _law_more
abbrev N_law_led_specs : List Str := ["_law_led_here", "_law_specs_here", "_law_found", "_law_spec_here", "_law_more"]
abbrev p_law_led_specs : List Str := ["_law_led_here", "_law_specs_here"]
def d_law_led_specs : He.DefD := ⟨("_law_led_specs", none), "_law_led_specs", "_law_led_specs", defArgs s_law_led_specs, defBody s_law_led_specs, defScope s_law_led_specs, [], []⟩
theorem sc_law_led_specs : FnScope N_law_led_specs p_law_led_specs (defScope s_law_led_specs) := ⟨rfl, rfl, rfl, by decide +kernel, rfl, by decide +kernel, by decide +kernel⟩
-- law_led_tree: 0 _law_led_here 1 _law_tree_here 2 _law_name
abbrev N_law_led_tree : List Str := ["_law_led_here", "_law_tree_here", "_law_name"]
abbrev p_law_led_tree : List Str := ["_law_led_here", "_law_tree_here"]
def d_law_led_tree : He.DefD := ⟨("_law_led_tree", none), "_law_led_tree", "_law_led_tree", defArgs s_law_led_tree, defBody s_law_led_tree, defScope s_law_led_tree, [], []⟩
theorem sc_law_led_tree : FnScope N_law_led_tree p_law_led_tree (defScope s_law_led_tree) := ⟨rfl, rfl, rfl, by decide +kernel, rfl, by decide +kernel, by decide +kernel⟩
-- law_names_of: 0 _law_source_here 1 _law_left 2 _law_led_here 3 _law_part
abbrev N_law_names_of : List Str := ["_law_source_here", "_law_left", "_law_led_here", "_law_part"]
abbrev p_law_names_of : List Str := ["_law_source_here"]
def d_law_names_of : He.DefD := ⟨("_law_names_of", none), "_law_names_of", "_law_names_of", defArgs s_law_names_of, defBody s_law_names_of, defScope s_law_names_of, [], []⟩
theorem sc_law_names_of : FnScope N_law_names_of p_law_names_of (defScope s_law_names_of) := ⟨rfl, rfl, rfl, by decide +kernel, rfl, by decide +kernel, by decide +kernel⟩
-- law_right: 0 _law_found 1 _law_other 2 _law_led_here 3 _law_name 4 _law_thing 5 _law_due 6 _law_one
abbrev N_law_right : List Str := ["_law_found", "_law_other", "_law_led_here", "_law_name", "_law_thing", "_law_due", "_law_one"]
abbrev p_law_right : List Str := ["_law_found", "_law_other", "_law_led_here"]
def d_law_right : He.DefD := ⟨("_law_right", none), "_law_right", "_law_right", defArgs s_law_right, defBody s_law_right, defScope s_law_right, [], []⟩
theorem sc_law_right : FnScope N_law_right p_law_right (defScope s_law_right) := ⟨rfl, rfl, rfl, by decide +kernel, rfl, by decide +kernel, by decide +kernel⟩
-- law: 0 _law_script 1 _law_at 2 _law_source_here 3 _law_led_here 4 _law_start 5 _law_house 6 _law_twin 7 _law_turn 8 _law_specs_here 9 _law_found 10 _law_other 11 _law_spec_here
abbrev N_law : List Str := ["_law_script", "_law_at", "_law_source_here", "_law_led_here", "_law_start", "_law_house", "_law_twin", "_law_turn", "_law_specs_here", "_law_found", "_law_other", "_law_spec_here"]
abbrev p_law : List Str := ["_law_script"]
def d_law : He.DefD := ⟨("law", none), "law", "law", defArgs s_law, defBody s_law, defScope s_law, [], []⟩
theorem sc_law : FnScope N_law p_law (defScope s_law) := ⟨rfl, rfl, rfl, by decide +kernel, rfl, by decide +kernel, by decide +kernel⟩
/-- the plain defs, in the order of the text -/
def fns : List He.DefD := [d_is_integer, d_is_within, d_blob, d_is_name, d_is_path, d_look_name, d_look_stamps, d_is_piece, d_are_spans, d_are_pieces, d_Member_init, d_File_content, d_Sparse_content, d_above, d_are_stamps, d_is_thing, d_is_entry, d_are_of_one_house, d_House_init, d_House_set_thing, d_House_share, d_House_settle, d_House_kind_at, d_House_copied, d_House_entries, d_House_sharers, d_House_thing_at, d_House_has, d_House_len, d_refusal, d_refusal_at, d_put_at, d_put_member, d_unpack_one, d_unpacked, d_law_source, d_law_draw, d_law_path, d_law_numbers, d_law_stamps, d_law_pieces, d_law_spec, d_law_made, d_law_specs, d_law_tree, d_law_copied, d_law_above, d_law_kind, d_law_is_path, d_law_word, d_law_content, d_law_stepped, d_law_entries, d_law_told, d_law_tree_of, d_law_led, d_law_led_specs, d_law_led_tree, d_law_names_of, d_law_right, d_law]
end K89
set_option Elab.async false
set_option linter.all false
set_option maxRecDepth 100000
set_option maxHeartbeats 4000000
/-! K89.R1: promises by names; a few rules that the layer lacks. -/
namespace K89
open PySem PySem.Spec PyProof.Rows L2

/-! ### promises by names -/
section
variable (P : Program) (w : World) (K : PySem.W.Frag) (mg : Str → Option Value) (base : Heap)
/-- the module's name x stands for a def that keeps sp -/
def DgX (CX : CXT) (x : Str) (k : Nat) (sp : Sp) : Prop := ∃ f, FnR P w K mg base CX k f sp ∧ mg x = some (.ref f) ∧ PySem.W.keepIn K (.ref f) = true
abbrev Dg (x : Str) (k : Nat) (sp : Sp) : Prop := DgX P w K mg base CX0 x k sp
/-- the method m of the class at C keeps sp -/
def Dm (C : Addr) (m : Str) (k : Nat) (sp : Sp) : Prop := ∃ f, FnR P w K mg base CX0 k f sp ∧ Meth K C m f
end
/-- a def of the text that stands at the module's name x -/
def HasD (K : PySem.W.Frag) (mg : Str → Option Value) (x : Str) (d : He.DefD) : Prop := ∃ f fd, FunD K d.name d.qual d.params d.body d.scope [] [] f fd ∧ mg x = some (.ref f)
def HasM (K : PySem.W.Frag) (C : Addr) (m : Str) (d : He.DefD) : Prop := ∃ f fd, FunD K d.name d.qual d.params d.body d.scope [] [] f fd ∧ Meth K C m f
section
variable {P : Program} {w : World} {K : PySem.W.Frag} {mg : Str → Option Value} {base : Heap} {CX : CXT} {x m : Str} {C : Addr} {d : He.DefD} {N ps : List Str} {k : Nat} {sp : Sp}
/-- how a def's arguments bind, every one of them written -/
def BindN (d : He.DefD) (ps : List Str) : Prop := ∀ (kV doc pm : Value) (an : Option Addr) (cdv ct : Value) (us : List Value), us.length = ps.length → bindArgs (PySem.W.fnOf d.name d.qual d.params d.body d.scope .none kV doc pm an cdv ct) ⟨us, []⟩ = pure (ps.zip us)
theorem fnR_of {f : Addr} {fd : FuncData} (F : FunD K d.name d.qual d.params d.body d.scope [] [] f fd) (S : FnScope N ps d.scope) (hb : BindN d ps) (len : ∀ vs H Q E, sp vs H Q E → vs.length = ps.length)
    (hbody : ∀ (cdv : Value) (A : Around) (outer : List Env) (s : Shared) (H : Hp) (vs : List V) (Q : VK) (E : XK), Room k (A.deeper (envOfC d.qual d.scope s.heap.objs.size f cdv)) → sp vs H Q E →
      ∃ t, PSs (cxOf CX P w K mg base N d.qual d.scope f cdv A outer s H E) d.body t ∧ t { nx := fun _ H' => Q .non H', rt := Q } (start N vs) H) : FnR P w K mg base CX (k + 1) f sp := by
  have G : FnOk P w K mg base CX (k + 1) f fd ps sp := F.ok S len hbody
  have B : Binds K fd ps [] := F.bindsN hb
  exact (G.raw B (dvs := []) .nil).imp fun vs H Q E h => by rw [List.append_nil]; exact h
theorem HasD.mk (T : HasD K mg x d) (S : FnScope N ps d.scope) (hb : BindN d ps) (len : ∀ vs H Q E, sp vs H Q E → vs.length = ps.length)
    (hbody : ∀ (f : Addr) (cdv : Value) (A : Around) (outer : List Env) (s : Shared) (H : Hp) (vs : List V) (Q : VK) (E : XK), Room k (A.deeper (envOfC d.qual d.scope s.heap.objs.size f cdv)) → sp vs H Q E →
      ∃ t, PSs (cxOf CX0 P w K mg base N d.qual d.scope f cdv A outer s H E).nox d.body t ∧ t { nx := fun _ H' => Q .non H', rt := Q } (start N vs) H) : Dg P w K mg base x (k + 1) sp := by
  obtain ⟨f, fd, F, hm⟩ := T
  exact ⟨f, fnR_of F S hb len fun cdv A outer s H vs Q E hr h => let ⟨t, a, b⟩ := hbody f cdv A outer s H vs Q E hr h; ⟨t, a.nox, b⟩, hm, F.kp⟩
theorem HasD.mkX (T : HasD K mg x d) (S : FnScope N ps d.scope) (hb : BindN d ps) (len : ∀ vs H Q E, sp vs H Q E → vs.length = ps.length)
    (hbody : ∀ (f : Addr) (cdv : Value) (A : Around) (outer : List Env) (s : Shared) (H : Hp) (vs : List V) (Q : VK) (E : XK), Room k (A.deeper (envOfC d.qual d.scope s.heap.objs.size f cdv)) → sp vs H Q E →
      ∃ t, PSs (cxOf (L2.CX P w) P w K mg base N d.qual d.scope f cdv A outer s H E) d.body t ∧ t { nx := fun _ H' => Q .non H', rt := Q } (start N vs) H) : DgX P w K mg base (L2.CX P w) x (k + 1) sp := by
  obtain ⟨f, fd, F, hm⟩ := T
  exact ⟨f, fnR_of F S hb len fun cdv A outer s H vs Q E hr h => hbody f cdv A outer s H vs Q E hr h, hm, F.kp⟩
theorem HasM.mk (T : HasM K C m d) (S : FnScope N ps d.scope) (hb : BindN d ps) (len : ∀ vs H Q E, sp vs H Q E → vs.length = ps.length)
    (hbody : ∀ (f : Addr) (cdv : Value) (A : Around) (outer : List Env) (s : Shared) (H : Hp) (vs : List V) (Q : VK) (E : XK), Room k (A.deeper (envOfC d.qual d.scope s.heap.objs.size f cdv)) → sp vs H Q E →
      ∃ t, PSs (cxOf CX0 P w K mg base N d.qual d.scope f cdv A outer s H E).nox d.body t ∧ t { nx := fun _ H' => Q .non H', rt := Q } (start N vs) H) : Dm P w K mg base C m (k + 1) sp := by
  obtain ⟨f, fd, F, hm⟩ := T
  exact ⟨f, fnR_of F S hb len fun cdv A outer s H vs Q E hr h => let ⟨t, a, b⟩ := hbody f cdv A outer s H vs Q E hr h; ⟨t, a.nox, b⟩, hm⟩
end

/-! ### calls by such promises -/
def tG (sp : Sp) (E : XK) (t : TA) : TE := fun σ H Q => t σ H fun vs H1 => sp vs H1 Q E
section
variable {X : Cx} {CX : CXT} {k j : Nat} {C : Addr} {sp : Sp} {E : XK} {x m : Str} {p pos apos : Pos} {e o : Expr} {es : List Expr} {ta : TE} {t : TA}
theorem pe_gX (D : DgX X.prog X.w X.K X.mg X.base CX x k sp) (hr : Room j X.A) (hx : Passes CX X E) (ha : PA X (e :: es) t) (hkj : k ≤ j := by decide) (hg : Gl X x := by rfl) (hdb : (x == ("__debug__" : Str)) = false := by decide)
    (he : starEach (e :: es) X.env = (false, eval e X.env) :: starEach es X.env := by rfl) (hpl : (backTo pos (starEach es X.env)).any (·.1) = false := by rfl) :
    PE X (.Call (.Name x p) (e :: es) [] pos) (tG sp E t) := by
  obtain ⟨f, F, hm, hk⟩ := D
  refine ⟨fun pins s σ H Q I h => ?_⟩
  refine wpAny_Call_Name_kw (ld_glob I hg hm ?_ hdb)
  refine PySem.W.callWith_K (h₀ := X.base) I.ok.mod.kin hk (thn (ha.run pos pins s σ H _ I h) fun us s1 ⟨vs, H1, I1, r, q⟩ => ⟨I1.kIn, ?_⟩) he hpl
  exact wpAny_call (run_fnR (F.mono hkj) hr hx I1 r q)
theorem pe_g (D : Dg X.prog X.w X.K X.mg X.base x k sp) (hr : Room j X.A) (ha : PA X (e :: es) t) (hkj : k ≤ j := by decide) (hg : Gl X x := by rfl) (hdb : (x == ("__debug__" : Str)) = false := by decide)
    (he : starEach (e :: es) X.env = (false, eval e X.env) :: starEach es X.env := by rfl) (hpl : (backTo pos (starEach es X.env)).any (·.1) = false := by rfl) :
    PE X (.Call (.Name x p) (e :: es) [] pos) (tG sp E0 t) := pe_gX D hr pass0 ha hkj hg hdb he hpl
theorem pe_g0 (D : Dg X.prog X.w X.K X.mg X.base x k sp) (hr : Room j X.A) (hkj : k ≤ j := by decide) (hg : Gl X x := by rfl) (hdb : (x == ("__debug__" : Str)) = false := by decide) :
    PE X (.Call (.Name x p) [] [] pos) (tG sp E0 tNil) := by
  obtain ⟨f, F, hm, hk⟩ := D
  refine ⟨fun pins s σ H Q I h => ?_⟩
  refine wpAny_Call_Name_kw (ld_glob I hg hm ?_ hdb)
  exact PySem.W.callWith_K0 I.kIn hk (wpAny_call (run_fnR (us := []) (vs := []) (F.mono hkj) hr pass0 I .nil h))
/-- o.m(e, ..) -/
theorem pe_m {pl : Sem Bool} (he : PE X o ta) (c : Cls X.K C) (D : Dm X.prog X.w X.K X.mg X.base C m k sp) (hr : Room j X.A) (ha : PA X (e :: es) t) (hkj : k ≤ j := by decide)
    (hst : starEach (e :: es) X.env = (false, eval e X.env) :: starEach es X.env := by rfl) (hpl : (backTo pos (starEach es X.env)).any (·.1) = false := by rfl)
    (ht : eval (.Call (.Attribute o m apos) (e :: es) [] pos) X.env = (do
      let ov ← eval o X.env
      standAt apos.atName
      let (f, first) ← holding [ov] (getMethod ov m pl)
      callWith pos f first (backTo pos (starEach (e :: es) X.env)) (backToKw pos (keywordEach [] X.env))) := by rfl) :
    PE X (.Call (.Attribute o m apos) (e :: es) [] pos) (tMethR C m sp E0 ta t) := by
  obtain ⟨f, F, hm⟩ := D
  exact pe_methR he c hm (F.mono hkj) hr pass0 ha hst hpl ht
/-- o.m() -/
theorem pe_m0 {pl : Sem Bool} (he : PE X o ta) (c : Cls X.K C) (D : Dm X.prog X.w X.K X.mg X.base C m k sp) (hr : Room j X.A) (hkj : k ≤ j := by decide)
    (ht : eval (.Call (.Attribute o m apos) [] [] pos) X.env = (do
      let ov ← eval o X.env
      standAt apos.atName
      let (f, first) ← holding [ov] (getMethod ov m pl)
      callWith pos f first (backTo pos (starEach [] X.env)) (backToKw pos (keywordEach [] X.env))) := by rfl) :
    PE X (.Call (.Attribute o m apos) [] [] pos) (tMethR C m sp E0 ta tNil) := by
  obtain ⟨f, F, hm⟩ := D
  refine ⟨fun pins s σ H Q I h => ?_⟩
  refine PySem.W.methodCall_KW (pl := pl) (thn (he.run pins s σ H _ I h) fun u s1 ⟨x, H1, I1, rx, a, dx, fs, ex, ea, l, q⟩ => ?_) ht
  subst ex
  obtain rfl : u = Value.ref a := rx
  refine getmeth_ok I1 ea c hm l ?_
  exact PySem.W.callWith_K0 (first := [.ref a]) I1.kIn hm.kp (wpAny_call (run_fnR (us := [.ref a]) (vs := [.ref a]) (F.mono hkj) hr pass0 I1 (.cons rfl .nil) q))
end

/-! ### sorted, whatever the length -/
section
variable {X : Cx} {prog : Program} {w : World} {A : Around} {E : Value → Shared → Prop}
/-- a list of texts, new at the heap's end, sorted in its place -/
theorem sort_new (s : Shared) {us : List Value} {ks : List Str} (t : StrsAre us ks) (len : us.length ≤ sizeLine) {Q : Value → Shared → Prop}
    (go : ∀ (G : Heap) (ws : List Value) (ys : List Str) (n : Nat), StrsAre ws ys → ys.Perm ks → sortedS ys = true → G.get? s.heap.objs.size = some (seqObj "list" ws.toArray n) → (∀ b o, s.heap.get? b = some o → G.get? b = some o) → Q .none { s with heap := G }) :
    wpAny (model prog w) A (call (.builtin "list.sort") [.ref s.heap.objs.size]) Q E { s with heap := s.heap.push (seqObj "list" us.toArray 0) } := by
  have new : (s.heap.push (seqObj "list" us.toArray 0)).get? s.heap.objs.size = some (seqObj "list" us.toArray 0) := Heap.get?_push_size _ rfl
  refine wpAny_call_entry PyProof.Rows.slot_list_sort ⟨_, new, rfl⟩ PyProof.Rows.entry_list_sort ?_ (PyProof.Rows.args_list_sort _)
  refine list_sort_treeKAny strKind_oneLt (s := { s with heap := s.heap.push (seqObj "list" us.toArray 0) }) new t.keysOf (fun _ _ _ z => keyKind_strs (z ▸ t)) len fun st p o => ⟨_, rfl, ?_⟩
  obtain ⟨ys, y1, y2, y3⟩ := sorted_out_str t p o
  obtain ⟨n, g⟩ := PyProof.Rows.sortedHeap_at (vs := us) (out := (arrOf st).map (·.2)) new
  refine go _ _ ys n y1 y2 y3 (by rw [Array.toArray_toList]; exact g) fun b o z => ?_
  have lt := Heap.lt_size z
  exact (PyProof.Rows.sortedHeap_old (Nat.ne_of_lt lt) (Nat.lt_of_lt_of_le lt (by rw [size_push']; exact Nat.le_succ _))).trans (Heap.get?_push_of_some _ z)
/-- the keys that were walked are the texts -/
theorem texts_of {kvs : List (Key × Value)} {ks : List Str} {us : List Value} (e : kvs.map (·.1) = ks.map Sum.inr) (len : us.length = ks.length)
    (h : ∀ (j : Nat) (v : Value), us[j]? = some v → ∃ k x, kvs[j]? = some (k, x) ∧ (mixKind prog w).is k v = true) : StrsAre us ks := strs_at len fun j v g => by
  obtain ⟨k, x, at_, is_⟩ := h j v g
  have c : (ks.map (Sum.inr : Str → Key))[j]? = some k := by
    rw [← e, List.getElem?_map, at_]
    exact rfl
  rw [List.getElem?_map] at c
  obtain ⟨y, ey, rfl⟩ := Option.map_eq_some_iff.mp c
  obtain ⟨t, ev⟩ := Value.isStrOf_shape (x := y) (v := v) is_
  exact ⟨y, t, ey, ev⟩
/-- sorted(xs), xs a list of texts -/
theorem cr_sortedSA : CallR X (.builtin "sorted") (fun vs H Q => ∃ (a : Addr) (xs : List Str), vs = [V.ref a] ∧ SqL X.K H a (xs.map V.str) ∧ ∀ (ys : List Str) (p : Addr), ys.Perm xs → sortedS ys = true → H p = none → Q (.ref p) (upd H p (.lst (ys.map V.str)))) :=
  fun pins s σ H vs us Q I r ⟨a, xs, e, at_, q⟩ => by
    subst e
    obtain ⟨ws, rs, isL, few⟩ := I.list at_
    cases Vals.ref1 r
    have n : ws.length = xs.length := rs.length.symm.trans (List.length_map _)
    rw [List.length_map] at few
    refine PyProof.Rows.sorted_strsAny isL.isList rs.strs (n ▸ few) fun out ys y1 y2 y3 => ?_
    obtain ⟨m, g⟩ := PyProof.Rows.sortedAll_at s.heap ws out
    have new : ObjOk X.prog X.w (upd H (s.heap.objs.size + 1) (.lst (ys.map V.str))) (PyProof.Rows.sortedAll s.heap ws out) (s.heap.objs.size + 1) (.lst (ys.map V.str)) := ⟨by rw [List.length_map, y2.length_eq]; exact few, out.toList, m, vals_of_strs y1, g⟩
    exact ⟨.ref _, _, I.laid (t' := s.toks) (fun _ _ => PyProof.Rows.sortedAll_old) (Nat.le_succ _) new, rfl, q ys _ y2 y3 (I.hok.fresh (Nat.le_succ _))⟩
/-- sorted(d), d a dict whose keys are texts -/
theorem call_sortedDA (calm : X.calm = true) : CallR X (.builtin "sorted") (fun xs H Q => ∃ (a : Addr) (kvs : List (Key × V)) (ks : List Str), xs = [.ref a] ∧ Rd H a (.dK kvs) ∧ kvs.map (·.1) = ks.map Sum.inr ∧
    ∀ ys p, ys.Perm ks → sortedS ys = true → H p = none → Q (.ref p) (upd H p (.lst (ys.map V.str)))) := fun pins s σ H xs us Q I r ⟨a, kvs, ks, e, rd, keys, q⟩ => by
  subst e
  cases Vals.ref1 r
  obtain ⟨few, low, vs, rel, at_⟩ := dk_rd I.hok rd
  obtain ⟨n, at_⟩ := at_.dictAt
  have same : vs.map (·.1) = ks.map Sum.inr := rel.keys.symm.trans keys
  have len : vs.length = ks.length := by simpa using congrArg List.length same
  have few2 : vs.length ≤ sizeLine := rel.length ▸ few
  refine Calls.call_function_entry PyProof.Rows.kind_sorted PyProof.Rows.plain_sorted PyProof.Rows.entry_sorted (PyProof.Rows.args_sorted1 _) ?_
  unfold Builtin.«sorted»
  refine wpAny_bind (wpAny_pure (wpAny_bind (PySem.W.kdu_collect (PySem.W.kdl_dict (knd := mixKind X.prog X.w) (kvs := vs) (ep := n) low) (I.ok.hd calm) at_ few2 fun G m acc k walked => ?_)))
  have len2 : acc.toList.length = ks.length := len ▸ Array.length_toList ▸ walked.1
  have T : StrsAre acc.toList ks := texts_of same len2 fun j v g => walked.2 j v (Array.getElem?_toList ▸ g)
  have few3 : acc.toList.length ≤ sizeLine := by omega
  have J : Inv X pins σ H { s with heap := G, toks := m } := I.kept k
  refine wpAny_bind (wpAny_newList (wpAny_bind (wpAny_holding (sort_new { s with heap := G, toks := m } T few3 fun G2 ws ys m2 w1 w2 w3 g kp => wpAny_pure ⟨_, rfl, ?_⟩))) few3)
  have new : ObjOk X.prog X.w (upd H G.objs.size (.lst (ys.map V.str))) G2 G.objs.size (.lst (ys.map V.str)) := ⟨by rw [List.length_map, w2.length_eq]; omega, ws, m2, vals_of_strs w1, g⟩
  exact ⟨.ref _, _, J.laid (t' := m) kp (Nat.le_refl _) new, rfl, q ys _ w2 w3 (J.hok.fresh (Nat.le_refl _))⟩

/-! ### ** of a wider int, a text taken n times -/
def CPowW (i j : Int) : Prop := 0 ≤ j ∧ (Builtin.Int.intBits i : Int) * j ≤ 2 ^ 27
theorem op_powW : OpR X (binaryOp .Pow) (rI CPowW fun i j => .int (i ^ j.toNat)) := opI fun _ _ _ _ _ _ _ hc q => pow_int hc.1 hc.2 q
theorem foldl_size (c : Array Nat) : ∀ (n : Nat) (acc : Array Nat), ((List.replicate n c).foldl (· ++ ·) acc).size = acc.size + n * c.size
  | 0, acc => by simp
  | n + 1, acc => by
    rw [List.replicate_succ, List.foldl_cons, foldl_size c n, Array.size_append, Nat.add_mul]
    omega
/-- s * n, s of one sign -/
def repS (x : Str) (n : Int) : Str := ⟨(List.replicate n.toNat x.cps).foldl (· ++ ·) #[]⟩
def rRepS : R2 := fun x y H Q => ∃ (z : Str) (n : Int), x = .str z ∧ y = .int n ∧ 2 ≤ n ∧ n ≤ 1000 ∧ z.length = 1 ∧ Q (.str (repS z n)) H
theorem op_repS : OpR X (binaryOp .Mult) rRepS := by
  intro pins s σ H x y v u Q I rx ry h
  obtain ⟨z, n, rfl, rfl, h2, h1000, hz, q⟩ := h
  obtain ⟨t, rfl⟩ := rx
  obtain ⟨t', rfl⟩ := ry
  have hn : ¬ n < 1 := by omega
  have hc : (n == 1 || z.length == 0) = false := by
    rw [Bool.or_eq_false_iff]
    exact ⟨by rw [beq_eq_false_iff_ne]; omega, by rw [hz]; rfl⟩
  have hle : n.toNat ≤ 1000 := by omega
  have hlong : Builtin.Str.tooLong (z.length * n.toNat) = false := by
    rw [hz, Nat.one_mul]
    unfold Builtin.Str.tooLong
    rw [decide_eq_false_iff_not, sizeLine_eq]
    omega
  refine PySem.P.mul_str (by rw [Bool.or_eq_false_iff, decide_eq_false_iff_not, decide_eq_false_iff_not]; omega) (fun _ _ => ?_) (fun _ _ => hlong) ?_
  · rw [hz]
    have : (1 : Int) ≤ (2 ^ 63 - 1) / n := by
      rw [Int.le_ediv_iff_mul_le (by omega)]
      omega
    omega
  · rw [if_neg hn, hc]
    refine ⟨?_, ⟨.str (repS z n), H, I.tok _, ⟨_, rfl⟩, q⟩⟩
    show ((List.replicate n.toNat z.cps).foldl (· ++ ·) #[]).size ≤ sizeLine
    have hz' : z.cps.size = 1 := hz
    rw [foldl_size, hz', sizeLine_eq]
    simp only [List.size_toArray, List.length_nil]
    omega
end
end K89
set_option Elab.async false
set_option linter.all false
set_option maxRecDepth 100000
set_option maxHeartbeats 4000000
/-! K89.R2: more rules: a class held by a local name, called; len of an own object; bytes of a size; a slice stored. -/
namespace K89
open PySem PySem.Spec PyProof.Rows L2
section
variable {X : Cx} {k j i : Nat} {C g : Addr} {sp : Sp} {x : Str} {p pos : Pos}
/-- cls(), cls a local name that holds the class at C -/
theorem pe_clsL {f : Addr} (M : Mk X.K C f) (F : FnR X.prog X.w X.K X.mg X.base CX0 k f sp) (hr : Room j X.A) (hN : X.N[i]? = some x) (hv : Vis X.env.scope x) (hkj : k + 1 ≤ j := by decide)
    (hdb : (x == ("__debug__" : Str)) = false := by decide) (hcd : (x == ("__classdict__" : Str)) = false := by decide) :
    PE X (.Call (.Name x p) [] [] pos) (fun σ H Q => σ[i]? = some (some (.ref C)) ∧ ∀ x dx, H x = none → H dx = none → dx ≠ x → sp [.ref x] (upd (upd H dx (.own x)) x (.ins C dx [])) (fun v H2 => v = .non ∧ Q (.ref x) H2) E0) := by
  refine ⟨fun pins s σ H Q I h => ?_⟩
  obtain ⟨hs, ht⟩ := h
  refine wpAny_Call_Name_kw (thn ((pe_var (pos := p) hN hv hdb hcd).run pins s σ H (fun v H1 => v = .ref C ∧ H1 = H) I ⟨.ref C, hs, rfl, rfl⟩) fun u s1 ⟨v, H1, I1, r1, q1⟩ => ?_)
  obtain ⟨rfl, rfl⟩ := q1
  obtain rfl : u = Value.ref C := r1
  exact PySem.W.callWith_K0 I1.kIn M.kp (StX.run_makeR (us := []) (vs := []) M F (hr.mono hkj) pass0 I1 .nil ht)
/-- C() by a positional promise -/
theorem pe_makeR0 {f : Addr} (M : Mk X.K C f) (F : FnR X.prog X.w X.K X.mg X.base CX0 k f sp) (hr : Room j X.A) (hm : X.mg x = some (.ref C)) (hkj : k + 1 ≤ j := by decide) (hg : Gl X x := by rfl) (hdb : (x == ("__debug__" : Str)) = false := by decide) :
    PE X (.Call (.Name x p) [] [] pos) (fun σ H Q => ∀ x dx, H x = none → H dx = none → dx ≠ x → sp [.ref x] (upd (upd H dx (.own x)) x (.ins C dx [])) (fun v H2 => v = .non ∧ Q (.ref x) H2) E0) := by
  refine ⟨fun pins s σ H Q I h => ?_⟩
  refine wpAny_Call_Name_kw (ld_glob I hg hm ?_ hdb)
  exact PySem.W.callWith_K0 I.kIn M.kp (StX.run_makeR (us := []) (vs := []) M F (hr.mono hkj) pass0 I .nil h)
/-- len(o), o an instance of the class at C whose __len__ keeps sp -/
theorem call_lenOwn (hs : PySem.W.findIn X.K (.ref C) "__len__" = some (some (.ref g))) (hf : PySem.W.isFn X.K (.ref g) = true) (F : FnR X.prog X.w X.K X.mg X.base CX0 k g sp) (hr : Room j X.A) (hkj : k + 1 ≤ j := by decide) :
    CallR X (.builtin "len") (fun xs H Q => ∃ a dx fs, xs = [.ref a] ∧ H a = some (.ins C dx fs) ∧ sp [.ref a] H (fun v H' => ∃ n : Int, v = .int n ∧ 0 ≤ n ∧ n < 2 ^ 63 ∧ Q v H') E0) := by
  intro pins s σ H xs us Q I r h
  obtain ⟨a, dx, fs, rfl, ea, q⟩ := h
  obtain ⟨u, rfl, ru⟩ := vals1 r
  obtain rfl : u = Value.ref a := ru
  obtain ⟨mA, O, _⟩ := ins_get I.hok ea
  obtain ⟨od, J, _⟩ := O.look
  obtain ⟨m, fr⟩ := I.fr
  have hr1 : Room k X.A.in1 := (hr.mono hkj).in1
  refine PySem.W.len_K fr I.ok.mod.kin J hs hf (wpAny_call (codeAny_mono (F X.A.in1 X.stack s H [.ref a] [.ref a] _ _ hr1 I.env0.in1 (.cons rfl .nil) q) fun r s' hq => ?_))
  cases r with
  | error e => exact hq.elim
  | ok fl =>
    cases fl with
    | ret w =>
      obtain ⟨v, H', I', rv, n, rfl, h0, h1, qz⟩ := I.after hq
      obtain ⟨t, rfl⟩ := (show ∃ t, w = Value.int n t from rv)
      exact ⟨⟨h0, h1⟩, .int n, H', I'.tok _, ⟨_, rfl⟩, qz⟩
    | next => exact False.elim hq
    | brk => exact False.elim hq
    | cont => exact False.elim hq
/-- bytes(n) -/
theorem call_bytesN : CallR X (.type "bytes") (fun xs H Q => ∃ n : Int, xs = [.int n] ∧ 0 ≤ n ∧ n ≤ 16777216 ∧ Q (.byt (Array.replicate n.toNat 0)) H) := by
  intro pins s σ H xs us Q I r h
  obtain ⟨n, rfl, h0, hz, q⟩ := h
  obtain ⟨u, rfl, ru⟩ := vals1 r
  obtain ⟨t, rfl⟩ := (show ∃ t, u = Value.int n t from ru)
  exact PySem.call_bytes_size h0 hz fun t k => ⟨.byt _, H, I.tok _, ⟨_, rfl⟩, q⟩
end

/-! ### xs[a:c] = ys -/
section
def gSlice (to tl th : TE) : TG := fun v σ H Q => to σ H fun x H1 => tl σ H1 fun l H2 => th σ H2 fun u H3 => ∃ a b xs ys i j, v = .ref b ∧ x = .ref a ∧ l = .int i ∧ u = .int j ∧
  H3 a = some (.lst xs) ∧ H3 b = some (.lst ys) ∧ a ≠ b ∧ 0 ≤ i ∧ i ≤ j ∧ j ≤ xs.length ∧ xs.length + ys.length ≤ sizeLine ∧ Q σ (upd H3 a (.lst (xs.take i.toNat ++ ys ++ xs.drop j.toNat)))
end
end K89
set_option Elab.async false
set_option linter.all false
set_option maxRecDepth 100000
set_option maxHeartbeats 4000000
/-! K89.R4: the match statement: texts, tuples that begin with a text. -/
namespace K89
open PySem PySem.Spec PyProof.Rows L2
def sets (σ : L2.St) : List Nat → List V → L2.St
  | i :: is, v :: vs => sets (σ.set i (some v)) is vs
  | _, _ => σ
/-- names that catch items, with their places -/
inductive Caps (X : Cx) : List Pattern → List Str → List Nat → Prop where
  | nil : Caps X [] [] []
  | cons {n : Str} {pos : Pos} {ps : List Pattern} {ns : List Str} {i : Nat} {is : List Nat} (hi : X.N[i]? = some n) (hx : X.env.scope.names.lookup n = some .local) (t : Caps X ps ns is) : Caps X (.MatchAs none (some n) pos :: ps) (n :: ns) (i :: is)
section
variable {X : Cx}
theorem Caps.each {M : Model} {A : Around} {E : Value → Shared → Prop} {s : Shared} : ∀ {ps : List Pattern} {ns : List Str} {is : List Nat} {us : List Value} {Q : Option (List (Str × Value)) → Shared → Prop}, Caps X ps ns is → us.length = is.length → Q (some (ns.zip us)) s →
    wpAny M A (matchEach ps X.env us) Q E s
  | _, _, _, [], _, .nil, _, h => wpAny_matchEach_nil h
  | _, _, _, u :: us, _, .cons hi hx t, hl, h => by
    refine wpAny_matchEach_cons (wpAny_matchPattern_Capture ?_)
    exact t.each (by simpa using hl) h
theorem Caps.len : ∀ {ps : List Pattern} {ns : List Str} {is : List Nat}, Caps X ps ns is → ps.length = is.length
  | _, _, _, .nil => rfl
  | _, _, _, .cons _ _ t => by simp [t.len]
theorem Caps.noStar : ∀ {ps : List Pattern} {ns : List Str} {is : List Nat}, Caps X ps ns is → ps.findIdx? (·.isStar) = none
  | _, _, _, .nil => rfl
  | _, _, _, .cons _ _ t => by
    rw [List.findIdx?_cons, if_neg (by exact Bool.false_ne_true), t.noStar] <;> rfl
theorem Caps.bind {M : Model} {A : Around} {E : Value → Shared → Prop} {pins : List (Addr × Obj)} {H : Hp} (hN : X.N.Nodup) : ∀ {ps : List Pattern} {ns : List Str} {is : List Nat} {vs : List V} {us : List Value} {σ : L2.St} {s : Shared} {Q : Unit → Shared → Prop},
    Caps X ps ns is → Vals vs us → us.length = is.length → Inv X pins σ H s → (∀ s', Inv X pins (sets σ is vs) H s' → Q () s') →
    wpAny M A (assignInOrder ((ns.zip us).map fun (n, _) => bindName X.env n) ((ns.zip us).map (·.2))) Q E s
  | _, _, _, _, [], _, _, _, .nil, .nil, _, I, h => wpAny_assignInOrder_none (h _ I)
  | _, _, _, _, u :: us, _, _, _, .cons hi hx t, .cons r rr, hl, I, h => by
    refine wpAny_assignInOrder_more (wpAny_bindName (store_ok I hN hi (.inl hx) r (fun s1 I1 => ?_) (.inr hx)))
    exact t.bind hN rr (by simpa using hl) I1 h
end
structure PMc (X : Cx) (cs : List MatchCase) (t : V → TS) : Prop where
  run : ∀ (pins : List (Addr × Obj)) (s : Shared) (σ : L2.St) (H : Hp) (D : Ends) (v : V) (u : Value) (first : Bool), Inv X pins σ H s → RelV v u → t v D σ H → wpAny (model X.prog X.w) X.A (matchCases cs X.env u first) (SP X pins D) X.xe s
section
variable {X : Cx} {body : List Stmt} {rest : List MatchCase} {tb : TS} {tr : V → TS} {lit : Str} {j : Nat} {p1 p2 p3 pos : Pos}
theorem pmc_nil : PMc X [] (fun _ D σ H => D.nx σ H) := ⟨fun _ _ σ H _ _ _ _ I _ h => wpAny_matchCases_nil ⟨σ, H, I, h⟩⟩
theorem pmc_any (hb : PSs X body tb) : PMc X (⟨.MatchAs none none pos, none, body⟩ :: rest) (fun _ => tb) := by
  refine ⟨fun pins s σ H D v u first I r h => ?_⟩
  exact wpAny_matchCases_cons (wpAny_matchPattern_Capture (wpAny_assignInOrder_none (hb.run pins s σ H D I h)))
theorem eq_lit {pins : List (Addr × Obj)} {σ : L2.St} {H : Hp} {s : Shared} {z : Str} {u : Value} {Q : Bool → Shared → Prop} {E : Value → Shared → Prop} (I : Inv X pins σ H s) (r : RelV (.str z) u) (h : ∀ s', Inv X pins σ H s' → Q (decide (z = lit)) s') :
    wpAny (model X.prog X.w) X.A (eval (.Constant (.str lit) j p1) X.env) (fun x s₁ => wpAny (model X.prog X.w) X.A (compareOp .Eq u x) (fun c s₂ => wpAny (model X.prog X.w) X.A (truthy c) Q E s₂) E s₁) E s := by
  obtain ⟨t, rfl⟩ := r
  refine Calls.Constant_str ?_
  have I2 := I.tok (s.toks + 1)
  refine PyProof.Rows.eq_str ?_
  refine wpAny_truthy_bool ?_
  have e : (z == lit) = decide (z = lit) := by
    rw [Bool.eq_iff_iff]
    simp
  rw [e]
  exact h _ I2
theorem pmc_str (hb : PSs X body tb) (hr : PMc X rest tr) :
    PMc X (⟨.MatchValue (.Constant (.str lit) j p1) p2, none, body⟩ :: rest) (fun v D σ H => ∃ z, v = .str z ∧ if z = lit then tb D σ H else tr v D σ H) := by
  refine ⟨fun pins s σ H D v u first I r h => ?_⟩
  obtain ⟨z, rfl, h⟩ := h
  refine wpAny_matchCases_cons (wpAny_matchPattern_Value (eq_lit I r fun s' I' => ?_))
  by_cases e : z = lit
  · rw [if_pos e] at h
    rw [decide_eq_true e]
    exact wpAny_assignInOrder_none (hb.run pins _ σ H D I' h)
  · rw [if_neg e] at h
    rw [decide_eq_false e]
    exact hr.run pins _ σ H D _ u false I' r h
theorem pmc_seq {ps : List Pattern} {ns : List Str} {is : List Nat} (hN : X.N.Nodup) (hcalm : X.calm = true) (hc : Caps X ps ns is) (hb : PSs X body tb) (hr : PMc X rest tr) :
    PMc X (⟨.MatchSequence (.MatchValue (.Constant (.str lit) j p1) p2 :: ps) p3, none, body⟩ :: rest)
      (fun v D σ H => ∃ a z xs, v = .ref a ∧ SqT X.K H a (.str z :: xs) ∧ if xs.length = is.length ∧ z = lit then tb D (sets σ is xs) H else tr v D σ H) := by
  refine ⟨fun pins s σ H D v u first I r h => ?_⟩
  obtain ⟨a, z, xs, rfl, ha, h⟩ := h
  obtain rfl : u = Value.ref a := r
  obtain ⟨its, rv, ht, hz⟩ := I.tuple ha
  have hl := rv.length
  rw [List.length_cons] at hl
  have hfit : (its.toArray.size : Int) < 2 ^ 63 := by
    rw [List.size_toArray, ← hl]
    rw [List.length_cons, sizeLine_eq] at hz
    omega
  have hstar : (Pattern.MatchValue (.Constant (.str lit) j p1) p2 :: ps).findIdx? (·.isStar) = none := by
    rw [List.findIdx?_cons, if_neg (by exact Bool.false_ne_true), hc.noStar] <;> rfl
  have hwild : ((Pattern.MatchValue (.Constant (.str lit) j p1) p2 :: ps).all fun p => p.isWildcard || (p.isStar && p.names.isEmpty)) = false := by
    rw [List.all_cons]
    rfl
  have It := I.tok (s.toks + 1 + 1)
  refine wpAny_matchCases_cons ?_
  by_cases e : xs.length = is.length
  · have hn : its.toArray.size = (Pattern.MatchValue (.Constant (.str lit) j p1) p2 :: ps).length := by rw [List.size_toArray, ← hl, List.length_cons, hc.len, e]
    refine matchSeq_tuple_hit ht hfit hn ?_ hstar hwild
    rw [← hn]
    refine unpackItems_tuple (I.ok.hd hcalm) (show IsTup ({ s with toks := s.toks + 1 + 1 } : Shared).heap a its.toArray from ht) fun h' hx => ?_
    have I2 : Inv X pins σ H { s with heap := h', toks := s.toks + 1 + 1 } := I.kept fun b o q => hx b o (Nat.ne_of_lt (Heap.lt_size q)) q
    cases rv with
    | cons r0 rr =>
      rename_i u0 us
      show wpAny _ _ (matchEach _ _ (u0 :: us)) _ _ _
      refine wpAny_matchEach_cons (wpAny_matchPattern_Value (eq_lit I2 r0 fun s' I' => ?_))
      have hus : us.length = is.length := by rw [← rr.length, e]
      by_cases ez : z = lit
      · rw [if_pos ⟨e, ez⟩] at h
        rw [decide_eq_true ez]
        refine hc.each hus ?_
        exact hc.bind hN rr hus I' fun s2 I3 => hb.run pins _ _ H D I3 h
      · rw [if_neg (fun q => ez q.2)] at h
        rw [decide_eq_false ez]
        exact hr.run pins _ σ H D (.ref a) _ false I' rfl h
  · rw [if_neg (fun q => e q.1)] at h
    refine matchSeq_tuple_miss ht hfit (by rw [List.size_toArray, ← hl, List.length_cons, hc.len]; omega) ?_ hstar hwild
    exact hr.run pins _ σ H D (.ref a) _ false It rfl h
theorem ps_match {subj : Expr} {cs : List MatchCase} {te : TE} {t : V → TS} (he : PE X subj te) (hc : PMc X cs t) : PS X (.Match subj cs pos) (fun D σ H => te σ H fun v H1 => t v D σ H1) := by
  refine ⟨fun pins s σ H D I h => ?_⟩
  exact wpAny_Match (thn (he.run pins s σ H _ I h) fun u s1 ⟨v, H1, I1, r1, q1⟩ => hc.run pins s1 σ H1 D v u true I1 r1 q1)
end
end K89
set_option Elab.async false
set_option linter.all false
set_option maxRecDepth 100000
set_option maxHeartbeats 4000000
/-! K89.R5: the __init__ of an own class that says super().__init__(..): a body run at its own activation. -/
namespace K89
open PySem PySem.Spec PyProof.Rows L2

/-! ### statements run at a known activation -/
structure PSa (X : Cx) (c : Code) (st : Stmt) (t : TS) : Prop where
  run : ∀ (pins : List (Addr × Obj)) (s : Shared) (σ : L2.St) (H : Hp) (D : Ends), Inv X pins σ H s → t D σ H → _root_.PySem.wpAt (model X.prog X.w) X.A c (exec st X.env) (SP X pins D) X.xe s
structure PSsa (X : Cx) (c : Code) (sts : List Stmt) (t : TS) : Prop where
  run : ∀ (pins : List (Addr × Obj)) (s : Shared) (σ : L2.St) (H : Hp) (D : Ends), Inv X pins σ H s → t D σ H → _root_.PySem.wpAt (model X.prog X.w) X.A c (execs sts X.env) (SP X pins D) X.xe s
section
variable {X : Cx} {c : Code} {st : Stmt} {sts : List Stmt} {t u : TS}
theorem psa_of (h : PS X st t) : PSa X c st t := ⟨fun pins s σ H D I q => wpAt_of_wpAny (h.run pins s σ H D I q)⟩
theorem pssa_of (h : PSs X sts t) : PSsa X c sts t := ⟨fun pins s σ H D I q => wpAt_of_wpAny (h.run pins s σ H D I q)⟩
theorem pssa_cons (h1 : PSa X c st t) (h2 : PSsa X c sts u) : PSsa X c (st :: sts) (tSeq t u) := by
  refine ⟨fun pins s σ H D I h => ?_⟩
  refine ks_wpAt_execs_cons (ks_wpAt_mono (h1.run pins s σ H { D with nx := u D } I h) (fun f s1 q => ?_) fun _ _ x => x)
  cases f with
  | next =>
    obtain ⟨σ', H', I', q⟩ := q
    exact h2.run pins s1 σ' H' D I' q
  | ret v => exact q
  | brk => exact q
  | cont => exact q
theorem PSsa.nox (h : PSsa X.nox c sts t) : PSsa X c sts t := ⟨fun pins s σ H D I hw =>
  ks_wpAt_mono (h.run pins s σ H D (I.wish _) hw) (fun _ _ q => q.unwish) fun _ _ z => False.elim z⟩
end

/-! ### the context of such a body -/
/-- what the scope of such a body must be: N its names, the parameters ps first; its one free name is __class__ -/
structure SupScope (N ps : List Str) (sc : Scope) : Prop where
  fn : sc.kind = .function
  sync : sc.isCoroutine = false
  noGen : sc.isGenerator = false
  nd : N.Nodup
  first : N.take ps.length = ps
  params : ∀ x ∈ ps, sc.names.lookup x = some .local
  noCell : ∀ q ∈ sc.names, q.2 ≠ .cell
  free : ∀ q ∈ sc.names, q.2 = .free → q.1 = "__class__"
  sup : sc.names.lookup ("super" : Str) = some .globalImplicit
  cls : sc.names.lookup ("__class__" : Str) = some .free
/-- the layer's context of a def, the cell of its class added -/
def cxS (CX : CXT) (P : Program) (w : World) (K : PySem.W.Frag) (mg : Str → Option Value) (base : Heap) (N : List Str) (qual : Str) (scope : Scope) (f : Addr) (cd : Value) (cc : Addr) (A : Around) (outer : List Env) (s : Shared) (H : Hp) (E : XK) : Cx :=
  let v := PySem.W.ksEnv qual scope s.heap.objs.size f cd cc
  { cxOf CX P w K mg base N qual scope f cd A outer s H E with
    A := A.deeper v, env := v, stack := v :: outer, fn := fun _ => false
    xe := fun e s1 => wpAny (model P w) (A.deeper v) (leaving v e) (fun _ s2 => CX outer H s E e s2) (fun e2 s2 => CX outer H s E e2 s2) s1 }
theorem lookup_of_nodup : ∀ {l : List (Str × Value)} {x : Str} {v : Value}, (l.map (·.1)).Nodup → (x, v) ∈ l → l.lookup x = some v
  | [], _, _, _, h => by cases h
  | (y, u) :: r, x, v, nd, h => by
    rw [List.map_cons, List.nodup_cons] at nd
    rcases List.mem_cons.mp h with e | h
    · cases e
      exact List.lookup_cons_self
    · have : x ≠ y := fun z => nd.1 (List.mem_map.mpr ⟨(x, v), h, z⟩)
      rw [List.lookup_cons]
      have e : (x == y) = false := by simpa using this
      rw [e]
      exact lookup_of_nodup nd.2 h
theorem rev_lookup {ps : List Str} {us : List Value} {i : Nat} {x : Str} {u : Value} (nd : ps.Nodup) (h1 : ps[i]? = some x) (h2 : us[i]? = some u) : (ps.zip us).reverse.lookup x = some u := by
  refine lookup_of_nodup ?_ ?_
  · have e : ((ps.zip us).map (·.1)).Nodup := by
      have key : ∀ (ps : List Str) (us : List Value), ps.Nodup → ((ps.zip us).map (·.1)).Nodup := by
        intro ps
        induction ps with
        | nil => intro us _; simp
        | cons p ps ih =>
          intro us h
          cases us with
          | nil => simp
          | cons u us =>
            rw [List.nodup_cons] at h
            rw [List.zip_cons_cons, List.map_cons, List.nodup_cons]
            refine ⟨fun z => ?_, ih us h.2⟩
            obtain ⟨q, hq, e⟩ := List.mem_map.mp z
            simp only at e
            rw [← e] at h
            exact h.1 (List.of_mem_zip hq).1
      exact key ps us nd
    rw [List.map_reverse]
    unfold List.Nodup at e ⊢
    rw [List.pairwise_reverse]
    exact e.imp fun h => h.symm
  · rw [List.mem_reverse]
    have : (ps.zip us)[i]? = some (x, u) := by rw [List.getElem?_zip_eq_some]; exact ⟨h1, h2⟩
    exact List.mem_of_getElem? this
/-- a filled slot at the start holds an argument -/
theorem start_get {N : List Str} {vs : List V} {i : Nat} {v : V} (h : (L2.start N vs)[i]? = some (some v)) : vs[i]? = some v := by
  have z : (vs.map some ++ List.replicate (N.length - vs.length) none)[i]? = some (some v) := h
  rcases Nat.lt_or_ge i (vs.map some).length with lt | ge
  · rw [List.getElem?_append_left lt] at z
    simpa using z
  · rw [List.getElem?_append_right ge] at z
    have := (List.mem_replicate.mp (List.mem_of_getElem? z)).2
    cases this
section
variable {CX : CXT} {P : Program} {w : World} {K : PySem.W.Frag} {mg : Str → Option Value} {base : Heap} {N ps : List Str} {qual : Str} {scope : Scope} {f cc D : Addr} {cd : Value} {A : Around} {outer : List Env} {s : Shared} {H : Hp} {E : XK} {us : List Value} {vs : List V}
/-- the cells of such a body -/
theorem cell_one {y : Str} {c : Addr} (h : ([(("__class__" : Str), cc)] : List (Str × Addr)).lookup y = some c) : y = "__class__" ∧ c = cc := by
  by_cases e : y = "__class__"
  · subst e
    exact ⟨rfl, (Option.some.inj (List.lookup_cons_self.symm.trans h)).symm⟩
  · rw [List.lookup_cons, beq_false_of_ne e] at h
    cases h
/-- the class's cell, as it stands in the written part -/
abbrev CellAt (K : PySem.W.Frag) (cc D : Addr) : Prop := ∃ (c : Value) (d : Option Addr) (sl : Array (Option Value)), K.lookup cc = some ⟨c, d, .cell (some (.ref D)), sl⟩
theorem cxS_ok (S : SupScope N ps scope) (hd : A.handled = none) (e0 : Env0 P w K mg base A outer s H) : (cxS CX P w K mg base N qual scope f cd cc A outer s H E).Ok where
  mod := e0.mod
  kind := S.fn
  glob := rfl
  blt := rfl
  above := Nat.le_refl _
  inj := fun _ _ _ h1 h2 => (cell_one h1).1.trans (cell_one h2).1.symm
  has := fun y h => by
    rcases (show scope.names.lookup y = some .cell ∨ scope.names.lookup y = some .free from h) with h | h
    · exact absurd rfl (S.noCell _ (PySem.mem_of_lookup h))
    · obtain rfl := S.free _ (PySem.mem_of_lookup h) rfl
      exact ⟨cc, List.lookup_cons_self⟩
  cab := nofun
  hd := fun _ => hd
  frames := Around.frames_deeper e0.frames
  stk := .inr ⟨rfl, rfl⟩
  exf := nofun
  bs := e0.bs
  bsz := e0.bsz
  noex := fun _ _ _ => nofun
  exfs := nofun
  funs := e0.funs
  frf := e0.frf
theorem sup_start {h1 : Heap} {tk : Nat} (S : SupScope N ps scope) (hd : A.handled = none) (e0 : Env0 P w K mg base A outer s H) (cell : CellAt K cc D) (len : vs.length = ps.length) (r : Vals vs us)
    (own : h1.Ns s.heap.objs.size fun x => (ps.zip us).reverse.lookup x) (k : ∀ b o, s.heap.get? b = some o → h1.get? b = some o) :
    Inv (cxS CX P w K mg base N qual scope f cd cc A outer s H E) [] (L2.start N vs) H { s with heap := h1, toks := tk } := by
  obtain ⟨c, d, sl, lk⟩ := cell
  have at_ := e0.mod.kin cc _ lk
  have here := e0.bs cc _ at_
  have nd : ps.Nodup := S.first ▸ S.nd.sublist (List.take_sublist _ _)
  have fits : vs.length ≤ N.length := by
    have z := congrArg List.length S.first
    simp only [List.length_take] at z
    omega
  refine { ok := cxS_ok S hd e0, os := rfl, bare := e0.bare, base := Un.kept k, loc := ⟨_, own, fun i y v name slot _ => ?_⟩, cell := fun y c h => ?_, free := e0.hok.fresh (Nat.le_refl _), freeC := fun y c h => ?_, pin := fun p h => (List.not_mem_nil (show p ∈ ([] : List (Addr × Obj)) from h)).elim, hok := e0.hok.kept k, len := ?_ }
  · have v_at := start_get slot
    obtain ⟨u, u_at, rv⟩ := r.get v_at
    have lt : i < ps.length := len ▸ (List.getElem?_eq_some_iff.mp v_at).1
    have p_at : ps[i]? = some y := by
      rw [← S.first, List.getElem?_take_of_lt lt]
      exact name
    exact ⟨u, rv, .inl ⟨S.params y (List.mem_of_getElem? p_at), rev_lookup nd p_at u_at⟩⟩
  · have e := (cell_one h).2
    subst e
    exact ⟨_, _, k _ _ here.1, rfl⟩
  · have e := (cell_one h).2
    subst e
    exact here.2
  · show (vs.map some ++ List.replicate (N.length - vs.length) none).length = N.length
    simp only [List.length_append, List.length_map, List.length_replicate]
    omega
/-- the end of such a body is the end of the call -/
theorem sup_end {s2 s3 : Shared} {H2 : Hp} {Q : VK} {fl : Flow} (un : Un (frs outer) [] H H2 s.heap s2.heap) (os : s2.os = s.os) (z : SP (cxS CX P w K mg base N qual scope f cd cc A outer s2 H2 E) [] { nx := fun _ H' => Q .non H', rt := Q } fl s3) :
    ∃ u, (fl = .ret u ∨ (fl = .next ∧ u = .none)) ∧ CE outer P w H s Q u s3 := by
  match fl, z with
  | .ret u, ⟨v, _, H3, J, rv, q⟩ => exact ⟨u, .inl rfl, v, H3, J.os.trans os, J.bare, un.trans J.base, J.hok, rv, q⟩
  | .next, ⟨_, H3, J, q⟩ => exact ⟨.none, .inr ⟨rfl, rfl⟩, .non, H3, J.os.trans os, J.bare, un.trans J.base, J.hok, rfl, q⟩
  | .brk, ⟨_, _, _, q⟩ => exact False.elim q
  | .cont, ⟨_, _, _, q⟩ => exact False.elim q
/-- the call of such a def, by its body -/
theorem sup_fn {k : Nat} {name : Str} {params : Arguments} {body : List Stmt} {dV kV doc pm cdv ct oc : Value} {an od : Option Addr} {osl : Array (Option Value)} {args : Args} {Q : VK} {G : List V → Hp → Prop}
    (lk : K.lookup f = some ⟨oc, od, .func (PySem.W.ksFn name qual params body scope dV kV doc pm an cdv ct cc), osl⟩) (code : PySem.W.codeIn K cdv qual = true) (cell : CellAt K cc D)
    (S : SupScope N ps scope) (hr : Room (k + 1) A) (e0 : Env0 P w K mg base A outer s H) (bind : StX.Bnd CX P w K mg base (PySem.W.ksFn name qual params body scope dV kV doc pm an cdv ct cc) args ps A outer s H E G)
    (run : ∀ (s2 : Shared) (H2 : Hp) (vs : List V), G vs H2 → Room k (A.deeper (PySem.W.ksEnv qual scope s2.heap.objs.size f cdv cc)) →
      ∃ t, PSsa (cxS CX P w K mg base N qual scope f cdv cc A outer s2 H2 E) (.func body (PySem.W.ksEnv qual scope s2.heap.objs.size f cdv cc)) body t ∧ t { nx := fun _ H' => Q .non H', rt := Q } (L2.start N vs) H2) :
    codeAny (model P w) A (.call (.ref f) args) (CR CX outer P w H s Q E) s := by
  have kin : K.In s.heap := fun b o e => (e0.bs b o (e0.mod.kin b o e)).1
  refine codeAny_call_function hr.depth (kin _ _ lk) rfl S.sync S.noGen rfl (PySem.W.codeRec_of kin code) (bind _ _ _ fun s2 H2 vs us e2 un os up r len g => ?_)
  have local_ : ∀ q ∈ ps.zip us, scope.names.lookup q.1 = some .local := fun q h => S.params _ (List.of_mem_zip h).1
  have noLimit : s2.heap.NoLimit := e0.mod.nolimit.keeps fun b o e => (e2.bs b o e).1
  refine wpAny_newFunctionEnv S.noCell local_ (fun h2 own same => ⟨noLimit.fresh _ same, ?_⟩) S.fn
  obtain ⟨t, body_ok, q⟩ := run s2 H2 vs g (hr.deeper _)
  have J := sup_start (CX := CX) (E := E) (qual := qual) (f := f) (cd := cdv) (tk := s2.toks + (ps.zip us).length) S hr.hd e2 cell len r own fun b o e => same.extBut b o (Nat.ne_of_lt (Heap.lt_size e)) (Heap.get?_push_of_some _ e)
  refine ks_codeAny_funcAt (ks_wpAt_mono (body_ok.run [] _ _ _ _ J q) (fun fl s3 z => ?_) fun e s3 z => ?_)
  · obtain ⟨u, h | ⟨h, e⟩, done⟩ := sup_end un os z
    · subst h
      exact done
    · subst h e
      exact done
  · exact wpAny_mono z (fun _ s4 y => up e s4 y) fun e2 s4 y => up e2 s4 y
end
end K89
set_option Elab.async false
set_option linter.all false
set_option maxRecDepth 100000
set_option maxHeartbeats 4000000
/-! K89.R6: super().__init__(..) as a statement, the class above being the program's own. -/
namespace K89
open PySem PySem.Spec PyProof.Rows L2
/-- what of the text such a def must have: f the def, cda its code object, cc the cell of its class D -/
structure SupK (P : Program) (K : PySem.W.Frag) (mg : Str → Option Value) (f cda cc D : Addr) : Prop where
  fn : ∃ oc od fd osl ar, K.lookup f = some ⟨oc, od, .func fd, osl⟩ ∧ (fd.params.posonlyargs ++ fd.params.args).head? = some ar ∧ ar.arg = ("self" : Str)
  code : ∃ ccl cdd vs ccs file tf, K.lookup cda = some ⟨ccl, cdd, .fields vs, ccs⟩ ∧ vs[2]? = some (.str file tf) ∧ ((P.main.file : Str) == file) = true
  cell : ∃ cl cld csl, K.lookup cc = some ⟨cl, cld, .cell (some (.ref D)), csl⟩
  cls : ∃ cdD, PySem.W.clsIn K D = some cdD
  sup : mg "super" = none
  top : (P.main.scope.names.lookup ("super" : Str)).isSome = false
  opq : PySem.W.nsIn K cStatics "thirdparty.any" = some none
section
variable {X : Cx} {pins : List (Addr × Obj)} {σ : L2.St} {H : Hp} {s : Shared} {f cda cc D C x : Addr} {ox : Obj} {body : List Stmt} {p0 p1 apos pos : Pos}
/-- the super object, new -/
theorem super_obj {attr : Str} {whole : Sem Value} {Q : Value → Shared → Prop} {E : Value → Shared → Prop} (S : SupK X.prog X.K X.mg f cda cc D) (I : Inv X pins σ H s) (hself : X.N[0]? = some ("self" : Str)) (hs0 : σ[0]? = some (some (.ref x))) (hxo : s.heap.get? x = some ox) (hxc : ox.cls = .ref C)
    (hnc : ∀ c, ox.data ≠ .cls c) (hsub : PySem.W.mroIn X.K C (.ref D) = some true) (hfu : X.env.func = some f) (hco : X.env.code = .ref cda) (hcl : X.env.cells.lookup ("__class__" : Str) = some cc)
    (hks : X.env.kindOf "super" = some .globalImplicit) (hkc : X.env.kindOf "__class__" = some .free) (hka : X.env.kindOf "self" = some .local) (hat : (attr == ("__class__" : Str)) = false)
    (h : ∀ so h', h'.get? so = some (PySem.W.ks_superObj D x C) → Inv X pins σ H { s with heap := h' } → s.heap.objs.size ≤ so → (∀ b o, s.heap.get? b = some o → h'.get? b = some o) → Q (.ref so) { s with heap := h' }) :
    _root_.PySem.wpAt (model X.prog X.w) X.A (.func body X.env) (attributeBase (.Call (.Name "super" p0) [] [] p1) attr X.env whole) Q E s := by
  obtain ⟨oc, od, fd, osl, ar, hf, hp, harg⟩ := S.fn
  obtain ⟨ccl, cdd, vs, ccs, file, tf, hcode, hvs, hfile⟩ := S.code
  obtain ⟨cl, cld, csl, hcell⟩ := S.cell
  obtain ⟨cdD, hD⟩ := S.cls
  have KX := I.kIn
  obtain ⟨mb, hb1, hb2⟩ := I.mod.blt
  obtain ⟨m, hn, hl⟩ := I.loc
  have vis : Vis X.env.scope "self" := .inl hka
  obtain ⟨u, ru, lu⟩ := hl 0 "self" (.ref x) hself hs0 vis
  obtain rfl : u = Value.ref x := ru
  have hm : m "self" = some (.ref x) := by
    rcases lu with ⟨_, e⟩ | ⟨k, _⟩
    · exact e
    · rw [hka] at k
      rcases k with k | k <;> cases k
  obtain ⟨hh, g, d, t, os⟩ := s
  obtain ⟨oD, hD1, hD2⟩ : ∃ oD, hh.get? D = some oD ∧ oD.data = .cls cdD := by
    unfold PySem.W.clsIn at hD
    split at hD
    · rename_i c d cd' sl ho
      cases hD
      exact ⟨_, KX _ _ ho, rfl⟩
    · cases hD
  refine ks_wpAt_super_base (env := X.env) (ar := ar) hks hkc hat hfu (KX _ _ hf) rfl hp hco (KX _ _ hcode) rfl hvs hfile S.top ?_
  refine PySem.W.ks_loadName_global I.ok.kind hks (Calls.loadGlobal_builtin (by rw [I.ok.glob]; exact I.mod.glob.keeps I.bk) S.sup (by rw [I.ok.blt]; exact hb1.keeps I.bk) ((hb2 _ (by decide +kernel)).trans PyProof.Rows.Boot.«super») ⟨rfl, ?_⟩)
  refine wpAny_loadName_free I.ok.kind hkc hcl ⟨_, KX _ _ hcell, rfl⟩ ?_
  rw [harg]
  refine wpAny_loadName_local I.ok.kind hka hn hm ?_
  refine ks_wpAny_isType_cls hD1 hD2 ⟨rfl, ?_⟩
  refine ks_wpAny_call_super hD1 hD2 hxo hxc hnc (PySem.W.looks_mroIn KX hsub) (fun h' e k => ?_)
  exact h _ h' e (I.kept (t' := t) k) (Nat.le_refl _) k
/-- super().__init__(e, ..), the class above having its __init__ at g -/
def tSup (C : Addr) (sp : Sp) (t : TA) : TS := fun D σ H => ∃ x dx fs, σ[0]? = some (some (.ref x)) ∧ H x = some (.ins C dx fs) ∧ t σ H fun vs H1 => sp (.ref x :: vs) H1 (fun _ H2 => D.nx σ H2) E0
structure SupM (K : PySem.W.Frag) (C D g : Addr) : Prop where
  sub : PySem.W.mroIn K C (.ref D) = some true
  meth : PySem.W.ks_superIn K C D "__init__" = some (some (.ref g))
  ty : PySem.W.typeIn K (.ref g) = some (.type "function")
  fi : PySem.W.fnIn K g = true
theorem psa_super {k j : Nat} {g : Addr} {sp : Sp} {e : Expr} {es : List Expr} {t : TA} {pl : Sem Bool} (S : SupK X.prog X.K X.mg f cda cc D) (M : SupM X.K C D g) (F : FnR X.prog X.w X.K X.mg X.base CX0 k g sp) (hr : Room j X.A) (ha : PA X (e :: es) t) (hkj : k ≤ j := by decide) (hself : X.N[0]? = some ("self" : Str) := by rfl)
    (hfu : X.env.func = some f := by rfl) (hco : X.env.code = .ref cda := by rfl) (hcl : X.env.cells.lookup ("__class__" : Str) = some cc := by rfl)
    (hks : X.env.kindOf "super" = some .globalImplicit := by rfl) (hkc : X.env.kindOf "__class__" = some .free := by rfl) (hka : X.env.kindOf "self" = some .local := by rfl)
    (he : starEach (e :: es) X.env = (false, eval e X.env) :: starEach es X.env := by rfl) (hpl : (backTo pos (starEach es X.env)).any (·.1) = false := by rfl)
    (ht : eval (.Call (.Attribute (.Call (.Name "super" p0) [] [] p1) "__init__" apos) (e :: es) [] pos) X.env = (do
      let ov ← attributeBase (.Call (.Name "super" p0) [] [] p1) "__init__" X.env (eval (.Call (.Name "super" p0) [] [] p1) X.env)
      standAt apos.atName
      let (f, first) ← holding [ov] (getMethod ov "__init__" pl)
      callWith pos f first (backTo pos (starEach (e :: es) X.env)) []) := by rfl)
    {spos : Pos} (hs : swapsWith (.Call (.Attribute (.Call (.Name "super" p0) [] [] p1) "__init__" apos) (e :: es) [] pos) none spos.line X.env = pure false := by rfl) :
    PSa X (.func body X.env) (.Expr (.Call (.Attribute (.Call (.Name "super" p0) [] [] p1) "__init__" apos) (e :: es) [] pos) spos) (tSup C sp t) := by
  refine ⟨fun pins s σ H Dd I h => ?_⟩
  obtain ⟨x, dx, fs, hs0, hx, q⟩ := h
  obtain ⟨mA, O, _⟩ := ins_get I.hok hx
  obtain ⟨od, J, _⟩ := O.look
  refine ks_wpAt_Expr_any ?_ I.quiet hs
  refine ks_wpAt_MethodCall (pl := pl) ?_ ht
  refine super_obj S I hself hs0 J.at_ J.cls (fun c z => ?_) M.sub hfu hco hcl hks hkc hka (by decide +kernel) fun so h' hso I1 hge kp => ?_
  · have := J.no
    unfold PySem.W.notCls at this
    rw [z] at this
    exact Bool.noConfusion this
  have KX := I1.kIn
  cases hc : PySem.W.clsIn X.K C with
  | none =>
    have hm := M.meth
    unfold PySem.W.ks_superIn at hm
    rw [hc] at hm
    cases hm
  | some cd =>
    have hm := M.meth
    unfold PySem.W.ks_superIn at hm
    rw [hc] at hm
    obtain ⟨of, hof, hofc⟩ : ∃ of, h'.get? g = some of ∧ of.cls = .type "function" := by
      have ht' : (X.K.lookup g).map (·.cls) = some (.type "function") := M.ty
      cases z : X.K.lookup g with
      | none => rw [z] at ht'; cases ht'
      | some of => rw [z] at ht'; exact ⟨of, KX _ _ z, Option.some.inj ht'⟩
    have J1 : PySem.W.InstAt h' x _ C (some od) := ⟨kp _ _ J.at_, J.cls, J.no, kp _ _ J.dict⟩
    obtain ⟨hp0, g0, d0, t0, os0⟩ := s
    refine ks_wpAny_getMethod_super hso (PySem.W.looks_opaque KX S.opq) (l₀ := cd.mro) ?_ rfl KX hm hof hofc (PySem.W.ks_ne KX J1 hc) (by decide +kernel) ?_
    · exact fun A Q E s k q => wpAny_bind ((PySem.W.looks_clsIn KX hc) A _ E s k (wpAny_pure q))
    · have I2 := ClX.met_new (g := g) (C := x) I1
      have hge2 : X.base.get? h'.objs.size = none := ClX.base_none I1 (Nat.le_refl _)
      refine ClX.callwith_cm (q := h'.objs.size) I2 hge2 M.fi (thn (ha.run pos _ _ σ H _ I2 q) fun us s3 ⟨vs, H2, I3, rv, q2⟩ => ⟨⟨ClX.pin_at I3, I3.kIn⟩, ?_⟩) he hpl
      refine thn (ClX.run_cm (F.mono hkj) hr pass0 I3 rv q2) fun w s4 ⟨v, H4, I4, r4, q4⟩ => ?_
      exact ⟨σ, H4, I4, q4⟩
end
end K89
set_option Elab.async false
set_option linter.all false
set_option maxRecDepth 100000
set_option maxHeartbeats 4000000
/-! K89.R7: C(e, .., k = v, ..) by a promise of its __init__; how such an __init__ binds. -/
namespace K89
open PySem PySem.Spec PyProof.Rows L2
/-- a promise by positional values and keywords' values, all keywords of the names ks given -/
abbrev SpK := List V → List V → Hp → VK → XK → Prop
def FnK (P : Program) (w : World) (K : PySem.W.Frag) (mg : Str → Option Value) (base : Heap) (CX : CXT) (k : Nat) (f : Addr) (ks : List Str) (sp : SpK) : Prop :=
  ∀ (A : Around) (outer : List Env) (s : Shared) (H : Hp) (us ws : List Value) (vs zs : List V) (Q : VK) (E : XK), Room k A → Env0 P w K mg base A outer s H → Vals vs us → Vals zs ws → zs.length = ks.length → sp vs zs H Q E →
    codeAny (model P w) A (.call (.ref f) ⟨us, ks.zip ws⟩) (CR CX outer P w H s Q E) s
theorem FnK.mono {P : Program} {w : World} {K : PySem.W.Frag} {mg : Str → Option Value} {base : Heap} {CX : CXT} {j k : Nat} {f : Addr} {ks : List Str} {sp : SpK} (F : FnK P w K mg base CX j f ks sp) (h : j ≤ k) : FnK P w K mg base CX k f ks sp :=
  fun A outer s H us ws vs zs Q E hr => F A outer s H us ws vs zs Q E (hr.mono h)
/-- C(e, .., k = v, ..): a new instance at a, its __init__ done -/
def Inst (C : Addr) (sp : SpK) (vs zs : List V) (H : Hp) (Q : VK) : Prop := ∀ a d, H a = none → H d = none → d ≠ a → sp (.ref a :: vs) zs (upd (upd H d (.own a)) a (.ins C d [])) (fun v H' => v = .non ∧ Q (.ref a) H') E0
def tMakeKR (C : Addr) (m : Nat) (sp : SpK) (t tk : TA) : TE := fun σ H Q => t σ H fun vs H1 => tk σ H1 fun zs H2 => zs.length = m ∧ Inst C sp vs zs H2 Q
section
variable {X : Cx} {k j : Nat} {f C : Addr} {ks : List Str} {sp : SpK} {x : Str} {p pos : Pos} {e : Expr} {es : List Expr} {kws : List Keyword} {t tk : TA}
theorem make_kw {pins : List (Addr × Obj)} {σ : L2.St} {H : Hp} {s : Shared} {Q : VK} {us ws : List Value} {vs zs : List V} (M : Mk X.K C f) (F : FnK X.prog X.w X.K X.mg X.base CX0 k f ks sp) (hr : Room (k + 1) X.A)
    (I : Inv X pins σ H s) (r : Vals vs us) (rz : Vals zs ws) (len : zs.length = ks.length) (q : Inst C sp vs zs H Q) : wpAny (model X.prog X.w) X.A (call (.ref C) us (ks.zip ws)) (EP X pins σ Q) X.xe s := by
  have J := Inv.made (C := C) I
  have init := F _ X.stack _ _ (.ref _ :: us) ws (.ref _ :: vs) zs _ E0 (hr.make C us (ks.zip ws)) (J.env0.make C us (ks.zip ws)) (.cons rfl r) rz len
    (q _ _ (I.hok.fresh (Nat.le_succ _)) (I.hok.fresh (Nat.le_refl _)) (Nat.ne_of_lt (Nat.lt_succ_self _)))
  refine wpAny_call (make_map (f := f) I.kIn M.makes M.init (beq_iff_eq.mp M.fn) (codeAny_mono init fun fl s' z => ?_))
  match fl, z with
  | .ok (.ret u), z =>
    obtain ⟨v, H', J', rv, ev, q'⟩ := J.after z
    subst ev
    exact ⟨rv, .ref _, H', J', rfl, q'⟩
  | .error _, z => exact z.elim
  | .ok .next, z => exact z.elim
  | .ok .brk, z => exact z.elim
  | .ok .cont, z => exact z.elim
theorem pe_makeKR (M : Mk X.K C f) (F : FnK X.prog X.w X.K X.mg X.base CX0 k f ks sp) (hr : Room j X.A) (hm : X.mg x = some (.ref C)) (ha : PA X (e :: es) t) (hkw : PK X kws tk) (hkj : k + 1 ≤ j := by decide) (hg : Gl X x := by rfl)
    (named : (backToKw pos (keywordEach kws X.env)).all (·.1.isSome) = true := by rfl) (names : (backToKw pos (keywordEach kws X.env)).filterMap (·.1) = ks := by rfl) (nd : (x == ("__debug__" : Str)) = false := by decide)
    (st : starEach (e :: es) X.env = (false, eval e X.env) :: starEach es X.env := by rfl) (plain : ((backTo pos (starEach (e :: es) X.env)).any (·.1) || (backToKw pos (keywordEach kws X.env)).any (·.1.isNone)) = false := by rfl) :
    PE X (.Call (.Name x p) (e :: es) kws pos) (tMakeKR C ks.length sp t tk) := ⟨fun pins s σ H Q I h => by
  have args := ha.run pos pins s σ H _ I h
  refine wpAny_Call_Name_kw (ld_glob I hg hm (PySem.W.callWith_KW (h₀ := X.base) I.ok.mod.kin M.kp named (thn args fun us s1 ⟨vs, H1, I1, rv, more⟩ => ?_) plain st) nd)
  refine thn (hkw.run pos pins s1 σ H1 _ I1 more) fun ws s2 ⟨zs, H2, I2, rz, len, q⟩ => ⟨I2.kIn, ?_⟩
  exact names.symm ▸ make_kw M F (hr.mono hkj) I2 rv rz len q⟩
end

/-! ### binding -/
section
variable {CX : CXT} {P : Program} {w : World} {K : PySem.W.Frag} {mg : Str → Option Value} {base : Heap} {fd : FuncData} {args : Args} {ps : List Str} {A : Around} {outer : List Env} {s : Shared} {H : Hp} {E : XK}
theorem bnd_pure {us : List Value} {vs : List V} (e0 : Env0 P w K mg base A outer s H) (hb : bindArgs fd args = pure (ps.zip us)) (r : Vals vs us) (hl : vs.length = ps.length) :
    StX.Bnd CX P w K mg base fd args ps A outer s H E (fun vs' H' => vs' = vs ∧ H' = H) := fun A' Ex Q h => by
  rw [hb]
  exact wpAny_pure (h s H vs us e0 Un.refl rfl (fun _ _ z => z) r hl ⟨rfl, rfl⟩)
theorem bnd_star {us rest : List Value} {vs xs : List V} {qs : List Str} {pv : Str} (e0 : Env0 P w K mg base A outer s H) (hCX : StX.CXUp CX) (hps : ps = qs ++ [pv]) (hb : bindArgs fd args = (newTuple rest >>= fun t => pure (qs.zip us ++ [(pv, t)])))
    (r : Vals vs us) (rx : Vals xs rest) (hl : vs.length = qs.length) (hz : xs.length ≤ sizeLine) :
    StX.Bnd CX P w K mg base fd args ps A outer s H E (fun vs' H' => ∃ p, H p = none ∧ vs' = vs ++ [.ref p] ∧ H' = upd H p (.tup xs)) := fun A' Ex Q h => by
  subst hps
  have hn : H s.heap.objs.size = none := e0.hok.fresh (Nat.le_refl _)
  have hl2 : rest.length ≤ sizeLine := by rw [← rx.length]; exact hz
  have hlu : us.length = qs.length := by rw [← r.length]; exact hl
  rw [hb]
  refine wpAny_bind (wpAny_newTuple (wpAny_pure ?_) hl2)
  have new : ObjOk P w (upd H s.heap.objs.size (.tup xs)) (s.heap.push ({ cls := .type "tuple", data := .seq rest.toArray } : Obj)) s.heap.objs.size (.tup xs) := ⟨hz, rest, rx, ⟨_, Heap.get?_push_size _ rfl, rfl, _, rfl⟩⟩
  have e1 := StX.env0_laid e0 new
  have un1 := StX.un_laid (fs := frs outer) (s := s) (o := ({ cls := .type "tuple", data := .seq rest.toArray } : Obj)) (u := .tup xs) hn
  have z := h _ _ (vs ++ [V.ref s.heap.objs.size]) (us ++ [Value.ref s.heap.objs.size]) e1 un1 rfl
    (fun e s' => hCX outer s H _ _ E e s' un1 (fun b o q => Heap.get?_push_of_some _ q) rfl) (r.append (.cons rfl .nil)) (by rw [List.length_append, List.length_append, hl] <;> rfl) ⟨_, hn, rfl, rfl⟩
  rw [List.zip_append hlu.symm] at z
  exact z
end
/-- a def that says super(), as it stands behind the top -/
structure SupF (P : Program) (K : PySem.W.Frag) (mg : Str → Option Value) (d : He.DefD) (D f cda cc : Addr) : Prop where
  ex : ∃ (oc kV doc pm ct : Value) (od an : Option Addr) (osl : Array (Option Value)), K.lookup f = some ⟨oc, od, .func (PySem.W.ksFn d.name d.qual d.params d.body d.scope .none kV doc pm an (.ref cda) ct cc), osl⟩
  hcd : PySem.W.codeIn K (.ref cda) d.qual = true
  k : SupK P K mg f cda cc D
section
variable {P : Program} {w : World} {K : PySem.W.Frag} {mg : Str → Option Value} {base : Heap} {d : He.DefD} {D f cda cc : Addr} {N qs : List Str} {k : Nat}
/-- .. its promise by its body: positional values and keywords -/
theorem SupF.fnK {CX : CXT} {ks : List Str} {sp : SpK} (F : SupF P K mg d D f cda cc) (S : SupScope N qs d.scope) (n : Nat)
    (hb : ∀ (kV doc pm : Value) (an : Option Addr) (ct : Value) (us ws : List Value), us.length = n → ws.length = ks.length → bindArgs (PySem.W.ksFn d.name d.qual d.params d.body d.scope .none kV doc pm an (.ref cda) ct cc) ⟨us, ks.zip ws⟩ = pure (qs.zip (us ++ ws))) (hn : n + ks.length = qs.length)
    (len : ∀ vs zs H Q E, sp vs zs H Q E → vs.length = n)
    (hbody : ∀ (A : Around) (outer : List Env) (s : Shared) (H : Hp) (vs zs : List V) (Q : VK) (E : XK), zs.length = ks.length → Room k (A.deeper (PySem.W.ksEnv d.qual d.scope s.heap.objs.size f (.ref cda) cc)) → sp vs zs H Q E →
      ∃ t, PSsa (cxS CX P w K mg base N d.qual d.scope f (.ref cda) cc A outer s H E) (.func d.body (PySem.W.ksEnv d.qual d.scope s.heap.objs.size f (.ref cda) cc)) d.body t ∧ t { nx := fun _ H' => Q .non H', rt := Q } (L2.start N (vs ++ zs)) H) :
    FnK P w K mg base CX (k + 1) f ks sp := by
  obtain ⟨oc, kV, doc, pm, ct, od, an, osl, lk⟩ := F.ex
  intro A outer s H us ws vs zs Q E hr e0 r rz lz hsp
  have hlv := len _ _ _ _ _ hsp
  have hlu : us.length = n := by rw [← r.length]; exact hlv
  have hlw : ws.length = ks.length := by rw [← rz.length]; exact lz
  refine sup_fn lk F.hcd F.k.cell S hr e0 (bnd_pure e0 (hb kV doc pm an ct us ws hlu hlw) (r.append rz) (by rw [List.length_append, hlv, lz, hn])) fun s2 H2 vs2 g hr2 => ?_
  obtain ⟨rfl, rfl⟩ := g
  exact hbody A outer s2 H2 vs zs Q E lz hr2 hsp
/-- .. with a star parameter behind n positional ones -/
theorem SupF.fnKS {ks : List Str} {pv : Str} {sp : SpK} (F : SupF P K mg d D f cda cc) (S : SupScope N (qs ++ [pv]) d.scope) (n : Nat)
    (hb : ∀ (kV doc pm : Value) (an : Option Addr) (ct : Value) (us rest ws : List Value), us.length = n → ws.length = ks.length → bindArgs (PySem.W.ksFn d.name d.qual d.params d.body d.scope .none kV doc pm an (.ref cda) ct cc) ⟨us ++ rest, ks.zip ws⟩ = (newTuple rest >>= fun t => pure (qs.zip (us ++ ws) ++ [(pv, t)]))) (hn : n + ks.length = qs.length)
    (hbody : ∀ (A : Around) (outer : List Env) (s : Shared) (H : Hp) (vs : List V) (Q : VK) (E : XK), Room k (A.deeper (PySem.W.ksEnv d.qual d.scope s.heap.objs.size f (.ref cda) cc)) → (∃ us rest zs p, vs = us ++ zs ++ [.ref p] ∧ us.length = n ∧ zs.length = ks.length ∧ H p = some (.tup rest) ∧ sp (us ++ rest) zs H Q E) →
      ∃ t, PSsa (cxS CX0 P w K mg base N d.qual d.scope f (.ref cda) cc A outer s H E) (.func d.body (PySem.W.ksEnv d.qual d.scope s.heap.objs.size f (.ref cda) cc)) d.body t ∧ t { nx := fun _ H' => Q .non H', rt := Q } (L2.start N vs) H) :
    FnK P w K mg base CX0 (k + 1) f ks (fun vs zs H Q E => n ≤ vs.length ∧ vs.length ≤ sizeLine ∧ ∀ p, H p = none → sp vs zs (upd H p (.tup (vs.drop n))) Q E) := by
  obtain ⟨oc, kV, doc, pm, ct, od, an, osl, lk⟩ := F.ex
  intro A outer s H us ws vs zs Q E hr e0 r rz lz ⟨hn1, hz, hsp⟩
  have hlw : ws.length = ks.length := by rw [← rz.length]; exact lz
  have hlu : us.length = vs.length := r.length.symm
  have e1 : us = us.take n ++ us.drop n := (List.take_append_drop n us).symm
  have hb' := hb kV doc pm an ct (us.take n) (us.drop n) ws (by rw [List.length_take]; omega) hlw
  rw [← e1] at hb'
  refine sup_fn lk F.hcd F.k.cell S hr e0 (bnd_star e0 StX.cxUp_none rfl hb' ((r.take n).append rz) (r.drop n) (by rw [List.length_append, List.length_take, lz]; omega) (by rw [List.length_drop]; omega)) fun s2 H2 vs2 g hr2 => ?_
  obtain ⟨p, hp, rfl, rfl⟩ := g
  refine hbody A outer s2 _ _ Q E hr2 ⟨vs.take n, vs.drop n, zs, p, rfl, by rw [List.length_take]; omega, lz, upd_same, ?_⟩
  rw [List.take_append_drop]
  exact hsp p hp
end
end K89
set_option Elab.async false
set_option linter.all false
set_option maxRecDepth 100000
set_option maxHeartbeats 4000000
/-! K89.R8: an own exception over RuntimeError whose __init__ says super().__init__(..): made, raised, its fields. -/
namespace PySem
namespace K89X
open PySem.W
abbrev rtTail : List Value := [.type "RuntimeError", .type "Exception", .type "BaseException", .type "object"]
/-- what a field's store asks of the class at C (own texts over RuntimeError) -/
structure Bears (K : W.Frag) (C : Addr) (f : Str) : Prop where
  over : excOver K C rtTail = true
  dict : ∃ cd, clsIn K C = some cd ∧ cd.hasDict = true
  set_ : findIn K (.ref C) "__setattr__" = some (some (.builtin "object.__setattr__"))
  free : findIn K (.ref C) f = some none
theorem Bears.taker {K : W.Frag} {C : Addr} {f : Str} (B : Bears K C f) : takerIn K C f = some none := by
  unfold takerIn
  rw [B.free]
  exact rfl
/-- a class of that shape bears it -/
theorem over_of {K : W.Frag} {C : Addr} {cd : ClassData} (e : clsIn K C = some cd) (m : cd.mro = .ref C :: rtTail) : excOver K C rtTail = true := by
  have tl : excTail rtTail rtTail = true := by decide +kernel
  unfold excOver
  rw [e]
  show (match cd.mro with | .ref C' :: bm => C' == C && excTail rtTail bm | _ => false) = true
  rw [m]
  simp only [tl, beq_self_eq_true, Bool.and_true]
section
open Builtin Builtin.ObjectAttr
variable {prog : Program} {w : World} {A : Around} {E : Value → Shared → Prop} {K : W.Frag} {s : Shared} {x C : Addr} {f : Str} {v : Value} {Q : Unit → Shared → Prop}
/-- the store, up to the object's own dict -/
theorem to_dict {o : Obj} {od : Option Obj} (B : Bears K C f) (kin : K.In s.heap) (at_ : InstAt s.heap x o C od)
    (go : ∀ (tk n : Nat) (b : Bool), wpAny (model prog w) (A.in1) (storeInOwnDict (.ref x) (.ref C) (.str f tk) f v b) (fun r s' => r = .done (.ret .none) ∧ Q () s') (fun _ _ => False) { s with toks := n }) :
    wpAny (model prog w) A (setAttr (.ref x) f v) Q E s := by
  refine set_plain kin at_ B.set_ ?_
  refine osa_openX (s := { s with toks := s.toks + 1 }) F.store_RuntimeError kin at_ B.over B.taker fun b => ?_
  refine wpAny_mono (go s.toks _ b) (fun r s' z => ?_) fun _ _ z => False.elim z
  obtain ⟨rfl, q⟩ := z
  exact q
/-- the first field: a dict D of its own comes, the field in it -/
theorem first_field {cells : Array Value} (B : Bears K C f) (kin : K.In s.heap) (at_ : s.heap.get? x = some { cls := .ref C, data := .fields cells })
    (go : ∀ (D : Addr) (s' : Shared), s'.gens = s.gens → s'.drawn = s.drawn → s'.os = s.os → s.heap.objs.size ≤ D → s'.heap.get? x = some { cls := .ref C, dict := some D, data := .fields cells } →
      s'.heap.Ns1 D (fun y => if y = f then some v else none) → (∀ b o, b ≠ x → s.heap.get? b = some o → s'.heap.get? b = some o) → Q () s') :
    wpAny (model prog w) A (setAttr (.ref x) f v) Q E s := by
  refine to_dict B kin (od := none) ⟨at_, rfl, rfl, trivial⟩ fun tk n b => ?_
  obtain ⟨⟨c1, c2, c3, c4, c5, c6, c7, c8, c9, c10, c11⟩, ecd, hd⟩ := B.dict
  have lk : Looks (model prog w) s.heap (classData C) _ := looks_clsIn kin ecd
  subst hd
  obtain ⟨hh, g, d, t, os⟩ := s
  unfold storeInOwnDict ownDictForStores
  repeat (first | with_reducible refine wpAny_loadPart_at at_ ?_ | with_reducible refine Looks.at lk ?_ | with_reducible refine HandSPX.store_in_new ?_ (fun h' n' ns same => ⟨rfl, ?_⟩) | wp_step)
  · have gD : ((hh.push { cls := .type "dict", data := .dict #[] }).get? hh.objs.size) = some _ := Heap.get?_push_size _ rfl
    exact ⟨_, #[], _, by rw [Heap.get?_update_other _ _ (Nat.ne_of_gt (Heap.lt_size at_)).symm]; exact gD, rfl, fun e z => absurd z (by simp), fun _ => rfl⟩
  · have xD : x < hh.objs.size := Heap.lt_size at_
    have old : ∀ {b : Addr} {o : Obj}, hh.get? b = some o → h'.get? b = (Heap.update _ x _).get? b := fun {b o} e => same.2 b (Nat.ne_of_lt (Heap.lt_size e))
    refine go hh.objs.size _ rfl rfl rfl (Nat.le_refl _) ?_ ns fun b o ne e => ?_
    · exact (old at_).trans (Heap.get?_update_self _ (Heap.get?_push_of_some _ at_) rfl)
    · exact (old e).trans ((Heap.get?_update_other _ _ (Ne.symm ne)).trans (Heap.get?_push_of_some _ e))
/-- a further field: into the dict at D -/
theorem next_field {cells : Array Value} {D : Addr} {m : Str → Option Value} {ks : List Str} (B : Bears K C f) (kin : K.In s.heap) (at_ : s.heap.get? x = some { cls := .ref C, dict := some D, data := .fields cells })
    (own : s.heap.Ns1 D m) (few : Within m ks ∧ ks.length ≤ 1000)
    (go : ∀ s' : Shared, s'.gens = s.gens → s'.drawn = s.drawn → s'.os = s.os → s'.heap.Ns1 D (fun y => if y = f then some v else m y) → (∀ b o, b ≠ D → s.heap.get? b = some o → s'.heap.get? b = some o) → Q () s') :
    wpAny (model prog w) A (setAttr (.ref x) f v) Q E s := by
  obtain ⟨oD, _, _, eD, _⟩ := own.count few.1
  refine to_dict B kin (od := some oD) ⟨at_, rfl, rfl, eD⟩ fun tk n b => ?_
  obtain ⟨⟨c1, c2, c3, c4, c5, c6, c7, c8, c9, c10, c11⟩, ecd, hd⟩ := B.dict
  have lk : Looks (model prog w) s.heap (classData C) _ := looks_clsIn kin ecd
  subst hd
  obtain ⟨hh, g, d, t, os⟩ := s
  unfold storeInOwnDict ownDictForStores
  repeat (first | with_reducible refine wpAny_loadPart_at at_ ?_ | with_reducible refine Looks.at lk ?_ | with_reducible refine ESX.store_in_old own few.1 few.2 (fun h' n' ns same => ⟨rfl, ?_⟩) | wp_step)
  exact go _ rfl rfl rfl ns fun b o ne e => (same.2 b ne).trans e
/-- RuntimeError.__init__ bound to the exception at x, called: its args are laid anew, nothing else -/
theorem bound_init {u t0 : Addr} {us : List Value} {G : Value → Shared → Prop}
    (cls : ∃ nm q N bs bm b sn sub ab col dd k0 k1 k2 k3 k5, s.heap.get? C = some (excClassObj nm q C N bs bm b sn sub ab col dd k0 k1 k2 k3 k5 "RuntimeError.__new__"))
    (ex : s.heap.get? x = some (HandSPX.excO C t0)) (bd : KxsAt "RuntimeError.__init__" u x s.heap) (len : us.length ≤ sizeLine)
    (go : ∀ (h' : Heap) (t1 : Addr), h'.get? x = some (HandSPX.excO C t1) → (∀ b o, b ≠ x → s.heap.get? b = some o → h'.get? b = some o) → G .none { s with heap := h' }) :
    wpAny (model prog w) A (call (.ref u) us) G E s := by
  obtain ⟨_, _, _, _, _, _, _, _, _, _, _, _, _, _, _, _, eC⟩ := cls
  have T := F.excBase_RuntimeError
  obtain ⟨hh, g, d, t, os⟩ := s
  have at_ : hh.get? u = some (kxs_mw "RuntimeError.__init__" x) := bd
  refine wpAny_call (codeAny_of_tree (wpAny_mono (Q := fun r s' => r = .again (.builtin "RuntimeError.__init__" ⟨.ref x :: us, []⟩) ∧ s' = ⟨hh, g, d, t, os⟩) (E := fun _ _ => False) ?_ (fun r s' z => ?_) fun _ _ z => False.elim z))
  · show wpAny _ _ (callAny (.ref u) ⟨us, []⟩) _ _ _
    unfold callAny
    refine wpAny_bind (wpAny_load at_ ?_)
    dsimp only [kxs_mw]
    rw [if_pos (by decide)]
    show wpAny _ _ (if (Value.type "method-wrapper" != Value.type "method") = true then _ else _) _ _ _
    rw [if_pos (by decide)]
    exact wpAny_bind (check_bound_init T.toExcCallFacts eC ex rfl (wpAny_bind (wpAny_pure (wpAny_pure ⟨rfl, rfl⟩))))
  · obtain ⟨rfl, rfl⟩ := z
    refine ⟨plainId_quiet T.init.plain _, codeAny_builtin T.initEntry (exc_init_tree (cls := .ref C) (t0 := t0) (dv := none) (c2 := .none) (c3 := .none) (b4 := .bool false) ex len fun h' k e _ => ?_)⟩
    exact go h' _ e k
end
end K89X
end PySem
set_option Elab.async false
set_option linter.all false
set_option maxRecDepth 100000
set_option maxHeartbeats 4000000
/-! K89.R9: the rules over R8: a field stored, super().__init__(..), raise X(..). -/
namespace K89
open PySem PySem.Spec PyProof.Rows L2
/-- what the text has of an own class over RuntimeError -/
structure OexR (K : PySem.W.Frag) (C : Addr) : Prop where
  shape : ∃ nm q N bs sn sub ab col dd k0 k1 k2 k3 k5, K.lookup C = some (excClassObj nm q C N bs K89X.rtTail true sn sub ab col dd k0 k1 k2 k3 k5 "RuntimeError.__new__")
  stores : PySem.W.findIn K (.ref C) "__setattr__" = some (some (.builtin "object.__setattr__"))
  isBase : PySem.W.subIn K (.ref C) (.type "BaseException") = some true
  isRt : PySem.W.subIn K (.ref C) (.type "RuntimeError") = some true
  meta_ : PySem.W.typeIn K (.ref C) = some (.type "type")
  kept : PySem.W.keepIn K (.ref C) = true
section
variable {K : PySem.W.Frag} {C : Addr} {f : Str}
theorem OexR.cls (T : OexR K C) : ∃ cd, PySem.W.clsIn K C = some cd ∧ cd.mro = .ref C :: K89X.rtTail ∧ cd.hasDict = true := by
  obtain ⟨nm, q, N, bs, sn, sub, ab, col, dd, k0, k1, k2, k3, k5, e⟩ := T.shape
  unfold PySem.W.clsIn
  rw [e]
  exact ⟨_, rfl, rfl, rfl⟩
theorem OexR.bears (T : OexR K C) (free : PySem.W.findIn K (.ref C) f = some none) : K89X.Bears K C f := by
  obtain ⟨cd, e, m, d⟩ := T.cls
  exact ⟨K89X.over_of e m, ⟨cd, e, d⟩, T.stores, free⟩
end
section
variable {X : Cx} {pins : List (Addr × Obj)} {σ : L2.St} {H : Hp} {s : Shared} {a C D : Addr} {f : Str} {y : V} {u : Value} {fs : List (Str × V)}
/-- the heap with the dict D new and the exception at a changed, seen as two steps: D laid, then a written -/
theorem inv_first (I : Inv X pins σ H s) (ha : H a = some (exo a C none)) (ry : RelV y u) {cells : Array Value} (at_ : s.heap.get? a = some { cls := .ref C, data := .fields cells }) (hD : s.heap.objs.size ≤ D) {h' : Heap} {n : Nat}
    (now : ∃ t : Addr, h'.get? a = some { cls := .ref C, dict := some D, data := .fields cells } ∧ cells = #[.ref t, .none, .none, .none, .bool false, .none])
    (own : h'.Ns1 D (fun z => if z = f then some u else none)) (k : ∀ b o, b ≠ a → s.heap.get? b = some o → h'.get? b = some o) :
    Inv X pins σ (upd (upd H D (exd D [(f, y)])) a (exo a C (some D))) { s with heap := h', toks := n } := by
  obtain ⟨t, g, rfl⟩ := now
  have ne : D ≠ a := fun z => absurd (Heap.lt_size at_) (Nat.not_lt.mpr (z ▸ hD))
  let G : Heap := h'.update a fun o => { o with dict := none }
  have ga : G.get? a = _ := Heap.get?_update_self _ g rfl
  have gb : ∀ b, b ≠ a → G.get? b = h'.get? b := fun b z => Heap.get?_update_other _ _ (Ne.symm z)
  have J : Inv X pins σ (upd H D (exd D [(f, y)])) { s with heap := G, toks := n } := I.laid (fun b o e => by
    by_cases z : b = a
    · subst z
      rw [ga, ← e, at_]
    · rw [gb b z]
      exact k b o z e) hD (exd_ok (own.at fun o e => (gb D ne).trans e) (relO_put (fs := []) ry fun _ => True.intro))
  exact J.write (t' := n) (x := a) (e := a) (by rw [upd_ne ne.symm, ha]; exact True.intro) (.inl rfl) (fun b o z e => (gb b z).symm.trans e) ⟨_, g⟩ (exo_ok g)
end
/-! ### fields -/
section
variable {X : Cx} {o e : Expr} {to te : TE} {f : Str} {p pos : Pos} {C : Addr}
/-- o.f = e: by what is known when both are reckoned -/
theorem ps_put {R : V → Addr → Ends → L2.St → Hp → Prop} (ho : PE X o to) (he : PE X e te) (hs : swapsWith e (some (.Attribute o f p)) pos.line X.env = pure false)
    (go : ∀ (pins : List (Addr × Obj)) (s : Shared) (σ : L2.St) (H : Hp) (D : Ends) (y : V) (u : Value) (a : Addr), Inv X pins σ H s → RelV y u → R y a D σ H → wpAny (model X.prog X.w) X.A (setAttr (.ref a) f u) (fun _ s' => ∃ H', Inv X pins σ H' s' ∧ D.nx σ H') X.xe s) :
    PS X (.Assign [.Attribute o f p] e pos) (fun D σ H => te σ H fun y H1 => to σ H1 fun x H2 => ∃ a, x = .ref a ∧ R y a D σ H2) := ⟨fun pins s σ H D I h =>
  plainObj_wpAny_Assign_Attribute (thn (he.run pins s σ H _ I h) fun u s1 ⟨y, H1, I1, ry, h1⟩ => thn (ho.run pins s1 σ H1 _ I1 h1) fun q s2 ⟨x, H2, I2, rx, a, ex, r⟩ => by
    subst ex
    cases rx
    exact wpAny_mono (go pins s2 σ H2 D y u a I2 ry r) (fun _ s3 ⟨H3, I3, z⟩ => ⟨σ, H3, I3, z⟩) fun _ _ z => z) hs⟩
/-- the first field of an exception that is being made -/
def tFirst (K : PySem.W.Frag) (C : Addr) (f : Str) (to te : TE) : TS := fun D σ H => te σ H fun y H1 => to σ H1 fun x H2 => ∃ a, x = .ref a ∧ (K89X.Bears K C f ∧ H2 a = some (exo a C none) ∧
  ∀ d, H2 d = none → d ≠ a → D.nx σ (upd (upd H2 d (exd d [(f, y)])) a (exo a C (some d))))
/-- a further one, into its dict at d, that has the fields fs -/
def tNext (K : PySem.W.Frag) (C : Addr) (f : Str) (to te : TE) : TS := fun D σ H => te σ H fun y H1 => to σ H1 fun x H2 => ∃ a, x = .ref a ∧ (K89X.Bears K C f ∧ ∃ d fs,
  H2 a = some (exo a C (some d)) ∧ H2 d = some (exd d fs) ∧ fs.length ≤ 900 ∧ D.nx σ (upd H2 d (exd d ((f, y) :: fs))))
theorem ps_first (ho : PE X o to) (he : PE X e te) (hs : swapsWith e (some (.Attribute o f p)) pos.line X.env = pure false := by rfl) : PS X (.Assign [.Attribute o f p] e pos) (tFirst X.K C f to te) :=
  ps_put ho he hs fun pins s σ H D y u a I ry ⟨B, ea, k⟩ => by
    obtain ⟨t, at_⟩ := exo_at I.hok ea
    refine K89X.first_field B I.kIn at_ fun d s' g1 g2 g3 hd now own kp => ?_
    obtain ⟨h', g', d', t', os'⟩ := s'
    obtain ⟨rfl, rfl, rfl⟩ : g' = s.gens ∧ d' = s.drawn ∧ os' = s.os := ⟨g1, g2, g3⟩
    exact ⟨_, inv_first I ea ry at_ hd ⟨t, now, rfl⟩ own kp, k d (I.hok.fresh hd) fun z => absurd (Heap.lt_size at_) (Nat.not_lt.mpr (z ▸ hd))⟩
theorem ps_next (ho : PE X o to) (he : PE X e te) (hs : swapsWith e (some (.Attribute o f p)) pos.line X.env = pure false := by rfl) : PS X (.Assign [.Attribute o f p] e pos) (tNext X.K C f to te) :=
  ps_put ho he hs fun pins s σ H D y u a I ry ⟨B, d, fs, ea, ed, few, k⟩ => by
    obtain ⟨t, at_⟩ := exo_at I.hok ea
    obtain ⟨m, own, rel⟩ := exd_at I.hok ed
    refine K89X.next_field B I.kIn at_ own ⟨within_of rel, by rw [List.length_map]; omega⟩ fun s' g1 g2 g3 now kp => ?_
    obtain ⟨h', g', d', t', os'⟩ := s'
    obtain ⟨rfl, rfl, rfl⟩ : g' = s.gens ∧ d' = s.drawn ∧ os' = s.os := ⟨g1, g2, g3⟩
    obtain ⟨od, _, _, god, _⟩ := id now
    exact ⟨_, I.write (t' := t') (x := d) (e := d) (by rw [ed]; exact True.intro) (.inl rfl) kp ⟨od, god⟩ (exd_ok now (relO_put ry rel)), k⟩
end
/-! ### super().__init__(e, ..) in the __init__ of such an exception -/
section
variable {X : Cx} {e : Expr} {es : List Expr} {t ta : TA} {p p0 p1 apos pos : Pos} {C : Addr} {body : List Stmt}
def tSupX (C : Addr) (t : TA) : TS := fun D σ H => ∃ x, σ[0]? = some (some (.ref x)) ∧ H x = some (exo x C none) ∧ t σ H fun vs H1 => vs.length ≤ 1000 ∧ H1 x = some (exo x C none) ∧ D.nx σ H1
/-- an exception written over by one like it: nothing told is changed -/
theorem inv_again {pins : List (Addr × Obj)} {σ : L2.St} {H : Hp} {s : Shared} {x : Addr} {h' : Heap} {n : Nat} {t : Addr} (I : Inv X pins σ H s) (ex : H x = some (exo x C none)) (now : h'.get? x = some (PySem.HandSPX.excO C t))
    (k : ∀ b o, b ≠ x → s.heap.get? b = some o → h'.get? b = some o) : Inv X pins σ H { s with heap := h', toks := n } := by
  have J := I.write (t' := n) (x := x) (e := x) (o := exo x C none) (by rw [ex]; exact True.intro) (.inl rfl) k ⟨_, now⟩ (exo_ok now)
  have same : upd H x (exo x C none) = H := funext fun b => if z : b = x then by rw [z, upd_same, ex] else upd_ne z
  exact same ▸ J
theorem psa_superX {fi cda cc : Addr} {pl : Sem Bool} (S : SupK X.prog X.K X.mg fi cda cc C) (T : OexR X.K C) (hsub : PySem.W.mroIn X.K C (.ref C) = some true) (hm : PySem.W.ks_superIn X.K C C "__init__" = some (some (.builtin "RuntimeError.__init__"))) (ha : PA X (e :: es) t) (hself : X.N[0]? = some ("self" : Str) := by rfl)
    (hfu : X.env.func = some fi := by rfl) (hco : X.env.code = .ref cda := by rfl) (hcl : X.env.cells.lookup ("__class__" : Str) = some cc := by rfl)
    (hks : X.env.kindOf "super" = some .globalImplicit := by rfl) (hkc : X.env.kindOf "__class__" = some .free := by rfl) (hka : X.env.kindOf "self" = some .local := by rfl)
    (st : starEach (e :: es) X.env = (false, eval e X.env) :: starEach es X.env := by rfl) (noStar : (backTo pos (starEach es X.env)).any (·.1) = false := by rfl)
    (ht : eval (.Call (.Attribute (.Call (.Name "super" p0) [] [] p1) "__init__" apos) (e :: es) [] pos) X.env = (attributeBase (.Call (.Name "super" p0) [] [] p1) "__init__" X.env (eval (.Call (.Name "super" p0) [] [] p1) X.env) >>= fun so =>
      standAt apos.atName >>= fun _ => holding [so] (getMethod so "__init__" pl) >>= fun q => callWith pos q.1 q.2 (backTo pos (starEach (e :: es) X.env)) []) := by rfl)
    {spos : Pos} (hs : swapsWith (.Call (.Attribute (.Call (.Name "super" p0) [] [] p1) "__init__" apos) (e :: es) [] pos) none spos.line X.env = pure false := by rfl) :
    PSa X (.func body X.env) (.Expr (.Call (.Attribute (.Call (.Name "super" p0) [] [] p1) "__init__" apos) (e :: es) [] pos) spos) (tSupX C t) := ⟨fun pins s σ H D I ⟨x, s0, ex, q⟩ => by
  obtain ⟨t1, at_⟩ := exo_at I.hok ex
  obtain ⟨cd, ecd, em, _⟩ := T.cls
  obtain ⟨nm, qn, N, bs, sn, sub, ab, col, dd, k0, k1, k2, k3, k5, eC⟩ := T.shape
  have xC : x ≠ C := fun z => by
    have g := I.kIn C _ eC
    rw [← z, at_] at g
    cases g
  have up : PySem.W.alongIn X.K "__init__" ((cd.mro.dropWhile (· != .ref C)).drop 1) = some (some (.builtin "RuntimeError.__init__")) := by
    unfold PySem.W.ks_superIn at hm
    rw [ecd] at hm
    exact hm
  refine ks_wpAt_Expr_any (ks_wpAt_MethodCall (pl := pl) (super_obj S I hself s0 at_ rfl (fun _ z => nomatch z) hsub hfu hco hcl hks hkc hka (by decide +kernel) fun so G gso I1 _ kp => ?_) ht) I.quiet hs
  obtain ⟨h0, g0, d0, n0, os0⟩ := s
  have isa : PySem.W.Looks (model X.prog X.w) G (isInstance (.ref x) (.type "RuntimeError")) true := (show PySem.W.InstAt G x _ C none from ⟨kp _ _ at_, rfl, rfl, trivial⟩).type.andThen (PySem.W.looks_subIn I1.kIn T.isRt)
  refine PySem.W.kxs_getMethod PySem.W.kxs_RuntimeError gso (PySem.W.looks_opaque I1.kIn S.opq) (l₀ := cd.mro) ((PySem.W.looks_clsIn I1.kIn ecd).andThen .now) rfl I1.kIn up isa xC (by decide +kernel) ?_
  have I2 : Inv X ((G.objs.size, PySem.W.kxs_mw "RuntimeError.__init__" x) :: pins) σ H ⟨G.push (PySem.W.kxs_mw "RuntimeError.__init__" x), g0, d0, n0 + 1, os0⟩ :=
    ClX.pin_new I1 (fun _ _ z => Heap.get?_push_of_some _ z) (Nat.le_refl _) (Heap.get?_push_size G rfl) nofun
  have plain : (backTo pos (starEach (e :: es) X.env)).any (·.1) = false := by
    rw [st]
    exact noStar
  refine PySem.W.kxs_callWith (i := "RuntimeError.__init__") (x := x) plain ?_
  have args := ha.run pos _ _ σ H _ I2 q
  rw [st] at args ⊢
  refine Calls.evalArgs_plain (thn args fun us s3 ⟨vs, H2, I3, rv, few, ex3, nx⟩ => ⟨ClX.pin_at I3, ?_⟩)
  obtain ⟨t3, at3⟩ := exo_at I3.hok ex3
  refine K89X.bound_init ⟨_, _, _, _, _, _, _, _, _, _, _, _, _, _, _, _, I3.kIn C _ eC⟩ at3 (ClX.pin_at I3) (by rw [List.nil_append, ← rv.length, sizeLine_eq]; omega) fun h4 t4 now k4 => ?_
  exact ⟨σ, H2, inv_again (ClX.unpin I3) ex3 now k4, nx⟩⟩
end
/-! ### C(e, ..) to be raised -/
section
variable {X : Cx} {e : Expr} {es : List Expr} {ta : TA} {p pos : Pos} {C fI : Addr} {k j : Nat} {sp : Sp} {x : Str}
def tMkR (C : Addr) (sp : Sp) (ta : TA) : L2.St → Hp → XK → Prop := fun σ H Q => ta σ H fun vs H1 => vs.length ≤ 1000 ∧ ∀ a, H1 a = none →
  sp (.ref a :: vs) (upd H1 a (exo a C none)) (fun v H2 => v = .non ∧ ∃ d fs, H1 d = none ∧ H2 d = some (exd d fs) ∧ H2 a = some (exo a C (some d)) ∧ Q (.ref C) (some d) (upd (del H2 a) d (.xd fs))) E0
/-- the class called: the exception and its args are laid, its __init__ runs -/
theorem make_rt {pins : List (Addr × Obj)} {σ : L2.St} {H : Hp} {s : Shared} {Q : XK} {us : List Value} {vs : List V} (T : OexR X.K C) (iC : PySem.W.findIn X.K (.ref C) "__init__" = some (some (.ref fI))) (tI : PySem.W.typeIn X.K (.ref fI) = some (.type "function"))
    (F : FnR X.prog X.w X.K X.mg X.base CX0 k fI sp) (hr : Room (k + 1) X.A) (I : Inv X pins σ H s) (r : Vals vs us) (few : vs.length ≤ 1000)
    (q : ∀ a, H a = none → sp (.ref a :: vs) (upd H a (exo a C none)) (fun v H2 => v = .non ∧ ∃ d fs, H d = none ∧ H2 d = some (exd d fs) ∧ H2 a = some (exo a C (some d)) ∧ Q (.ref C) (some d) (upd (del H2 a) d (.xd fs))) E0) :
    wpAny (model X.prog X.w) X.A (call (.ref C) us) (MkP X pins σ Q) X.xe s := by
  obtain ⟨nm, qn, N, bs, sn, sub, ab, col, dd, k0, k1, k2, k3, k5, eC⟩ := T.shape
  obtain ⟨h, g, d, t, os⟩ := s
  let G : Heap := (h.push (PySem.W.kdv_tup us)).push (PySem.HandSPX.excO C h.objs.size)
  have grow : ∀ b o, h.get? b = some o → G.get? b = some o := fun _ _ z => Heap.get?_push_of_some _ (Heap.get?_push_of_some _ z)
  have new : G.get? (h.objs.size + 1) = some (PySem.HandSPX.excO C h.objs.size) := by heap_get
  have J : Inv X pins σ (upd H (h.objs.size + 1) (exo (h.objs.size + 1) C none)) ⟨G, g, d, t, os⟩ := I.laid (t' := t) grow (Nat.le_succ _) (exo_ok new)
  have len : us.length ≤ sizeLine := by
    rw [← r.length, sizeLine_eq]
    omega
  refine wpAny_call (PySem.HandSPX.call_own PySem.F.excBase_RuntimeError (fun _ => rfl) (I.kIn _ _ eC) (PySem.W.looks_findIn I.kIn iC) (fun z => PySem.W.bind_fn I.kIn z tI) len ?_)
  refine codeAny_mono (F _ X.stack _ _ (.ref _ :: us) (.ref _ :: vs) _ _ (hr.make C us []) (J.env0.make C us []) (.cons rfl r) (q _ (I.hok.fresh (Nat.le_succ _)))) fun fl s' z => ?_
  match fl, z with
  | .ok (.ret u), ⟨v, H2, eo, bare, un, hok, rv, ev, D, fs, fresh, gd, ga, q2⟩ =>
    subst ev
    obtain ⟨h2, g2, d2, t2, o2⟩ := s'
    exact ⟨rv, mk_end (raises_own T.isBase T.meta_) I (Nat.le_succ _) grow un hok eo bare ga gd fresh q2⟩
  | .error _, z => exact z.elim
  | .ok .next, z => exact z.elim
  | .ok .brk, z => exact z.elim
  | .ok .cont, z => exact z.elim
theorem pmk_oexR (T : OexR X.K C) (iC : PySem.W.findIn X.K (.ref C) "__init__" = some (some (.ref fI))) (tI : PySem.W.typeIn X.K (.ref fI) = some (.type "function")) (F : FnR X.prog X.w X.K X.mg X.base CX0 k fI sp) (hr : Room j X.A)
    (hm : X.mg x = some (.ref C)) (ha : PA X (e :: es) ta) (hkj : k + 1 ≤ j := by decide) (hg : Gl X x := by rfl) (nd : (x == ("__debug__" : Str)) = false := by decide) (st : starEach (e :: es) X.env = (false, eval e X.env) :: starEach es X.env := by rfl)
    (noStar : (backTo pos (starEach es X.env)).any (·.1) = false := by rfl) : PMk X (.Call (.Name x p) (e :: es) [] pos) (tMkR C sp ta) := fun pins s σ H Q I h =>
  wpAny_Call_Name_kw (ld_glob I hg hm (PySem.W.callWith_K (h₀ := X.base) I.ok.mod.kin T.kept (thn (ha.run pos pins s σ H _ I h) fun us s1 ⟨vs, H1, I1, rv, few, q⟩ => ⟨I1.kIn, make_rt T iC tI F (hr.mono hkj) I1 rv few q⟩) st noStar) nd)
end
end K89
set_option Elab.async false
set_option linter.all false
set_option maxRecDepth 100000
set_option maxHeartbeats 4000000
/-! K89.Txt: what of the text stands behind its top. -/
namespace K89
open PySem PySem.Spec PyProof.Rows L2
abbrev cl (K : PySem.W.Frag) (x : Str) : Addr := He.ga K x
abbrev gMemI (K : PySem.W.Frag) : Addr := He.ma K (He.ga K "Member") "__init__"
def mostS : List (Str × Int) := [("MOST_NAME", 250), ("MOST_DATA", 4096), ("MOST_PIECES", 50), ("MOST_MODE", 4095), ("MOST_TIME", 8589934591)]
def lettersS : Str := "abcdefghijklmnopqrstuvwxyz0123456789._-/"
/-- a class of members: C its name, flds its own attributes, kind its KIND -/
structure MemC (P : Program) (K : PySem.W.Frag) (mg : Str → Option Value) (C : Str) (kind : Str) (d : He.DefD) : Prop where
  cls : Cls K (cl K C)
  g : mg C = some (.ref (cl K C))
  mkI : ∃ f cda cc, Mk K (cl K C) f ∧ SupF P K mg d (cl K C) f cda cc
  sup : SupM K (cl K C) (cl K C) (gMemI K)
  con : ∃ u, Con K (cl K C) "KIND" (.str kind) u
  na : ∀ f ∈ (["name", "mode", "time", "key", "data", "size", "pieces", "target"] : List Str), NoAttr K (cl K C) f
structure Txt (P : Program) (K : PySem.W.Frag) (mg : Str → Option Value) : Prop where
  f_len : mg "len" = none
  f_isinstance : mg "isinstance" = none
  f_range : mg "range" = none
  f_all : mg "all" = none
  f_any : mg "any" = none
  f_sorted : mg "sorted" = none
  f_dict : mg "dict" = none
  f_list : mg "list" = none
  f_bytes : mg "bytes" = none
  f_enumerate : mg "enumerate" = none
  f_max : mg "max" = none
  f_min : mg "min" = none
  f_abs : mg "abs" = none
  f_int : mg "int" = none
  f_bool : mg "bool" = none
  f_str : mg "str" = none
  f_tuple : mg "tuple" = none
  f_super : mg "super" = none
  c_LETTERS : ∃ t, mg "LETTERS" = some (.str lettersS t)
  c_MOST_NAME : ∃ t, mg "MOST_NAME" = some (.int 250 t)
  c_MOST_DATA : ∃ t, mg "MOST_DATA" = some (.int 4096 t)
  c_MOST_PIECES : ∃ t, mg "MOST_PIECES" = some (.int 50 t)
  c_MOST_MODE : ∃ t, mg "MOST_MODE" = some (.int 4095 t)
  c_MOST_TIME : ∃ t, mg "MOST_TIME" = some (.int 8589934591 t)
  c_MADE : mg "MADE" = some (.ref (cl K "MADE"))
  t_MADE : ∀ H : Hp, SqT K H (cl K "MADE") [.str "directory", .int 493, .int 0]
  h_is_integer : HasD K mg "is_integer" d_is_integer
  h_is_within : HasD K mg "is_within" d_is_within
  h_blob : HasD K mg "blob" d_blob
  h_is_name : HasD K mg "is_name" d_is_name
  h_is_path : HasD K mg "is_path" d_is_path
  h_look_name : HasD K mg "look_name" d_look_name
  h_look_stamps : HasD K mg "look_stamps" d_look_stamps
  h_is_piece : HasD K mg "is_piece" d_is_piece
  h_are_spans : HasD K mg "are_spans" d_are_spans
  h_are_pieces : HasD K mg "are_pieces" d_are_pieces
  h_File_content : HasM K (cl K "File") "content" d_File_content
  h_Sparse_content : HasM K (cl K "Sparse") "content" d_Sparse_content
  h_above : HasD K mg "above" d_above
  h_are_stamps : HasD K mg "are_stamps" d_are_stamps
  h_is_thing : HasD K mg "is_thing" d_is_thing
  h_is_entry : HasD K mg "is_entry" d_is_entry
  h_are_of_one_house : HasD K mg "are_of_one_house" d_are_of_one_house
  h_House_init : HasM K (cl K "House") "__init__" d_House_init
  h_House_set_thing : HasM K (cl K "House") "set_thing" d_House_set_thing
  h_House_share : HasM K (cl K "House") "share" d_House_share
  h_House_settle : HasM K (cl K "House") "settle" d_House_settle
  h_House_kind_at : HasM K (cl K "House") "kind_at" d_House_kind_at
  h_House_copied : HasM K (cl K "House") "copied" d_House_copied
  h_House_entries : HasM K (cl K "House") "entries" d_House_entries
  h_House_sharers : HasM K (cl K "House") "sharers" d_House_sharers
  h_House_thing_at : HasM K (cl K "House") "thing_at" d_House_thing_at
  h_House_has : HasM K (cl K "House") "has" d_House_has
  h_House_len : HasM K (cl K "House") "__len__" d_House_len
  h_refusal : HasD K mg "refusal" d_refusal
  h_refusal_at : HasD K mg "refusal_at" d_refusal_at
  h_put_at : HasD K mg "put_at" d_put_at
  h_put_member : HasD K mg "put_member" d_put_member
  h_unpack_one : HasD K mg "unpack_one" d_unpack_one
  h_unpacked : HasD K mg "unpacked" d_unpacked
  h_law_source : HasD K mg "_law_source" d_law_source
  h_law_draw : HasD K mg "_law_draw" d_law_draw
  h_law_path : HasD K mg "_law_path" d_law_path
  h_law_numbers : HasD K mg "_law_numbers" d_law_numbers
  h_law_stamps : HasD K mg "_law_stamps" d_law_stamps
  h_law_pieces : HasD K mg "_law_pieces" d_law_pieces
  h_law_spec : HasD K mg "_law_spec" d_law_spec
  h_law_made : HasD K mg "_law_made" d_law_made
  h_law_specs : HasD K mg "_law_specs" d_law_specs
  h_law_tree : HasD K mg "_law_tree" d_law_tree
  h_law_copied : HasD K mg "_law_copied" d_law_copied
  h_law_above : HasD K mg "_law_above" d_law_above
  h_law_kind : HasD K mg "_law_kind" d_law_kind
  h_law_is_path : HasD K mg "_law_is_path" d_law_is_path
  h_law_word : HasD K mg "_law_word" d_law_word
  h_law_content : HasD K mg "_law_content" d_law_content
  h_law_stepped : HasD K mg "_law_stepped" d_law_stepped
  h_law_entries : HasD K mg "_law_entries" d_law_entries
  h_law_told : HasD K mg "_law_told" d_law_told
  h_law_tree_of : HasD K mg "_law_tree_of" d_law_tree_of
  h_law_led : HasD K mg "_law_led" d_law_led
  h_law_led_specs : HasD K mg "_law_led_specs" d_law_led_specs
  h_law_led_tree : HasD K mg "_law_led_tree" d_law_led_tree
  h_law_names_of : HasD K mg "_law_names_of" d_law_names_of
  h_law_right : HasD K mg "_law_right" d_law_right
  h_law : HasD K mg "law" d_law
  h_Member_init : ∃ fd, FunD K d_Member_init.name d_Member_init.qual d_Member_init.params d_Member_init.body d_Member_init.scope [] [] (gMemI K) fd
  c_House : Cls K (cl K "House")
  g_House : mg "House" = some (.ref (cl K "House"))
  mk_House : ∃ f, Mk K (cl K "House") f ∧ Meth K (cl K "House") "__init__" f
  na_House : ∀ f ∈ (["standing", "files", "rows"] : List Str), NoAttr K (cl K "House") f
  of_House : ∃ mc p g fd, ClX.CRead K (cl K "House") mc ∧ ClX.CMet K (cl K "House") mc "of" p g ∧ FunD K d_House_of.name d_House_of.qual d_House_of.params d_House_of.body d_House_of.scope [] [] g fd
  m_File : MemC P K mg "File" "file" d_File_init
  m_Sparse : MemC P K mg "Sparse" "sparse" d_Sparse_init
  m_Directory : MemC P K mg "Directory" "directory" d_Directory_init
  m_Symlink : MemC P K mg "Symlink" "symlink" d_Symlink_init
  m_Link : MemC P K mg "Link" "link" d_Link_init
  r_g : mg "Refused" = some (.ref (cl K "Refused"))
  r_o : OexR K (cl K "Refused")
  r_x : XfC K (cl K "Refused")
  r_na : ∀ f ∈ (["index", "word"] : List Str), PySem.W.findIn K (.ref (cl K "Refused")) f = some none
  r_i : ∃ f cda cc, PySem.W.findIn K (.ref (cl K "Refused")) "__init__" = some (some (.ref f)) ∧ PySem.W.typeIn K (.ref f) = some (.type "function") ∧ SupF P K mg d_Refused_init (cl K "Refused") f cda cc
  r_s : PySem.W.mroIn K (cl K "Refused") (.ref (cl K "Refused")) = some true
  r_m : PySem.W.ks_superIn K (cl K "Refused") (cl K "Refused") "__init__" = some (some (.builtin "RuntimeError.__init__"))
  r_e : PySem.W.exmOne K (.ref (cl K "Refused")) (.ref (cl K "Refused")) = some true
end K89
set_option Elab.async false
set_option linter.all false
set_option maxRecDepth 100000
set_option maxHeartbeats 4000000
/-! K89.Math1: names: paths as lists of part numbers, their texts by a naming; split, join, letters. No program here. -/
namespace K89
open PySem

/-! ### joined lists of codes -/
def jn : List (List Nat) → List Nat
  | [] => []
  | [x] => x
  | x :: y :: r => x ++ 47 :: jn (y :: r)
theorem jn_cons (x : List Nat) {r : List (List Nat)} (h : r ≠ []) : jn (x :: r) = x ++ 47 :: jn r := by
  cases r with
  | nil => exact absurd rfl h
  | cons y r => rfl
theorem cut_eq {x y a b : List Nat} (hx : 47 ∉ x) (hy : 47 ∉ y) (h : x ++ 47 :: a = y ++ 47 :: b) : x = y ∧ a = b := by
  induction x generalizing y with
  | nil =>
    cases y with
    | nil => simp at h; exact ⟨rfl, h⟩
    | cons c y => simp at h; exact absurd (by rw [← h.1]; exact List.mem_cons_self) hy
  | cons c x ih =>
    cases y with
    | nil => simp at h; exact absurd (by rw [h.1]; exact List.mem_cons_self) hx
    | cons d y =>
      simp at h
      obtain ⟨e1, e2⟩ := ih (fun q => hx (List.mem_cons_of_mem _ q)) (fun q => hy (List.mem_cons_of_mem _ q)) h.2
      exact ⟨by rw [h.1, e1], e2⟩
theorem jn_inj : ∀ {xs ys : List (List Nat)}, xs ≠ [] → ys ≠ [] → (∀ x ∈ xs, 47 ∉ x) → (∀ y ∈ ys, 47 ∉ y) → jn xs = jn ys → xs = ys
  | [], _, h, _, _, _, _ => absurd rfl h
  | _, [], _, h, _, _, _ => absurd rfl h
  | [x], [y], _, _, _, _, h => by simp [jn] at h; rw [h]
  | [x], y :: y' :: r, _, _, hx, _, h => by
    have e : x = y ++ 47 :: jn (y' :: r) := h
    exact absurd (by rw [e]; simp) (hx x (by simp))
  | x :: x' :: r, [y], _, _, _, hy, h => by
    have e : x ++ 47 :: jn (x' :: r) = y := h
    exact absurd (by rw [← e]; simp) (hy y (by simp))
  | x :: x' :: r, y :: y' :: r', _, _, hx, hy, h => by
    have e : x ++ 47 :: jn (x' :: r) = y ++ 47 :: jn (y' :: r') := h
    obtain ⟨e1, e2⟩ := cut_eq (hx x (by simp)) (hy y (by simp)) e
    have e3 := jn_inj (xs := x' :: r) (ys := y' :: r') (by simp) (by simp) (fun z hz => hx z (List.mem_cons_of_mem _ hz)) (fun z hz => hy z (List.mem_cons_of_mem _ hz)) e2
    rw [e1, e3]
theorem jn_length : ∀ {xs : List (List Nat)}, xs ≠ [] → (jn xs).length + 1 = (xs.map List.length).sum + xs.length
  | [], h => absurd rfl h
  | [x], _ => by simp [jn]
  | x :: y :: r, _ => by
    have ih := jn_length (xs := y :: r) (by simp)
    show (x ++ 47 :: jn (y :: r)).length + 1 = _
    simp only [List.length_append, List.length_cons, List.map_cons, List.sum_cons] at ih ⊢
    omega
theorem jn_mem {c : Nat} : ∀ {xs : List (List Nat)}, c ∈ jn xs → c = 47 ∨ ∃ x ∈ xs, c ∈ x
  | [], h => by simp [jn] at h
  | [x], h => .inr ⟨x, by simp, h⟩
  | x :: y :: r, h => by
    have h' : c ∈ x ++ 47 :: jn (y :: r) := h
    rcases List.mem_append.mp h' with q | q
    · exact .inr ⟨x, by simp, q⟩
    · rcases List.mem_cons.mp q with q | q
      · exact .inl q
      · rcases jn_mem q with e | ⟨z, hz, hc⟩
        · exact .inl e
        · exact .inr ⟨z, List.mem_cons_of_mem _ hz, hc⟩

/-! ### texts -/
abbrev cds (s : Str) : List Nat := s.cps.toList
abbrev slash : Str := ⟨#[47]⟩
theorem str_ext {a b : Str} (h : cds a = cds b) : a = b := Str.ext' (Array.toList_inj.mp h)
theorem cds_len (s : Str) : (cds s).length = s.length := by simp [Str.length]
theorem cds_join : ∀ ws : List Str, cds (Str.join slash ws) = jn (ws.map cds)
  | [] => by simp [Str.join, Str.empty, jn]
  | [x] => rfl
  | x :: y :: r => by
    have ih := cds_join (y :: r)
    show cds (x ++ slash ++ Str.join slash (y :: r)) = cds x ++ 47 :: jn ((y :: r).map cds)
    rw [← ih]
    show (x.cps ++ #[47] ++ (Str.join slash (y :: r)).cps).toList = x.cps.toList ++ 47 :: (Str.join slash (y :: r)).cps.toList
    simp
theorem map_cds_inj : ∀ {xs ys : List Str}, xs.map cds = ys.map cds → xs = ys
  | [], [], _ => rfl
  | [], _ :: _, h => by simp at h
  | _ :: _, [], h => by simp at h
  | x :: xs, y :: ys, h => by
    simp only [List.map_cons, List.cons.injEq] at h
    rw [str_ext h.1, map_cds_inj h.2]
theorem join_inj {xs ys : List Str} (hx : xs ≠ []) (hy : ys ≠ []) (fx : ∀ x ∈ xs, 47 ∉ cds x) (fy : ∀ y ∈ ys, 47 ∉ cds y) (h : Str.join slash xs = Str.join slash ys) : xs = ys := by
  have e : jn (xs.map cds) = jn (ys.map cds) := by rw [← cds_join, ← cds_join, h]
  refine map_cds_inj (jn_inj (by simpa using hx) (by simpa using hy) ?_ ?_ e)
  · intro x hm
    obtain ⟨w, hw, rfl⟩ := List.mem_map.mp hm
    exact fx w hw
  · intro x hm
    obtain ⟨w, hw, rfl⟩ := List.mem_map.mp hm
    exact fy w hw
theorem split_join {ws : List Str} (h0 : Str.join slash ws ≠ Str.empty) (fw : ∀ w ∈ ws, 47 ∉ cds w) : Txt.split (Str.join slash ws) slash = ws := by
  have e := StrLaws.join_split (Str.join slash ws) slash
  have hs : Txt.split (Str.join slash ws) slash ≠ [] := fun z => by
    rw [z] at e
    exact h0 e.symm
  have hw : ws ≠ [] := fun z => by
    rw [z] at h0
    exact h0 rfl
  exact join_inj hs hw (StrLaws.split_free _ 47) fw e

/-! ### parts and namings -/
def letters : List Nat := cds "abcdefghijklmnopqrstuvwxyz0123456789._-/"
/-- a part of a path, as a text -/
structure GoodPart (w : Str) : Prop where
  ne : w ≠ ""
  dot : w ≠ "."
  dots : w ≠ ".."
  free : 47 ∉ cds w
  let_ : ∀ c ∈ cds w, c ∈ letters
def goodB (w : Str) : Bool := decide (w ≠ "") && (decide (w ≠ ".") && (decide (w ≠ "..") && (decide (47 ∉ cds w) && (cds w).all fun c => decide (c ∈ letters))))
theorem goodB_ok {w : Str} (h : goodB w = true) : GoodPart w := by
  unfold goodB at h
  simp only [Bool.and_eq_true, decide_eq_true_eq, List.all_eq_true] at h
  exact ⟨h.1, h.2.1, h.2.2.1, h.2.2.2.1, h.2.2.2.2⟩
/-- a path: part numbers below 7; part 6 (the long one) stands at the end alone -/
abbrev Pth := List Nat
structure POk (p : Pth) : Prop where
  ne : p ≠ []
  le : p.length ≤ 4
  lt : ∀ i ∈ p, i < 7
  short : ∀ i ∈ p.dropLast, i < 6
/-- a naming of the parts -/
structure Nm (ν : Nat → Str) : Prop where
  inj : ∀ i j, i < 7 → j < 7 → ν i = ν j → i = j
  good : ∀ i, i < 7 → GoodPart (ν i)
  len : ∀ p, POk p → (Str.join slash (p.map ν)).length ≤ 250
def nm (ν : Nat → Str) (p : Pth) : Str := Str.join slash (p.map ν)
section
variable {ν : Nat → Str} {p q : Pth}
theorem nm_len0 (N : Nm ν) (h : POk p) : 1 ≤ (nm ν p).length := by
  have e := jn_length (xs := (p.map ν).map cds) (by simpa using h.ne)
  have e2 : (nm ν p).length = (jn ((p.map ν).map cds)).length := by rw [← cds_join, cds_len]; rfl
  obtain ⟨i, r, rfl⟩ := List.exists_cons_of_ne_nil h.ne
  have h1 : cds (ν i) ≠ [] := fun z => (N.good i (h.lt i (by simp))).ne (str_ext (by rw [z]; decide +kernel))
  have h2 : 1 ≤ (cds (ν i)).length := by
    cases q : cds (ν i) with
    | nil => exact absurd q h1
    | cons _ _ => simp
  simp only [List.map_cons, List.sum_cons, List.length_cons] at e
  rw [e2]
  simp only [List.map_cons]
  omega
theorem nm_ne (N : Nm ν) (h : POk p) : nm ν p ≠ Str.empty := fun z => by
  have := nm_len0 N h
  rw [z] at this
  simp [Str.length, Str.empty] at this
theorem nm_split (N : Nm ν) (h : POk p) : Txt.split (nm ν p) slash = p.map ν :=
  split_join (nm_ne N h) fun w hw => by
    obtain ⟨i, hi, rfl⟩ := List.mem_map.mp hw
    exact (N.good i (h.lt i hi)).free
theorem map_inj (N : Nm ν) : ∀ {p q : Pth}, (∀ i ∈ p, i < 7) → (∀ i ∈ q, i < 7) → p.map ν = q.map ν → p = q
  | [], [], _, _, _ => rfl
  | [], _ :: _, _, _, h => by simp at h
  | _ :: _, [], _, _, h => by simp at h
  | i :: p, j :: q, hp, hq, h => by
    simp only [List.map_cons, List.cons.injEq] at h
    rw [N.inj i j (hp i (by simp)) (hq j (by simp)) h.1, map_inj N (fun k hk => hp k (List.mem_cons_of_mem _ hk)) (fun k hk => hq k (List.mem_cons_of_mem _ hk)) h.2]
theorem nm_inj (N : Nm ν) (hp : POk p) (hq : POk q) (h : nm ν p = nm ν q) : p = q := by
  have e : Txt.split (nm ν p) slash = Txt.split (nm ν q) slash := by rw [h]
  rw [nm_split N hp, nm_split N hq] at e
  exact map_inj N hp.lt hq.lt e
theorem nm_letters (N : Nm ν) (h : POk p) : ∀ c ∈ cds (nm ν p), c ∈ letters := fun c hc => by
  unfold nm at hc
  rw [cds_join] at hc
  rcases jn_mem hc with rfl | ⟨x, hx, hcx⟩
  · decide +kernel
  · obtain ⟨w, hw, rfl⟩ := List.mem_map.mp hx
    obtain ⟨i, hi, rfl⟩ := List.mem_map.mp hw
    exact (N.good i (h.lt i hi)).let_ c hcx
theorem nm_parts (N : Nm ν) (h : POk p) : ∀ w ∈ p.map ν, w ≠ "" ∧ w ≠ "." ∧ w ≠ ".." := fun w hw => by
  obtain ⟨i, hi, rfl⟩ := List.mem_map.mp hw
  have g := N.good i (h.lt i hi)
  exact ⟨g.ne, g.dot, g.dots⟩
theorem POk.take {n : Nat} (h : POk p) (h1 : 1 ≤ n) : POk (p.take n) := by
  refine ⟨?_, by rw [List.length_take]; have := h.le; omega, fun i hi => h.lt i (List.mem_of_mem_take hi), fun i hi => ?_⟩
  · obtain ⟨i, r, rfl⟩ := List.exists_cons_of_ne_nil h.ne
    cases n with
    | zero => omega
    | succ n => simp
  · by_cases hn : n < p.length
    · refine h.short i ?_
      have e : (p.take n).dropLast = p.dropLast.take (n - 1) := by
        rw [List.dropLast_eq_take, List.dropLast_eq_take, List.take_take, List.take_take, List.length_take]
        congr 1
        omega
      rw [e] at hi
      exact List.mem_of_mem_take hi
    · have e : p.take n = p := List.take_of_length_le (by omega)
      rw [e] at hi
      exact h.short i hi
end
/-- the paths above, the highest one first -/
def abv (p : Pth) : List Pth := (List.range (p.length - 1)).map fun k => p.take (k + 1)
theorem abv_ok {p q : Pth} (h : POk p) (hq : q ∈ abv p) : POk q := by
  obtain ⟨k, _, rfl⟩ := List.mem_map.mp hq
  exact h.take (Nat.le_add_left 1 k)

/-! ### the two namings -/
def wd : Nat → Str
  | 0 => "a"
  | 1 => "b"
  | 2 => "c"
  | 3 => "a.b"
  | 4 => "..c"
  | 5 => "d-1"
  | _ => ⟨Array.replicate 101 113⟩
def leds : List Str := ["c", "b", "zz", "a", "x..", "-", ⟨Array.replicate 60 112⟩, "0"]
theorem leds_ok : ∀ w ∈ leds, GoodPart w ∧ (cds w).length ≤ 60 := by
  have h : leds.all (fun w => goodB w && decide ((cds w).length ≤ 60)) = true := by decide +kernel
  intro w hw
  have := List.all_eq_true.mp h w hw
  simp only [Bool.and_eq_true, decide_eq_true_eq] at this
  exact ⟨goodB_ok this.1, this.2⟩
theorem sum_le {B : Nat} : ∀ {l : List Nat}, (∀ x ∈ l, x ≤ B) → l.sum ≤ l.length * B
  | [], _ => by simp
  | x :: r, h => by
    have ih := sum_le (l := r) fun y hy => h y (List.mem_cons_of_mem _ hy)
    have h1 := h x (by simp)
    simp only [List.sum_cons, List.length_cons, Nat.add_mul]
    omega
theorem join_len (ws : List Str) (h : ws ≠ []) : (Str.join slash ws).length + 1 = (ws.map fun w => (cds w).length).sum + ws.length := by
  have e := jn_length (xs := ws.map cds) (by simpa using h)
  rw [← cds_join, cds_len] at e
  simpa [List.map_map, Function.comp_def] using e
theorem wd_nm : Nm wd := by
  have h7 : ∀ i, i < 7 → i = 0 ∨ i = 1 ∨ i = 2 ∨ i = 3 ∨ i = 4 ∨ i = 5 ∨ i = 6 := by omega
  have hall : (List.range 7).all (fun i => goodB (wd i) && (List.range 7).all fun j => decide (wd i = wd j → i = j)) = true := by decide +kernel
  have hs : (List.range 6).all (fun i => decide ((cds (wd i)).length ≤ 3)) = true := by decide +kernel
  refine ⟨fun i j hi hj e => ?_, fun i hi => ?_, fun p h => ?_⟩
  · have := List.all_eq_true.mp hall i (List.mem_range.mpr hi)
    simp only [Bool.and_eq_true] at this
    have := List.all_eq_true.mp this.2 j (List.mem_range.mpr hj)
    exact of_decide_eq_true this e
  · have := List.all_eq_true.mp hall i (List.mem_range.mpr hi)
    simp only [Bool.and_eq_true] at this
    exact goodB_ok this.1
  · have e := join_len (p.map wd) (by simpa using h.ne)
    have ed : p = p.dropLast ++ [p.getLast h.ne] := (List.dropLast_concat_getLast h.ne).symm
    have h1 : ((p.dropLast.map wd).map fun w => (cds w).length).sum ≤ p.dropLast.length * 3 := by
      have := sum_le (B := 3) (l := (p.dropLast.map wd).map fun w => (cds w).length) fun x hx => by
        obtain ⟨w, hw, rfl⟩ := List.mem_map.mp hx
        obtain ⟨i, hi, rfl⟩ := List.mem_map.mp hw
        have := List.all_eq_true.mp hs i (List.mem_range.mpr (h.short i hi))
        exact of_decide_eq_true this
      simpa using this
    have h2 : (cds (wd (p.getLast h.ne))).length ≤ 101 := by
      have hb : (List.range 7).all (fun i => decide ((cds (wd i)).length ≤ 101)) = true := by decide +kernel
      exact of_decide_eq_true (List.all_eq_true.mp hb _ (List.mem_range.mpr (h.lt _ (List.getLast_mem h.ne))))
    have e3 : ((p.map wd).map fun w => (cds w).length).sum = ((p.dropLast.map wd).map fun w => (cds w).length).sum + (cds (wd (p.getLast h.ne))).length := by
      conv => lhs; rw [ed]
      simp only [List.map_append, List.sum_append, List.map_cons, List.map_nil, List.sum_cons, List.sum_nil, Nat.add_zero]
    have hl := h.le
    have hd : p.dropLast.length = p.length - 1 := List.length_dropLast
    rw [e3] at e
    simp only [List.length_map] at e
    omega
theorem led_nm {ν : Nat → Str} (inj : ∀ i j, i < 7 → j < 7 → ν i = ν j → i = j) (mem : ∀ i, i < 7 → ν i ∈ leds) : Nm ν := by
  refine ⟨inj, fun i hi => (leds_ok _ (mem i hi)).1, fun p h => ?_⟩
  have e := join_len (p.map ν) (by simpa using h.ne)
  have h1 : ((p.map ν).map fun w => (cds w).length).sum ≤ p.length * 60 := by
    have := sum_le (B := 60) (l := (p.map ν).map fun w => (cds w).length) fun x hx => by
      obtain ⟨w, hw, rfl⟩ := List.mem_map.mp hx
      obtain ⟨i, hi, rfl⟩ := List.mem_map.mp hw
      exact (leds_ok _ (mem i (h.lt i hi))).2
    simpa using this
  have hl := h.le
  simp only [List.length_map] at e
  omega
end K89
set_option Elab.async false
set_option linter.all false
set_option maxRecDepth 100000
set_option maxHeartbeats 4000000
/-! K89.Math2: what stands at paths; members; a step; two states alike. No program here. -/
namespace K89
open PySem

/-! ### tables in order -/
section
variable {α : Type}
def lkp (L : List (Pth × α)) (p : Pth) : Option α := (L.find? fun e => decide (e.1 = p)).map (·.2)
def putp (L : List (Pth × α)) (p : Pth) (x : α) : List (Pth × α) :=
  if (L.any fun e => decide (e.1 = p)) = true then L.map (fun e => if e.1 = p then (e.1, x) else e) else L ++ [(p, x)]
theorem lkp_nil {p : Pth} : lkp ([] : List (Pth × α)) p = none := rfl
theorem lkp_pos {e : Pth × α} {r : List (Pth × α)} {p : Pth} (h : e.1 = p) : lkp (e :: r) p = some e.2 := by simp [lkp, List.find?_cons, h]
theorem lkp_neg {e : Pth × α} {r : List (Pth × α)} {p : Pth} (h : ¬ e.1 = p) : lkp (e :: r) p = lkp r p := by simp [lkp, List.find?_cons, h]
theorem lkp_any (p : Pth) : ∀ L : List (Pth × α), (L.any fun e => decide (e.1 = p)) = (lkp L p).isSome
  | [] => rfl
  | e :: r => by
    rw [List.any_cons]
    by_cases h : e.1 = p
    · simp only [lkp_pos h, decide_eq_true h, Bool.true_or, Option.isSome_some]
    · rw [lkp_neg h, decide_eq_false h, Bool.false_or]; exact lkp_any p r
theorem lkp_map (p q : Pth) (x : α) : ∀ L : List (Pth × α), lkp (L.map fun e => if e.1 = p then (e.1, x) else e) q = (lkp L q).map fun y => if q = p then x else y
  | [] => rfl
  | e :: r => by
    have ih := lkp_map p q x r
    rw [List.map_cons]
    by_cases h : e.1 = p
    · rw [if_pos h]
      by_cases k : e.1 = q
      · rw [lkp_pos (e := (e.1, x)) k, lkp_pos k, Option.map_some, if_pos (k.symm.trans h)]
      · rw [lkp_neg (e := (e.1, x)) k, lkp_neg k, ih]
    · rw [if_neg h]
      by_cases k : e.1 = q
      · rw [lkp_pos (e := e) k, lkp_pos k, Option.map_some, if_neg (fun z => h (k.trans z))]
      · rw [lkp_neg (e := e) k, lkp_neg k, ih]
theorem lkp_snoc (p q : Pth) (x : α) : ∀ L : List (Pth × α), lkp L p = none → lkp (L ++ [(p, x)]) q = if q = p then some x else lkp L q
  | [], _ => by
    by_cases e : p = q
    · rw [if_pos e.symm]; exact lkp_pos (e := (p, x)) e
    · rw [if_neg (fun z => e z.symm)]; exact lkp_neg (e := (p, x)) e
  | e :: r, hn => by
    rw [List.cons_append]
    have hk : ¬ e.1 = p := fun z => by rw [lkp_pos z] at hn; cases hn
    rw [lkp_neg hk] at hn
    have ih := lkp_snoc p q x r hn
    by_cases k : e.1 = q
    · rw [lkp_pos k, lkp_pos k, if_neg (fun z => hk (k.trans z))]
    · rw [lkp_neg k, lkp_neg k, ih]
theorem lkp_putp (L : List (Pth × α)) (p q : Pth) (x : α) : lkp (putp L p x) q = if q = p then some x else lkp L q := by
  unfold putp
  by_cases a : (L.any fun e => decide (e.1 = p)) = true
  · rw [if_pos a, lkp_map]
    rw [lkp_any] at a
    by_cases e : q = p
    · obtain ⟨y, hy⟩ := Option.isSome_iff_exists.mp a
      rw [if_pos e, e, hy, Option.map_some, if_pos rfl]
    · rw [if_neg e]
      cases lkp L q with
      | none => rfl
      | some y => simp [e]
  · rw [if_neg a]
    refine lkp_snoc p q x L ?_
    rw [lkp_any] at a
    cases h : lkp L p with
    | none => rfl
    | some y => rw [h] at a; exact absurd rfl a
theorem putp_new {L : List (Pth × α)} {p : Pth} (x : α) (h : lkp L p = none) : putp L p x = L ++ [(p, x)] := by
  unfold putp
  rw [lkp_any, h]
  rfl
theorem lkp_mem {L : List (Pth × α)} {p : Pth} {x : α} (h : lkp L p = some x) : (p, x) ∈ L := by
  unfold lkp at h
  cases q : L.find? (fun e => decide (e.1 = p)) with
  | none => rw [q] at h; cases h
  | some e =>
    rw [q] at h
    have h1 := List.find?_some q
    have h2 := List.mem_of_find?_eq_some q
    have e1 : e.1 = p := of_decide_eq_true h1
    have e2 : e.2 = x := Option.some.inj h
    obtain ⟨a, b⟩ := e
    simp only at e1 e2
    subst e1 e2
    exact h2
theorem keys_putp (L : List (Pth × α)) (p : Pth) (x : α) : (putp L p x).map (·.1) = if (lkp L p).isSome then L.map (·.1) else L.map (·.1) ++ [p] := by
  unfold putp
  rw [lkp_any]
  cases h : (lkp L p).isSome with
  | true =>
    rw [if_pos rfl, if_pos rfl, List.map_map]
    refine List.map_congr_left fun e _ => ?_
    simp only [Function.comp]
    split <;> rfl
  | false => simp
theorem lkp_keys {L : List (Pth × α)} {p : Pth} : (lkp L p).isSome = true ↔ p ∈ L.map (·.1) := by
  rw [← lkp_any, List.any_eq_true]
  constructor
  · rintro ⟨e, he, h⟩
    exact List.mem_map.mpr ⟨e, he, of_decide_eq_true h⟩
  · intro h
    obtain ⟨e, he, rfl⟩ := List.mem_map.mp h
    exact ⟨e, he, decide_eq_true rfl⟩
theorem lkp_of_mem : ∀ {L : List (Pth × α)} {p : Pth} {x : α}, (L.map (·.1)).Nodup → (p, x) ∈ L → lkp L p = some x
  | [], _, _, _, h => by cases h
  | e :: r, p, x, hn, h => by
    rw [List.map_cons, List.nodup_cons] at hn
    rcases List.mem_cons.mp h with rfl | h
    · exact lkp_pos rfl
    · have : ¬ e.1 = p := fun z => hn.1 (List.mem_map.mpr ⟨(p, x), h, z.symm⟩)
      rw [lkp_neg this]
      exact lkp_of_mem hn.2 h
theorem nodup_putp {L : List (Pth × α)} {p : Pth} {x : α} (h : (L.map (·.1)).Nodup) : ((putp L p x).map (·.1)).Nodup := by
  rw [keys_putp]
  cases q : (lkp L p).isSome with
  | true => simpa using h
  | false =>
    simp only [Bool.false_eq_true, if_false]
    rw [List.nodup_append]
    refine ⟨h, by simp, fun a ha b hb e => ?_⟩
    have : p ∈ L.map (·.1) := by rw [← List.mem_singleton.mp hb, ← e]; exact ha
    rw [lkp_keys.mpr this] at q
    cases q
theorem length_putp (L : List (Pth × α)) (p : Pth) (x : α) : (putp L p x).length = L.length + if (lkp L p).isSome then 0 else 1 := by
  have e := congrArg List.length (keys_putp L p x)
  rw [List.length_map] at e
  rw [e]
  split <;> simp
end

/-! ### things, members, states -/
/-- what stands at a path: a file by its number, a directory, a symlink -/
inductive Th where
  | file (n : Nat) | dir (m t : Int) | sym (tg : Str) (m t : Int)
  deriving DecidableEq
/-- a file: its bytes, mode, time -/
structure FD where
  data : Array UInt8
  m : Int
  t : Int
abbrev AL := List (Pth × Th)
inductive Kd where
  | absent | file | dir | sym
  deriving DecidableEq
def kd : Option Th → Kd
  | none => .absent
  | some (.file _) => .file
  | some (.dir _ _) => .dir
  | some (.sym _ _ _) => .sym
inductive Pay where
  | file (ns : List Int) | dir | sym (tg : Str) | link (t : Pth) | sparse (sz : Nat) (ps : List (Nat × List Int))
structure Spec where
  name : Pth
  m : Int
  t : Int
  pay : Pay
/-- a state: what stands at the paths, the files by number -/
structure Hs where
  L : AL
  F : List FD
def bA (ns : List Int) : Array UInt8 := (ns.map fun n => n.toNat.toUInt8).toArray
def zB (n : Nat) : Array UInt8 := Array.replicate n 0
/-- pieces one after another, zeros between -/
def fill (acc : Array UInt8) : List (Nat × List Int) → Array UInt8
  | [] => acc
  | (o, d) :: r => fill (acc ++ zB (o - acc.size) ++ bA d) r
def content : Pay → Array UInt8
  | .file ns => bA ns
  | .sparse sz ps => fill #[] ps ++ zB (sz - (fill #[] ps).size)
  | _ => #[]
/-- the directories that lack above p -/
def mkA (L : AL) : List Pth → AL
  | [] => L
  | q :: r => mkA (if (lkp L q).isSome then L else putp L q (.dir 493 0)) r
def clearA (L : AL) (p : Pth) : Bool := (abv p).all fun q => decide (kd (lkp L q) = .absent) || decide (kd (lkp L q) = .dir)
/-- the word for which a member is refused, or the empty text -/
def word (L : AL) (sp : Spec) : Str :=
  if clearA L sp.name = false then "parent" else
  match sp.pay with
  | .dir => if kd (lkp L sp.name) = .file ∨ kd (lkp L sp.name) = .sym then "occupied" else ""
  | .link t => if kd (lkp L sp.name) = .dir then "directory" else if kd (lkp L t) = .file then "" else "target"
  | _ => if kd (lkp L sp.name) = .dir then "directory" else ""
def step (S : Hs) (sp : Spec) : Hs :=
  match sp.pay with
  | .dir => ⟨putp (mkA S.L (abv sp.name)) sp.name (.dir sp.m sp.t), S.F⟩
  | .sym tg => ⟨putp (mkA S.L (abv sp.name)) sp.name (.sym tg sp.m sp.t), S.F⟩
  | .link t => ⟨putp (mkA S.L (abv sp.name)) sp.name ((lkp (mkA S.L (abv sp.name)) t).getD (.file 0)), S.F⟩
  | .file ns => ⟨putp (mkA S.L (abv sp.name)) sp.name (.file S.F.length), S.F ++ [⟨content (.file ns), sp.m, sp.t⟩]⟩
  | .sparse sz ps => ⟨putp (mkA S.L (abv sp.name)) sp.name (.file S.F.length), S.F ++ [⟨content (.sparse sz ps), sp.m, sp.t⟩]⟩
/-- unpacking: the first refusal, or the state -/
def run (S : Hs) : Nat → List Spec → Except (Nat × Str) Hs
  | _, [] => .ok S
  | i, sp :: r => if word S.L sp = "" then run (step S sp) (i + 1) r else .error (i, word S.L sp)

/-! ### mkA by look-ups -/
theorem lkp_mkA : ∀ (qs : List Pth) (L : AL) (p : Pth), lkp (mkA L qs) p = if (lkp L p).isSome then lkp L p else if p ∈ qs then some (.dir 493 0) else none
  | [], L, p => by
    cases h : lkp L p with
    | none => simp [mkA, h]
    | some x => simp [mkA, h]
  | q :: r, L, p => by
    show lkp (mkA (if (lkp L q).isSome then L else putp L q (.dir 493 0)) r) p = _
    rw [lkp_mkA r]
    by_cases hq : (lkp L q).isSome = true
    · rw [if_pos hq]
      cases h : lkp L p with
      | some x => rfl
      | none =>
        have : p ≠ q := fun z => by rw [← z, h] at hq; cases hq
        simp [this]
    · rw [if_neg hq, lkp_putp]
      by_cases e : p = q
      · subst e
        have : lkp L p = none := by
          cases z : lkp L p with
          | none => rfl
          | some _ => rw [z] at hq; exact absurd rfl hq
        simp [this]
      · rw [if_neg e]
        simp [e]
theorem length_mkA : ∀ (qs : List Pth) (L : AL), (mkA L qs).length ≤ L.length + qs.length
  | [], L => by simp [mkA]
  | q :: r, L => by
    have ih := length_mkA r (if (lkp L q).isSome then L else putp L q (.dir 493 0))
    show (mkA (if (lkp L q).isSome then L else putp L q (.dir 493 0)) r).length ≤ _
    have h2 : (if (lkp L q).isSome then L else putp L q (.dir 493 0)).length ≤ L.length + 1 := by
      split
      · omega
      · rw [length_putp]; split <;> omega
    simp only [List.length_cons]
    omega
theorem nodup_mkA : ∀ (qs : List Pth) {L : AL}, (L.map (·.1)).Nodup → ((mkA L qs).map (·.1)).Nodup
  | [], _, h => h
  | q :: r, L, h => by
    refine nodup_mkA r (L := if (lkp L q).isSome then L else putp L q (.dir 493 0)) ?_
    split
    · exact h
    · exact nodup_putp h

/-! ### a state that is whole -/
def ModeOk (m : Int) : Prop := 0 ≤ m ∧ m ≤ 4095
def TimeOk (t : Int) : Prop := 0 ≤ t ∧ t ≤ 8589934591
def BytesOk (l : List Int) : Prop := l.length ≤ 4096 ∧ ∀ b ∈ l, 0 ≤ b ∧ b ≤ 255
def NameOk (z : Str) : Prop := 1 ≤ z.length ∧ z.length ≤ 250 ∧ ∀ c ∈ cds z, c ∈ letters
structure FDOk (f : FD) : Prop where
  data : f.data.size ≤ 4096
  m : ModeOk f.m
  t : TimeOk f.t
def ThOk (n : Nat) : Th → Prop
  | .file k => k < n
  | .dir m t => ModeOk m ∧ TimeOk t
  | .sym tg m t => NameOk tg ∧ ModeOk m ∧ TimeOk t
structure WF (S : Hs) : Prop where
  nd : (S.L.map (·.1)).Nodup
  key : ∀ p ∈ S.L.map (·.1), POk p
  th : ∀ p x, lkp S.L p = some x → ThOk S.F.length x
  up : ∀ p x, lkp S.L p = some x → ∀ q ∈ abv p, kd (lkp S.L q) = .dir
inductive PiecesOk : Nat → Nat → List (Nat × List Int) → Prop where
  | nil {a sz : Nat} (h : a ≤ sz + 1) : PiecesOk a sz []
  | cons {a sz o : Nat} {d : List Int} {r : List (Nat × List Int)} (h : a ≤ o) (h1 : 1 ≤ d.length) (hb : ∀ b ∈ d, 0 ≤ b ∧ b ≤ 255) (t : PiecesOk (o + d.length + 1) sz r) : PiecesOk a sz ((o, d) :: r)
structure SpOk (sp : Spec) : Prop where
  name : POk sp.name
  m : ModeOk sp.m
  t : TimeOk sp.t
  pay : match sp.pay with
    | .file ns => BytesOk ns
    | .dir => True
    | .sym tg => NameOk tg
    | .link t => POk t
    | .sparse sz ps => sz ≤ 4096 ∧ ps.length ≤ 2 ∧ PiecesOk 0 sz ps
end K89
set_option Elab.async false
set_option linter.all false
set_option maxRecDepth 100000
set_option maxHeartbeats 4000000
/-! K89.Math3: two states that are the same but for the numbers of files; a step keeps that. No program here. -/
namespace K89
open PySem

/-- the same thing, files by what they hold -/
def Mt (F1 F2 : List FD) : Option Th → Option Th → Prop
  | none, none => True
  | some (.dir m t), some (.dir m' t') => m = m' ∧ t = t'
  | some (.sym g m t), some (.sym g' m' t') => g = g' ∧ m = m' ∧ t = t'
  | some (.file n), some (.file n') => ∃ f, F1[n]? = some f ∧ F2[n']? = some f
  | _, _ => False
structure Iso (A B : Hs) : Prop where
  len : A.L.length = B.L.length
  mt : ∀ p, Mt A.F B.F (lkp A.L p) (lkp B.L p)
  sh : ∀ p q n n' m m', lkp A.L p = some (.file n) → lkp A.L q = some (.file n') → lkp B.L p = some (.file m) → lkp B.L q = some (.file m') → (n = n' ↔ m = m')
theorem Mt.kd {F1 F2 : List FD} {a b : Option Th} (h : Mt F1 F2 a b) : kd a = kd b := by
  cases a with
  | none => cases b with
    | none => rfl
    | some y => exact h.elim
  | some x => cases b with
    | none => cases x <;> exact h.elim
    | some y => cases x <;> cases y <;> first | rfl | exact h.elim
theorem Mt.isSome {F1 F2 : List FD} {a b : Option Th} (h : Mt F1 F2 a b) : a.isSome = b.isSome := by
  cases a with
  | none => cases b with
    | none => rfl
    | some y => exact h.elim
  | some x => cases b with
    | none => cases x <;> exact h.elim
    | some y => rfl
theorem Mt.file {F1 F2 : List FD} {b : Option Th} {n : Nat} (h : Mt F1 F2 (some (.file n)) b) : ∃ m, b = some (.file m) := by
  cases b with
  | none => exact h.elim
  | some y => cases y with
    | file m => exact ⟨m, rfl⟩
    | dir _ _ => exact h.elim
    | sym _ _ _ => exact h.elim
theorem Mt.file' {F1 F2 : List FD} {a : Option Th} {n : Nat} (h : Mt F1 F2 a (some (.file n))) : ∃ m, a = some (.file m) := by
  cases a with
  | none => exact h.elim
  | some y => cases y with
    | file m => exact ⟨m, rfl⟩
    | dir _ _ => exact h.elim
    | sym _ _ _ => exact h.elim
theorem Mt.symm {F1 F2 : List FD} {a b : Option Th} (h : Mt F1 F2 a b) : Mt F2 F1 b a := by
  cases a with
  | none => cases b with
    | none => trivial
    | some y => exact h.elim
  | some x => cases b with
    | none => cases x <;> exact h.elim
    | some y =>
      cases x <;> cases y <;> try exact h.elim
      · obtain ⟨f, e1, e2⟩ := h; exact ⟨f, e2, e1⟩
      · exact ⟨h.1.symm, h.2.symm⟩
      · exact ⟨h.1.symm, h.2.1.symm, h.2.2.symm⟩
theorem Mt.trans {F1 F2 F3 : List FD} {a b c : Option Th} (h : Mt F1 F2 a b) (k : Mt F2 F3 b c) : Mt F1 F3 a c := by
  cases a with
  | none => cases b with
    | none => cases c with
      | none => trivial
      | some z => exact k.elim
    | some y => exact h.elim
  | some x => cases b with
    | none => cases x <;> exact h.elim
    | some y =>
      cases c with
      | none => cases y <;> exact k.elim
      | some z =>
        cases x <;> cases y <;> try exact h.elim
        · cases z <;> try exact k.elim
          obtain ⟨f, e1, e2⟩ := h
          obtain ⟨g, k1, k2⟩ := k
          rw [e2] at k1
          cases k1
          exact ⟨f, e1, k2⟩
        · cases z <;> try exact k.elim
          exact ⟨h.1.trans k.1, h.2.trans k.2⟩
        · cases z <;> try exact k.elim
          exact ⟨h.1.trans k.1, h.2.1.trans k.2.1, h.2.2.trans k.2.2⟩
theorem Mt.grow {F1 F2 : List FD} {a b : Option Th} (h : Mt F1 F2 a b) (G1 G2 : List FD) : Mt (F1 ++ G1) (F2 ++ G2) a b := by
  cases a with
  | none => cases b with
    | none => trivial
    | some y => exact h.elim
  | some x => cases b with
    | none => cases x <;> exact h.elim
    | some y =>
      cases x <;> cases y <;> try exact h.elim
      · obtain ⟨f, e1, e2⟩ := h
        refine ⟨f, ?_, ?_⟩
        · rw [List.getElem?_append_left (List.getElem?_eq_some_iff.mp e1).1]; exact e1
        · rw [List.getElem?_append_left (List.getElem?_eq_some_iff.mp e2).1]; exact e2
      · exact h
      · exact h
theorem Iso.symm {A B : Hs} (h : Iso A B) : Iso B A := ⟨h.len.symm, fun p => (h.mt p).symm, fun p q n n' m m' a b c d => (h.sh p q m m' n n' c d a b).symm⟩
theorem Iso.trans {A B C : Hs} (h : Iso A B) (k : Iso B C) : Iso A C := by
  refine ⟨h.len.trans k.len, fun p => (h.mt p).trans (k.mt p), fun p q n n' m m' a b c d => ?_⟩
  obtain ⟨x, ex⟩ := (show Mt A.F B.F (some (.file n)) (lkp B.L p) from a ▸ h.mt p).file
  obtain ⟨y, ey⟩ := (show Mt A.F B.F (some (.file n')) (lkp B.L q) from b ▸ h.mt q).file
  exact (h.sh p q n n' x y a b ex ey).trans (k.sh p q x y m m' ex ey c d)
theorem all_congr {α : Type} {f g : α → Bool} : ∀ {l : List α}, (∀ x ∈ l, f x = g x) → l.all f = l.all g
  | [], _ => rfl
  | x :: r, h => by
    rw [List.all_cons, List.all_cons, h x (by simp), all_congr fun y hy => h y (List.mem_cons_of_mem _ hy)]
theorem Iso.kd {A B : Hs} (h : Iso A B) (p : Pth) : kd (lkp A.L p) = kd (lkp B.L p) := (h.mt p).kd
/-- the same member is refused with the same word -/
theorem Iso.word {A B : Hs} (h : Iso A B) (sp : Spec) : word A.L sp = word B.L sp := by
  have hc : clearA A.L sp.name = clearA B.L sp.name := all_congr fun q _ => by rw [h.kd q]
  unfold K89.word
  rw [hc, h.kd sp.name]
  cases sp.pay with
  | link t => simp only [h.kd t]
  | _ => rfl
theorem Iso.mkA {A B : Hs} (h : Iso A B) (qs : List Pth) : Iso ⟨mkA A.L qs, A.F⟩ ⟨mkA B.L qs, B.F⟩ := by
  have key : ∀ (qs : List Pth) (X Y : AL), Iso ⟨X, A.F⟩ ⟨Y, B.F⟩ → Iso ⟨K89.mkA X qs, A.F⟩ ⟨K89.mkA Y qs, B.F⟩ := by
    intro qs
    induction qs with
    | nil => intro X Y h; exact h
    | cons q r ih =>
      intro X Y h
      show Iso ⟨K89.mkA (if (lkp X q).isSome then X else putp X q (.dir 493 0)) r, A.F⟩ ⟨K89.mkA (if (lkp Y q).isSome then Y else putp Y q (.dir 493 0)) r, B.F⟩
      refine ih _ _ ?_
      have e := (h.mt q).isSome
      have e' : (lkp X q).isSome = (lkp Y q).isSome := e
      rw [← e']
      by_cases z : (lkp X q).isSome = true
      · rw [if_pos z, if_pos z]; exact h
      · rw [if_neg z, if_neg z]
        refine ⟨?_, fun p => ?_, fun p p' n n' m m' a b c d => ?_⟩
        · show (putp X q _).length = (putp Y q _).length
          rw [length_putp, length_putp, ← e', show X.length = Y.length from h.len]
        · show Mt A.F B.F (lkp (putp X q _) p) (lkp (putp Y q _) p)
          rw [lkp_putp, lkp_putp]
          by_cases k : p = q
          · rw [if_pos k, if_pos k]; exact ⟨rfl, rfl⟩
          · rw [if_neg k, if_neg k]; exact h.mt p
        · change lkp (putp X q _) p = _ at a
          change lkp (putp X q _) p' = _ at b
          change lkp (putp Y q _) p = _ at c
          change lkp (putp Y q _) p' = _ at d
          rw [lkp_putp] at a b c d
          by_cases k : p = q
          · rw [if_pos k] at a; cases a
          · rw [if_neg k] at a c
            by_cases k' : p' = q
            · rw [if_pos k'] at b; cases b
            · rw [if_neg k'] at b d
              exact h.sh p p' n n' m m' a b c d
  exact key qs A.L B.L h
theorem Iso.put {A B : Hs} (h : Iso A B) (p : Pth) (x : Th) (hx : ∀ n, x ≠ .file n) : Iso ⟨putp A.L p x, A.F⟩ ⟨putp B.L p x, B.F⟩ := by
  have e' := (h.mt p).isSome
  refine ⟨?_, fun q => ?_, fun q q' n n' m m' a b c d => ?_⟩
  · show (putp A.L p x).length = (putp B.L p x).length
    rw [length_putp, length_putp, e', h.len]
  · show Mt A.F B.F (lkp (putp A.L p x) q) (lkp (putp B.L p x) q)
    rw [lkp_putp, lkp_putp]
    by_cases k : q = p
    · rw [if_pos k, if_pos k]
      cases x with
      | file n => exact absurd rfl (hx n)
      | dir m t => exact ⟨rfl, rfl⟩
      | sym g m t => exact ⟨rfl, rfl, rfl⟩
    · rw [if_neg k, if_neg k]; exact h.mt q
  · change lkp (putp A.L p x) q = _ at a
    change lkp (putp A.L p x) q' = _ at b
    change lkp (putp B.L p x) q = _ at c
    change lkp (putp B.L p x) q' = _ at d
    rw [lkp_putp] at a b c d
    by_cases k : q = p
    · rw [if_pos k] at a
      exact absurd (Option.some.inj a) (hx n)
    · rw [if_neg k] at a c
      by_cases k' : q' = p
      · rw [if_pos k'] at b
        exact absurd (Option.some.inj b) (hx n')
      · rw [if_neg k'] at b d
        exact h.sh q q' n n' m m' a b c d
theorem Iso.putF {A B : Hs} (h : Iso A B) (p : Pth) (f : FD) : Iso ⟨putp A.L p (.file A.F.length), A.F ++ [f]⟩ ⟨putp B.L p (.file B.F.length), B.F ++ [f]⟩ := by
  have e' := (h.mt p).isSome
  have lt1 : ∀ {q n}, lkp A.L q = some (.file n) → n < A.F.length := fun {q n} a => by
    have z := h.mt q
    rw [a] at z
    obtain ⟨m, em⟩ := z.file
    rw [em] at z
    obtain ⟨g, e1, _⟩ := z
    exact (List.getElem?_eq_some_iff.mp e1).1
  have lt2 : ∀ {q n}, lkp B.L q = some (.file n) → n < B.F.length := fun {q n} a => by
    have z := h.mt q
    rw [a] at z
    obtain ⟨m, em⟩ := z.file'
    rw [em] at z
    obtain ⟨g, _, e1⟩ := z
    exact (List.getElem?_eq_some_iff.mp e1).1
  refine ⟨?_, fun q => ?_, fun q q' n n' m m' a b c d => ?_⟩
  · show (putp A.L p _).length = (putp B.L p _).length
    rw [length_putp, length_putp, e', h.len]
  · show Mt (A.F ++ [f]) (B.F ++ [f]) (lkp (putp A.L p _) q) (lkp (putp B.L p _) q)
    rw [lkp_putp, lkp_putp]
    by_cases k : q = p
    · rw [if_pos k, if_pos k]
      exact ⟨f, by simp, by simp⟩
    · rw [if_neg k, if_neg k]; exact (h.mt q).grow [f] [f]
  · change lkp (putp A.L p _) q = _ at a
    change lkp (putp A.L p _) q' = _ at b
    change lkp (putp B.L p _) q = _ at c
    change lkp (putp B.L p _) q' = _ at d
    rw [lkp_putp] at a b c d
    by_cases k : q = p
    · rw [if_pos k] at a c
      cases a; cases c
      by_cases k' : q' = p
      · rw [if_pos k'] at b d
        cases b; cases d
        exact ⟨fun _ => rfl, fun _ => rfl⟩
      · rw [if_neg k'] at b d
        have h1 := lt1 b
        have h2 := lt2 d
        omega
    · rw [if_neg k] at a c
      by_cases k' : q' = p
      · rw [if_pos k'] at b d
        cases b; cases d
        have h1 := lt1 a
        have h2 := lt2 c
        omega
      · rw [if_neg k'] at b d
        exact h.sh q q' n n' m m' a b c d
theorem Iso.putL {A B : Hs} (h : Iso A B) (p t : Pth) {x y : Nat} (hx : lkp A.L t = some (.file x)) (hy : lkp B.L t = some (.file y)) : Iso ⟨putp A.L p (.file x), A.F⟩ ⟨putp B.L p (.file y), B.F⟩ := by
  have e' := (h.mt p).isSome
  have ht := h.mt t
  rw [hx, hy] at ht
  refine ⟨?_, fun q => ?_, fun q q' n n' m m' a b c d => ?_⟩
  · show (putp A.L p _).length = (putp B.L p _).length
    rw [length_putp, length_putp, e', h.len]
  · show Mt A.F B.F (lkp (putp A.L p _) q) (lkp (putp B.L p _) q)
    rw [lkp_putp, lkp_putp]
    by_cases k : q = p
    · rw [if_pos k, if_pos k]; exact ht
    · rw [if_neg k, if_neg k]; exact h.mt q
  · change lkp (putp A.L p _) q = _ at a
    change lkp (putp A.L p _) q' = _ at b
    change lkp (putp B.L p _) q = _ at c
    change lkp (putp B.L p _) q' = _ at d
    rw [lkp_putp] at a b c d
    by_cases k : q = p
    · rw [if_pos k] at a c
      cases a; cases c
      by_cases k' : q' = p
      · rw [if_pos k'] at b d
        cases b; cases d
        exact ⟨fun _ => rfl, fun _ => rfl⟩
      · rw [if_neg k'] at b d
        exact h.sh t q' _ _ _ _ hx b hy d
    · rw [if_neg k] at a c
      by_cases k' : q' = p
      · rw [if_pos k'] at b d
        cases b; cases d
        exact h.sh q t _ _ _ _ a hx c hy
      · rw [if_neg k'] at b d
        exact h.sh q q' n n' m m' a b c d
theorem kd_file {o : Option Th} (h : kd o = .file) : ∃ n, o = some (.file n) := by
  cases o with
  | none => cases h
  | some x => cases x with
    | file n => exact ⟨n, rfl⟩
    | dir _ _ => cases h
    | sym _ _ _ => cases h
theorem word_link {L : AL} {sp : Spec} {t : Pth} (hp : sp.pay = .link t) (h : word L sp = "") : ∃ n, lkp L t = some (.file n) := by
  unfold word at h
  rw [hp] at h
  split at h
  · exact absurd h (by decide +kernel)
  · simp only at h
    split at h
    · exact absurd h (by decide +kernel)
    · split at h
      · rename_i e; exact kd_file e
      · exact absurd h (by decide +kernel)
theorem Iso.step {A B : Hs} (h : Iso A B) {sp : Spec} (hw : K89.word A.L sp = "") : Iso (step A sp) (step B sp) := by
  have hm := h.mkA (abv sp.name)
  have hw2 : K89.word B.L sp = "" := by rw [← h.word sp]; exact hw
  unfold K89.step
  cases hp : sp.pay with
  | dir => exact hm.put sp.name _ (fun n z => nomatch z)
  | sym tg => exact hm.put sp.name _ (fun n z => nomatch z)
  | file ns => exact hm.putF sp.name _
  | sparse sz ps => exact hm.putF sp.name _
  | link t =>
    obtain ⟨x, ex⟩ := word_link hp hw
    obtain ⟨y, ey⟩ := word_link hp hw2
    have e1 : lkp (K89.mkA A.L (abv sp.name)) t = some (.file x) := by rw [lkp_mkA, ex]; rfl
    have e2 : lkp (K89.mkA B.L (abv sp.name)) t = some (.file y) := by rw [lkp_mkA, ey]; rfl
    simp only [e1, e2, Option.getD_some]
    exact hm.putL sp.name t e1 e2
/-- two runs: the same refusal, or states alike -/
def IsoE : Except (Nat × Str) Hs → Except (Nat × Str) Hs → Prop
  | .ok A, .ok B => Iso A B
  | .error a, .error b => a = b
  | _, _ => False
theorem Iso.run : ∀ (sps : List Spec) {A B : Hs} (i : Nat), Iso A B → IsoE (run A i sps) (run B i sps)
  | [], A, B, i, h => h
  | sp :: r, A, B, i, h => by
    have e := h.word sp
    unfold K89.run
    by_cases hw : K89.word A.L sp = ""
    · rw [if_pos hw, if_pos (e ▸ hw)]
      exact Iso.run r (i + 1) (h.step hw)
    · rw [if_neg hw, if_neg (e ▸ hw), e]
      exact rfl
end K89
set_option Elab.async false
set_option linter.all false
set_option maxRecDepth 100000
set_option maxHeartbeats 4000000
/-! K89.Math4: a step keeps a state whole; the house of a tree's entries is alike with the tree. No program here. -/
namespace K89
open PySem

theorem abv_len {p q : Pth} (h : q ∈ abv p) : q.length < p.length := by
  obtain ⟨k, hk, rfl⟩ := List.mem_map.mp h
  rw [List.mem_range] at hk
  rw [List.length_take]
  omega
theorem abv_ne {p q : Pth} (h : q ∈ abv p) : q ≠ p := fun z => by
  have := abv_len h
  rw [z] at this
  exact Nat.lt_irrefl _ this
theorem abv_abv {p q r : Pth} (h : p ∈ abv r) (k : q ∈ abv p) : q ∈ abv r := by
  obtain ⟨i, hi, rfl⟩ := List.mem_map.mp h
  obtain ⟨j, hj, rfl⟩ := List.mem_map.mp k
  rw [List.mem_range] at hi hj
  rw [List.length_take] at hj
  refine List.mem_map.mpr ⟨j, List.mem_range.mpr (by omega), ?_⟩
  rw [List.take_take]
  congr 1
  omega
theorem kd_dir {o : Option Th} (h : kd o = .dir) : ∃ m t, o = some (.dir m t) := by
  cases o with
  | none => cases h
  | some x => cases x with
    | dir m t => exact ⟨m, t, rfl⟩
    | file _ => cases h
    | sym _ _ _ => cases h
theorem ThOk.mono {n k : Nat} {x : Th} (h : ThOk n x) (e : n ≤ k) : ThOk k x := by
  cases x with
  | file i => exact Nat.lt_of_lt_of_le h e
  | dir m t => exact h
  | sym g m t => exact h
theorem mode493 : ModeOk 493 ∧ TimeOk 0 := by unfold ModeOk TimeOk; omega
/-- above the member's path nothing stands in the way -/
theorem word_clear {L : AL} {sp : Spec} (h : word L sp = "") : ∀ q ∈ abv sp.name, kd (lkp L q) = .absent ∨ kd (lkp L q) = .dir := by
  unfold word at h
  split at h
  · exact absurd h (by decide +kernel)
  · rename_i hc
    have hc : clearA L sp.name = true := by simpa using hc
    intro q hq
    have := List.all_eq_true.mp hc q hq
    simpa using this
theorem word_nodir {L : AL} {sp : Spec} (h : word L sp = "") (hp : sp.pay ≠ .dir) : kd (lkp L sp.name) ≠ .dir := by
  unfold word at h
  split at h
  · exact absurd h (by decide +kernel)
  · intro z
    cases hq : sp.pay with
    | dir => exact hp hq
    | file _ => rw [hq] at h; simp only [z, if_true] at h; exact absurd h (by decide +kernel)
    | sym _ => rw [hq] at h; simp only [z, if_true] at h; exact absurd h (by decide +kernel)
    | link _ => rw [hq] at h; simp only [z, if_true] at h; exact absurd h (by decide +kernel)
    | sparse _ _ => rw [hq] at h; simp only [z, if_true] at h; exact absurd h (by decide +kernel)
/-- a thing put at a member's path, what lacks above made -/
theorem WF.put {S : Hs} {p : Pth} {x : Th} {G : List FD} (W : WF S) (hp : POk p) (hc : ∀ q ∈ abv p, kd (lkp S.L q) = .absent ∨ kd (lkp S.L q) = .dir) (hd : kd (some x) = .dir ∨ kd (lkp S.L p) ≠ .dir) (hx : ThOk (S.F ++ G).length x) :
    WF ⟨putp (mkA S.L (abv p)) p x, S.F ++ G⟩ := by
  have lk : ∀ q, lkp (putp (mkA S.L (abv p)) p x) q = if q = p then some x else if (lkp S.L q).isSome then lkp S.L q else if q ∈ abv p then some (.dir 493 0) else none := fun q => by
    rw [lkp_putp, lkp_mkA]
  refine ⟨nodup_putp (nodup_mkA _ W.nd), fun q hq => ?_, fun q y h => ?_, fun q y h r hr => ?_⟩
  · have hs := lkp_keys.mpr hq
    change (lkp (putp (mkA S.L (abv p)) p x) q).isSome = true at hs
    rw [lk] at hs
    split at hs
    · rename_i e; rw [e]; exact hp
    · split at hs
      · rename_i e; exact W.key q (lkp_keys.mp e)
      · split at hs
        · rename_i e; exact abv_ok hp e
        · cases hs
  · change lkp (putp (mkA S.L (abv p)) p x) q = some y at h
    rw [lk] at h
    split at h
    · cases h; exact hx
    · split at h
      · exact (W.th q y h).mono (by simp)
      · split at h
        · cases h; exact mode493
        · cases h
  · have ab : ∀ r, r ∈ abv p → kd (lkp (putp (mkA S.L (abv p)) p x) r) = .dir := fun r hr => by
      rw [lk, if_neg (abv_ne hr)]
      rcases hc r hr with e | e
      · have : (lkp S.L r).isSome = false := by
          cases z : lkp S.L r with
          | none => rfl
          | some y => rw [z] at e; cases y <;> cases e
        rw [this]
        simp [hr, K89.kd]
      · obtain ⟨m, t, z⟩ := kd_dir e
        rw [z]; rfl
    show kd (lkp (putp (mkA S.L (abv p)) p x) r) = .dir
    change lkp (putp (mkA S.L (abv p)) p x) q = some y at h
    rw [lk] at h
    split at h
    · rename_i e; rw [e] at hr; exact ab r hr
    · split at h
      · have hu := W.up q y h r hr
        rw [lk]
        split
        · rename_i e
          rcases hd with z | z
          · exact z
          · rw [e] at hu; exact absurd hu z
        · obtain ⟨m, t, z⟩ := kd_dir hu
          rw [z]; rfl
      · split at h
        · rename_i e; exact ab r (abv_abv e hr)
        · cases h
theorem WF.step {S : Hs} {sp : Spec} (W : WF S) (hs : SpOk sp) (hw : word S.L sp = "") : WF (step S sp) := by
  have hc := word_clear hw
  have e0 : ∀ l : List FD, l = l ++ [] := fun l => by simp
  unfold K89.step
  cases hp : sp.pay with
  | dir => simp only; rw [e0 S.F]; exact W.put hs.name hc (.inl rfl) ⟨hs.m, hs.t⟩
  | sym tg =>
    simp only; rw [e0 S.F]
    have := hs.pay; rw [hp] at this
    exact W.put hs.name hc (.inr (word_nodir hw (by rw [hp]; exact fun z => nomatch z))) ⟨this, hs.m, hs.t⟩
  | file ns => exact W.put hs.name hc (.inr (word_nodir hw (by rw [hp]; exact fun z => nomatch z))) (show S.F.length < _ by simp)
  | sparse sz ps => exact W.put hs.name hc (.inr (word_nodir hw (by rw [hp]; exact fun z => nomatch z))) (show S.F.length < _ by simp)
  | link t =>
    obtain ⟨x, ex⟩ := word_link hp hw
    have e1 : lkp (mkA S.L (abv sp.name)) t = some (.file x) := by rw [lkp_mkA, ex]; rfl
    simp only [e1, Option.getD_some]
    rw [e0 S.F]
    exact W.put hs.name hc (.inr (word_nodir hw (by rw [hp]; exact fun z => nomatch z))) (by simpa using W.th t _ ex)
theorem length_step (S : Hs) (sp : Spec) (h : POk sp.name) : (step S sp).L.length ≤ S.L.length + 4 := by
  have hm := length_mkA (abv sp.name) S.L
  have ha : (abv sp.name).length ≤ 3 := by
    unfold abv
    rw [List.length_map, List.length_range]
    have := h.le
    omega
  have hp : ∀ x, (putp (mkA S.L (abv sp.name)) sp.name x).length ≤ S.L.length + 4 := fun x => by
    rw [length_putp]
    split <;> omega
  unfold step
  cases sp.pay <;> exact hp _
theorem length_stepF (S : Hs) (sp : Spec) : (step S sp).F.length ≤ S.F.length + 1 := by
  unfold step
  cases sp.pay <;> simp

/-! ### the entries of a tree, by an order of its paths -/
inductive En where
  | th (x : Th) | file (f : FD) | link (q : Pth)
def fst (T : AL) (ps : List Pth) (n : Nat) : Option Pth := ps.find? fun p => decide (lkp T p = some (.file n))
def enOf (T : Hs) (ps : List Pth) (p : Pth) : En :=
  match lkp T.L p with
  | some (.file n) => match fst T.L ps n with
    | some q => if q = p then .file ((T.F[n]?).getD ⟨#[], 0, 0⟩) else .link q
    | none => .link p
  | some x => .th x
  | none => .link p
def ents (T : Hs) (ps : List Pth) : List (Pth × En) := ps.map fun p => (p, enOf T ps p)
def isLk : En → Bool
  | .link _ => true
  | _ => false
def one1 (S : Hs) (e : Pth × En) : Hs :=
  match e.2 with
  | .th x => ⟨putp S.L e.1 x, S.F⟩
  | .file f => ⟨putp S.L e.1 (.file S.F.length), S.F ++ [f]⟩
  | .link _ => S
def one2 (S : Hs) (e : Pth × En) : Hs :=
  match e.2 with
  | .link q => ⟨putp S.L e.1 ((lkp S.L q).getD (.file 0)), S.F⟩
  | _ => S
def houseOf (E : List (Pth × En)) : Hs := E.foldl one2 (E.foldl one1 ⟨[], []⟩)
/-- the order holds just the paths of the tree -/
structure Ord (T : Hs) (ps : List Pth) : Prop where
  nd : ps.Nodup
  mem : ∀ p, p ∈ ps ↔ (lkp T.L p).isSome = true
section
variable {T : Hs} {ps : List Pth}
theorem fst_some {n : Nat} {p : Pth} (O : Ord T ps) (h : lkp T.L p = some (.file n)) : ∃ q, fst T.L ps n = some q ∧ lkp T.L q = some (.file n) ∧ q ∈ ps := by
  unfold fst
  cases z : ps.find? (fun p => decide (lkp T.L p = some (.file n))) with
  | none =>
    have := List.find?_eq_none.mp z p ((O.mem p).mpr (by rw [h]; rfl))
    simp [h] at this
  | some q => exact ⟨q, rfl, by simpa using List.find?_some z, List.mem_of_find?_eq_some z⟩
/-- the entry of a path, by what stands there -/
theorem enOf_file {n : Nat} {p : Pth} (O : Ord T ps) (h : lkp T.L p = some (.file n)) :
    ∃ q, fst T.L ps n = some q ∧ lkp T.L q = some (.file n) ∧ q ∈ ps ∧ enOf T ps p = if q = p then .file ((T.F[n]?).getD ⟨#[], 0, 0⟩) else .link q := by
  obtain ⟨q, h1, h2, h3⟩ := fst_some O h
  refine ⟨q, h1, h2, h3, ?_⟩
  unfold enOf
  rw [h]
  simp only [h1]
theorem enOf_other {x : Th} {p : Pth} (h : lkp T.L p = some x) (hx : ∀ n, x ≠ .file n) : enOf T ps p = .th x := by
  unfold enOf
  rw [h]
  cases x with
  | file n => exact absurd rfl (hx n)
  | dir m t => rfl
  | sym g m t => rfl
theorem take_snoc {α : Type} {l : List α} {i : Nat} {x : α} (h : l[i]? = some x) : l.take (i + 1) = l.take i ++ [x] := by
  rw [List.take_add_one, h]; rfl
/-- behind the first pass over the first i entries -/
structure Pass1 (T : Hs) (ps : List Pth) (i : Nat) (S : Hs) : Prop where
  nd : (S.L.map (·.1)).Nodup
  key : ∀ p, (lkp S.L p).isSome = true ↔ p ∈ ps.take i ∧ isLk (enOf T ps p) = false
  mt : ∀ p, (lkp S.L p).isSome = true → Mt T.F S.F (lkp T.L p) (lkp S.L p)
  sh : ∀ p q m, lkp S.L p = some (.file m) → lkp S.L q = some (.file m) → p = q
theorem pass1_all (W : WF T) (O : Ord T ps) : ∀ i, i ≤ ps.length → Pass1 T ps i (((ents T ps).take i).foldl one1 ⟨[], []⟩)
  | 0, _ => by
    refine ⟨by simp, fun p => ?_, fun p h => ?_, fun p q m h => ?_⟩
    · simp [lkp_nil]
    · simp [lkp_nil] at h
    · simp [lkp_nil] at h
  | i + 1, hi => by
    have P := pass1_all W O i (Nat.le_of_succ_le hi)
    have hp : ps[i]? = some ps[i] := by simp
    generalize hpe : ps[i] = p at hp
    have he : (ents T ps)[i]? = some (p, enOf T ps p) := by unfold ents; rw [List.getElem?_map, hp]; rfl
    rw [take_snoc he, List.foldl_append]
    generalize hS : ((ents T ps).take i).foldl one1 ⟨[], []⟩ = S at P
    show Pass1 T ps (i + 1) (one1 S (p, enOf T ps p))
    have hmem : p ∈ ps := List.mem_of_getElem? hp
    have hnot : p ∉ ps.take i := fun z => by
      have e : ps = ps.take i ++ p :: ps.drop (i + 1) := by
        conv => lhs; rw [← List.take_append_drop i ps]
        rw [List.drop_eq_getElem_cons (by omega), hpe]
      have nd := O.nd
      rw [e, List.nodup_append] at nd
      exact nd.2.2 p z p (by simp) rfl
    have hno : lkp S.L p = none := by
      cases z : lkp S.L p with
      | none => rfl
      | some y => exact absurd ((P.key p).mp (by rw [z]; rfl)).1 hnot
    have hT := (O.mem p).mp hmem
    obtain ⟨x, hx⟩ := Option.isSome_iff_exists.mp hT
    have lt : ∀ {q m}, lkp S.L q = some (.file m) → m < S.F.length := fun {q m} a => by
      have z := P.mt q (by rw [a]; rfl)
      rw [a] at z
      obtain ⟨k, ek⟩ := z.file'
      rw [ek] at z
      obtain ⟨g, _, e1⟩ := z
      exact (List.getElem?_eq_some_iff.mp e1).1
    have keyN : ∀ {y : Th} {S' : Hs}, S'.L = putp S.L p y → isLk (enOf T ps p) = false → ∀ q, (lkp S'.L q).isSome = true ↔ q ∈ ps.take (i + 1) ∧ isLk (enOf T ps q) = false := fun {y S'} e hl q => by
      rw [e, lkp_putp, take_snoc hp]
      by_cases k : q = p
      · rw [if_pos k, k]; simp [hl]
      · rw [if_neg k, P.key q]; simp [k]
    unfold one1
    cases hen : enOf T ps p with
    | th y =>
      have hxy : x = y ∧ ∀ n, x ≠ .file n := by
        unfold enOf at hen
        rw [hx] at hen
        cases x with
        | file n => simp only at hen; split at hen <;> (try split at hen) <;> cases hen
        | dir m t => cases hen; exact ⟨rfl, fun n z => nomatch z⟩
        | sym g m t => cases hen; exact ⟨rfl, fun n z => nomatch z⟩
      obtain ⟨rfl, hnf⟩ := hxy
      refine ⟨nodup_putp P.nd, keyN rfl (by rw [hen]; rfl), fun q hq => ?_, fun q r m a b => ?_⟩
      · show Mt T.F S.F (lkp T.L q) (lkp (putp S.L p x) q)
        rw [lkp_putp]
        by_cases k : q = p
        · rw [if_pos k, k, hx]
          cases x with
          | file n => exact absurd rfl (hnf n)
          | dir m t => exact ⟨rfl, rfl⟩
          | sym g m t => exact ⟨rfl, rfl, rfl⟩
        · rw [if_neg k]
          refine P.mt q ?_
          change (lkp (putp S.L p x) q).isSome = true at hq
          rw [lkp_putp, if_neg k] at hq
          exact hq
      · change lkp (putp S.L p x) q = _ at a
        change lkp (putp S.L p x) r = _ at b
        rw [lkp_putp] at a b
        by_cases k : q = p
        · rw [if_pos k] at a; exact absurd (Option.some.inj a) (hnf m)
        · rw [if_neg k] at a
          by_cases k' : r = p
          · rw [if_pos k'] at b; exact absurd (Option.some.inj b) (hnf m)
          · rw [if_neg k'] at b; exact P.sh q r m a b
    | file f =>
      obtain ⟨n, rfl⟩ : ∃ n, x = .file n := by
        unfold enOf at hen
        rw [hx] at hen
        cases x with
        | file n => exact ⟨n, rfl⟩
        | dir m t => cases hen
        | sym g m t => cases hen
      obtain ⟨q0, h1, h2, h3, h4⟩ := enOf_file O hx
      have hf : T.F[n]? = some f := by
        rw [h4] at hen
        split at hen
        · have e := En.file.inj hen
          have hlt := W.th p _ hx
          have hlt : n < T.F.length := hlt
          rw [List.getElem?_eq_getElem hlt] at e ⊢
          rw [← e]; rfl
        · cases hen
      refine ⟨nodup_putp P.nd, keyN rfl (by rw [hen]; rfl), fun q hq => ?_, fun q r m a b => ?_⟩
      · show Mt T.F (S.F ++ [f]) (lkp T.L q) (lkp (putp S.L p _) q)
        rw [lkp_putp]
        by_cases k : q = p
        · rw [if_pos k, k, hx]
          exact ⟨f, hf, by simp⟩
        · rw [if_neg k]
          have := (P.mt q (by
            change (lkp (putp S.L p _) q).isSome = true at hq
            rw [lkp_putp, if_neg k] at hq
            exact hq)).grow [] [f]
          rw [List.append_nil] at this
          exact this
      · change lkp (putp S.L p _) q = _ at a
        change lkp (putp S.L p _) r = _ at b
        rw [lkp_putp] at a b
        by_cases k : q = p
        · rw [if_pos k] at a; cases a
          by_cases k' : r = p
          · rw [k, k']
          · rw [if_neg k'] at b
            exact absurd (lt b) (Nat.lt_irrefl _)
        · rw [if_neg k] at a
          by_cases k' : r = p
          · rw [if_pos k'] at b; cases b
            exact absurd (lt a) (Nat.lt_irrefl _)
          · rw [if_neg k'] at b; exact P.sh q r m a b
    | link q =>
      refine ⟨P.nd, fun r => ?_, P.mt, P.sh⟩
      rw [P.key r, take_snoc hp]
      constructor
      · rintro ⟨a, b⟩; exact ⟨List.mem_append_left _ a, b⟩
      · rintro ⟨a, b⟩
        rcases List.mem_append.mp a with a | a
        · exact ⟨a, b⟩
        · rw [List.mem_singleton.mp a, hen] at b; cases b
/-- behind the second pass over the first i entries -/
structure Pass2 (T : Hs) (ps : List Pth) (i : Nat) (S : Hs) : Prop where
  nd : (S.L.map (·.1)).Nodup
  key : ∀ p, (lkp S.L p).isSome = true ↔ p ∈ ps ∧ (p ∈ ps.take i ∨ isLk (enOf T ps p) = false)
  mt : ∀ p, (lkp S.L p).isSome = true → Mt T.F S.F (lkp T.L p) (lkp S.L p)
  sh : ∀ p q n n' m m', lkp T.L p = some (.file n) → lkp T.L q = some (.file n') → lkp S.L p = some (.file m) → lkp S.L q = some (.file m') → (n = n' ↔ m = m')
theorem isLk_first {n : Nat} {p q : Pth} (O : Ord T ps) (h : fst T.L ps n = some q) : isLk (enOf T ps q) = false ∧ lkp T.L q = some (.file n) := by
  have hq : lkp T.L q = some (.file n) := by simpa using List.find?_some h
  obtain ⟨r, h1, h2, h3, h4⟩ := enOf_file O hq
  rw [h] at h1
  cases h1
  rw [h4, if_pos rfl]
  exact ⟨rfl, hq⟩
theorem pass2_all (W : WF T) (O : Ord T ps) : ∀ i, i ≤ ps.length → Pass2 T ps i (((ents T ps).take i).foldl one2 ((ents T ps).foldl one1 ⟨[], []⟩))
  | 0, _ => by
    have P := pass1_all W O ps.length (Nat.le_refl _)
    have e : (ents T ps).take ps.length = ents T ps := List.take_of_length_le (by simp [ents])
    rw [e] at P
    rw [List.take_zero, List.foldl_nil]
    generalize (ents T ps).foldl one1 ⟨[], []⟩ = S at P
    refine ⟨P.nd, fun p => ?_, P.mt, fun p q n n' m m' a b c d => ?_⟩
    · rw [P.key p, List.take_of_length_le (Nat.le_refl _)]; simp
    · have kp := (P.key p).mp (by rw [c]; rfl)
      have kq := (P.key q).mp (by rw [d]; rfl)
      obtain ⟨x, h1, h2, h3, h4⟩ := enOf_file O a
      obtain ⟨y, k1, k2, k3, k4⟩ := enOf_file O b
      have ex : x = p := by
        have := kp.2
        rw [h4] at this
        by_cases z : x = p
        · exact z
        · rw [if_neg z] at this; cases this
      have ey : y = q := by
        have := kq.2
        rw [k4] at this
        by_cases z : y = q
        · exact z
        · rw [if_neg z] at this; cases this
      subst ex ey
      constructor
      · intro z
        subst z
        rw [h1] at k1
        cases k1
        rw [c] at d
        exact Th.file.inj (Option.some.inj d)
      · intro z
        subst z
        have := P.sh _ _ _ c d
        subst this
        rw [a] at b
        exact Th.file.inj (Option.some.inj b)
  | i + 1, hi => by
    have P := pass2_all W O i (Nat.le_of_succ_le hi)
    have hp : ps[i]? = some ps[i] := by simp
    generalize hpe : ps[i] = p at hp
    have he : (ents T ps)[i]? = some (p, enOf T ps p) := by unfold ents; rw [List.getElem?_map, hp]; rfl
    rw [take_snoc he, List.foldl_append]
    generalize ((ents T ps).take i).foldl one2 ((ents T ps).foldl one1 ⟨[], []⟩) = S at P
    show Pass2 T ps (i + 1) (one2 S (p, enOf T ps p))
    have hmem : p ∈ ps := List.mem_of_getElem? hp
    have same : isLk (enOf T ps p) = false → Pass2 T ps (i + 1) S := fun hl => by
      refine ⟨P.nd, fun r => ?_, P.mt, P.sh⟩
      rw [P.key r, take_snoc hp]
      constructor
      · rintro ⟨a, b | b⟩
        · exact ⟨a, .inl (List.mem_append_left _ b)⟩
        · exact ⟨a, .inr b⟩
      · rintro ⟨a, b | b⟩
        · rcases List.mem_append.mp b with b | b
          · exact ⟨a, .inl b⟩
          · exact ⟨a, .inr (by rw [List.mem_singleton.mp b]; exact hl)⟩
        · exact ⟨a, .inr b⟩
    unfold one2
    cases hen : enOf T ps p with
    | th y => exact same (by rw [hen]; rfl)
    | file f => exact same (by rw [hen]; rfl)
    | link q =>
      have hT := (O.mem p).mp hmem
      obtain ⟨x, hx⟩ := Option.isSome_iff_exists.mp hT
      obtain ⟨n, rfl⟩ : ∃ n, x = .file n := by
        unfold enOf at hen
        rw [hx] at hen
        cases x with
        | file n => exact ⟨n, rfl⟩
        | dir m t => cases hen
        | sym g m t => cases hen
      obtain ⟨q0, h1, h2, h3, h4⟩ := enOf_file O hx
      have eq0 : q0 = q := by
        rw [h4] at hen
        by_cases z : q0 = p
        · rw [if_pos z] at hen; cases hen
        · rw [if_neg z] at hen; exact En.link.inj hen
      subst eq0
      obtain ⟨hlq, _⟩ := isLk_first (p := p) O h1
      have hSq := (P.key q0).mpr ⟨h3, .inr hlq⟩
      obtain ⟨y, hy⟩ := Option.isSome_iff_exists.mp hSq
      have hm := P.mt q0 hSq
      rw [h2] at hm
      obtain ⟨m, em⟩ := hm.file
      rw [em] at hm
      simp only [em, Option.getD_some]
      refine ⟨nodup_putp P.nd, fun r => ?_, fun r hr => ?_, fun a b n1 n2 m1 m2 ha hb hc hd => ?_⟩
      · rw [lkp_putp, take_snoc hp]
        by_cases k : r = p
        · rw [if_pos k, k]; simp [hmem]
        · rw [if_neg k, P.key r]; simp [k]
      · show Mt T.F S.F (lkp T.L r) (lkp (putp S.L p _) r)
        rw [lkp_putp]
        by_cases k : r = p
        · rw [if_pos k, k, hx]; exact hm
        · rw [if_neg k]
          refine P.mt r ?_
          change (lkp (putp S.L p _) r).isSome = true at hr
          rw [lkp_putp, if_neg k] at hr
          exact hr
      · change lkp (putp S.L p _) a = _ at hc
        change lkp (putp S.L p _) b = _ at hd
        rw [lkp_putp] at hc hd
        by_cases k : a = p
        · rw [if_pos k] at hc; cases hc
          rw [k, hx] at ha; cases ha
          by_cases k' : b = p
          · rw [if_pos k'] at hd; cases hd
            rw [k', hx] at hb; cases hb
            exact ⟨fun _ => rfl, fun _ => rfl⟩
          · rw [if_neg k'] at hd
            exact P.sh q0 b _ _ _ _ h2 hb em hd
        · rw [if_neg k] at hc
          by_cases k' : b = p
          · rw [if_pos k'] at hd; cases hd
            rw [k', hx] at hb; cases hb
            exact P.sh a q0 _ _ _ _ ha h2 hc em
          · rw [if_neg k'] at hd
            exact P.sh a b _ _ _ _ ha hb hc hd
end
theorem len_le_of_sub {α : Type} [DecidableEq α] : ∀ {l k : List α}, l.Nodup → (∀ x ∈ l, x ∈ k) → l.length ≤ k.length
  | [], _, _, _ => by simp
  | x :: l, k, nd, h => by
    rw [List.nodup_cons] at nd
    have hx := h x (by simp)
    have ih := len_le_of_sub (l := l) (k := k.erase x) nd.2 fun y hy => by
      have : y ≠ x := fun z => nd.1 (z ▸ hy)
      exact (List.mem_erase_of_ne this).mpr (h y (List.mem_cons_of_mem _ hy))
    rw [List.length_erase_of_mem hx] at ih
    have : 1 ≤ k.length := by
      cases k with
      | nil => cases hx
      | cons _ _ => simp
    simp only [List.length_cons]
    omega
theorem houseOf_iso {T : Hs} {ps : List Pth} (W : WF T) (O : Ord T ps) : Iso T (houseOf (ents T ps)) ∧ WF (houseOf (ents T ps)) := by
  have P := pass2_all W O ps.length (Nat.le_refl _)
  have e : (ents T ps).take ps.length = ents T ps := List.take_of_length_le (by simp [ents])
  rw [e] at P
  unfold houseOf
  generalize (ents T ps).foldl one2 ((ents T ps).foldl one1 ⟨[], []⟩) = S at P
  have key : ∀ p, (lkp S.L p).isSome = true ↔ (lkp T.L p).isSome = true := fun p => by
    rw [P.key p, List.take_of_length_le (Nat.le_refl _), ← O.mem p]
    constructor
    · exact fun h => h.1
    · exact fun h => ⟨h, .inl h⟩
  have mt : ∀ p, Mt T.F S.F (lkp T.L p) (lkp S.L p) := fun p => by
    by_cases z : (lkp S.L p).isSome = true
    · exact P.mt p z
    · have z2 : ¬ (lkp T.L p).isSome = true := fun h => z ((key p).mpr h)
      cases a : lkp S.L p with
      | some y => rw [a] at z; exact absurd rfl z
      | none =>
        cases b : lkp T.L p with
        | some y => rw [b] at z2; exact absurd rfl z2
        | none => trivial
  have I : Iso T S := by
    refine ⟨?_, mt, P.sh⟩
    have h1 := len_le_of_sub (l := T.L.map (·.1)) (k := S.L.map (·.1)) W.nd fun x hx => lkp_keys.mp ((key x).mpr (lkp_keys.mpr hx))
    have h2 := len_le_of_sub (l := S.L.map (·.1)) (k := T.L.map (·.1)) P.nd fun x hx => lkp_keys.mp ((key x).mp (lkp_keys.mpr hx))
    simp only [List.length_map] at h1 h2
    omega
  refine ⟨I, P.nd, fun p hp => W.key p (lkp_keys.mp ((key p).mp (lkp_keys.mpr hp))), fun p x h => ?_, fun p x h q hq => ?_⟩
  · have z := mt p
    rw [h] at z
    cases a : lkp T.L p with
    | none => rw [a] at z; cases x <;> exact z.elim
    | some y =>
      have ok := W.th p y a
      rw [a] at z
      cases y <;> cases x <;> try exact z.elim
      · obtain ⟨f, _, e2⟩ := z
        exact (List.getElem?_eq_some_iff.mp e2).1
      · obtain ⟨rfl, rfl⟩ := z; exact ok
      · obtain ⟨rfl, rfl, rfl⟩ := z; exact ok
  · rw [← I.kd q]
    obtain ⟨y, hy⟩ := Option.isSome_iff_exists.mp ((key p).mp (by rw [h]; rfl))
    exact W.up p y hy q hq
end K89
set_option Elab.async false
set_option linter.all false
set_option maxRecDepth 100000
set_option maxHeartbeats 4000000
/-! K89.P1: numbers, names: is_integer, is_within, is_name, is_path, look_name, look_stamps, are_stamps. -/
namespace K89
open PySem PySem.Spec PyProof.Rows L2
variable {P : Program} {w : World} {K : PySem.W.Frag} {mg : Str → Option Value} {base : Heap}
/-! ### is_integer(thing), thing an int -/
def spIsInteger : Sp := fun vs H Q _ => ∃ i : Int, vs = [.int i] ∧ Q (.bl true) H
theorem g_is_integer (T : Txt P K mg) : Dg P w K mg base "is_integer" 1 spIsInteger := by
  refine T.h_is_integer.mk sc_is_integer (fun _ _ _ _ _ _ us hl => match us, hl with | [_], _ => rfl) (fun vs H Q E h => ?_) (fun f cdv A outer s H vs Q E hr h => ?_)
  · obtain ⟨i, rfl, _⟩ := h; rfl
  · obtain ⟨i, rfl, k⟩ := h
    refine ⟨_, pss_one (ps_ret (pe_and (pe_callB call_isi (by rfl) T.f_isinstance (by decide +kernel) (pa_cons (pv 0) (pa_cons (pe_bltn (v := .ty "int") (by rfl) T.f_int (by decide +kernel) rfl) pa_nil)))
      (pe_one (pe_not (pe_callB call_isi (by rfl) T.f_isinstance (by decide +kernel) (pa_cons (pv 0) (pa_cons (pe_bltn (v := .ty "bool") (by rfl) T.f_bool (by decide +kernel) rfl) pa_nil))))))), ?_⟩
    refine ⟨_, rfl, _, _, _, _, _, rfl, .ty _, .base (.int i), kit_ty (r := true) (by decide +kernel), _, rfl, iteT ?_⟩
    refine ⟨_, rfl, _, _, _, _, _, rfl, .ty _, .base (.int i), kit_ty (r := false) (by decide +kernel), _, rfl, k⟩
/-! ### is_within(thing, low, high), thing an int -/
def spIsWithin : Sp := fun vs H Q _ => ∃ i lo hi : Int, vs = [.int i, .int lo, .int hi] ∧ Q (.bl (decide (lo ≤ i ∧ i ≤ hi))) H
theorem g_is_within (T : Txt P K mg) : Dg P w K mg base "is_within" 2 spIsWithin := by
  refine T.h_is_within.mk sc_is_within (fun _ _ _ _ _ _ us hl => match us, hl with | [_, _, _], _ => rfl) (fun vs H Q E h => ?_) (fun f cdv A outer s H vs Q E hr h => ?_)
  · obtain ⟨i, lo, hi, rfl, _⟩ := h; rfl
  · obtain ⟨i, lo, hi, rfl, k⟩ := h
    refine ⟨_, pss_one (ps_ret (pe_and (pe_g (g_is_integer T) hr (pa_cons (pv 0) pa_nil)) (pe_one (pe_chain op_le op_le (pv 1) (pv 0) (pv 2))))), ?_⟩
    refine ⟨_, rfl, i, rfl, _, rfl, iteT ?_⟩
    refine ⟨_, rfl, _, rfl, _, _, rfl, rfl, _, rfl, ?_⟩
    by_cases h1 : lo ≤ i
    · rw [if_pos (decide_eq_true h1)]
      refine ⟨_, rfl, _, _, rfl, rfl, ?_⟩
      have e : decide (lo ≤ i ∧ i ≤ hi) = decide (i ≤ hi) := by simp [h1]
      rw [e] at k
      exact k
    · rw [if_neg (by simpa using h1)]
      have e : decide (lo ≤ i ∧ i ≤ hi) = false := by simp [h1]
      rw [e] at k
      exact k
end K89
set_option Elab.async false
set_option linter.all false
set_option maxRecDepth 100000
set_option maxHeartbeats 4000000
/-! K89.H: helpers for readings: comprehensions that only make, heaps but for one object, things of the mathematics in the heap. -/
namespace K89
open PySem PySem.Spec PyProof.Rows L2
/-- a comprehension whose elements only make new things: ys, one after another -/
theorem lc_pure {J : It} {n : Nat} {G : Hp → Prop} {Y : Nat → Hp → V → Hp → Prop} (w : L2.Walk J n G Y) {g : TG} {te : TE} {vs : List Nat} {σ : L2.St} {H1 : Hp} {D : Addr} {Qd : Hp → Prop} (ys : List V) (hn : ys.length = n) (hz : n < sizeLine) (hD : H1 D = none)
    (hG : ∀ H, Same H1 H → G H)
    (hs : ∀ i x H H' (Pz : VK), i < n → Same H1 H → Y i H x H' → (∀ y H4, Same H H4 → ys[i]? = some y → Pz y H4) → g x (wipe σ vs) H' fun σ2 H2 => wipe σ2 vs = wipe σ vs ∧ te σ2 H2 Pz)
    (hd : ∀ H, Same H1 H → H D = some (.lst ys) → Qd H) :
    ∃ W : Nat → Nat → Hp → Prop, (∃ m, W 0 m (upd H1 D (.lst []))) ∧ ∀ i m H, W i m H →
      (J.stop i H ∧ Qd H) ∨ (J.go i H ∧ ∃ Nx : Hp → Prop, (∀ H', Nx H' → ∃ m', m' < m ∧ W (i + 1) m' H') ∧ ∀ x H', J.yld i H x H' → g x (wipe σ vs) H' fun σ2 H2 => wipe σ2 vs = wipe σ vs ∧ tYes σ2 H2 fun b H3 =>
        if b = true then te σ2 H3 fun y H4 => ∃ acc, H4 D = some (.lst acc) ∧ acc.length < sizeLine ∧ Nx (upd H4 D (.lst (acc ++ [y]))) else Nx H3) := by
  have up : ∀ {H : Hp} {l : List V}, Same H1 H → Same H1 (upd H D (.lst l)) := fun {H l} s b o e => by
    rw [upd_ne (ne_of_none e hD)]; exact s b o e
  refine L2.lc_it w (fun i H => Same H1 H ∧ H D = some (.lst (ys.take i))) ⟨up (Same.refl _), by rw [upd_same, List.take_zero]⟩ (fun i H _ p => hG H p.1) (fun i x H H' hi p y => ?_) fun H p => hd H p.1 (by rw [p.2, List.take_of_length_le (by omega)])
  simp only [tYes, if_true]
  refine hs i x H H' _ hi p.1 y fun z H4 r1 r2 => ⟨ys.take i, r1 _ _ p.2, by rw [List.length_take]; omega, up (p.1.trans r1), ?_⟩
  rw [upd_same, List.take_add_one, r2] <;> rfl
/-- .. with a test: ys, those that are some -/
theorem lc_filt {J : It} {n : Nat} {G : Hp → Prop} {Y : Nat → Hp → V → Hp → Prop} (w : L2.Walk J n G Y) {g : TG} {tt : TT} {te : TE} {vs : List Nat} {σ : L2.St} {H1 : Hp} {D : Addr} {Qd : Hp → Prop} (ys : List (Option V)) (hn : ys.length = n) (hz : n < sizeLine) (hD : H1 D = none)
    (hG : ∀ H, Same H1 H → G H)
    (hs : ∀ i x H H' (Pz : VK) (Pn : Hp → Prop), i < n → Same H1 H → Y i H x H' → (∀ y H4, Same H H4 → ys[i]? = some (some y) → Pz y H4) → (∀ H4, Same H H4 → ys[i]? = some none → Pn H4) →
      g x (wipe σ vs) H' fun σ2 H2 => wipe σ2 vs = wipe σ vs ∧ tt σ2 H2 fun b H3 => if b = true then te σ2 H3 Pz else Pn H3)
    (hd : ∀ H, Same H1 H → H D = some (.lst (ys.filterMap id)) → Qd H) :
    ∃ W : Nat → Nat → Hp → Prop, (∃ m, W 0 m (upd H1 D (.lst []))) ∧ ∀ i m H, W i m H →
      (J.stop i H ∧ Qd H) ∨ (J.go i H ∧ ∃ Nx : Hp → Prop, (∀ H', Nx H' → ∃ m', m' < m ∧ W (i + 1) m' H') ∧ ∀ x H', J.yld i H x H' → g x (wipe σ vs) H' fun σ2 H2 => wipe σ2 vs = wipe σ vs ∧ tt σ2 H2 fun b H3 =>
        if b = true then te σ2 H3 fun y H4 => ∃ acc, H4 D = some (.lst acc) ∧ acc.length < sizeLine ∧ Nx (upd H4 D (.lst (acc ++ [y]))) else Nx H3) := by
  have up : ∀ {H : Hp} {l : List V}, Same H1 H → Same H1 (upd H D (.lst l)) := fun {H l} s b o e => by
    rw [upd_ne (ne_of_none e hD)]; exact s b o e
  refine L2.lc_it w (fun i H => Same H1 H ∧ H D = some (.lst ((ys.take i).filterMap id))) ⟨up (Same.refl _), by rw [upd_same, List.take_zero]; rfl⟩ (fun i H _ p => hG H p.1) (fun i x H H' hi p y => ?_) fun H p => hd H p.1 (by rw [p.2, List.take_of_length_le (by omega)])
  refine hs i x H H' _ _ hi p.1 y (fun z H4 r1 r2 => ⟨(ys.take i).filterMap id, r1 _ _ p.2, ?_, up (p.1.trans r1), ?_⟩) fun H4 r1 r2 => ⟨p.1.trans r1, ?_⟩
  · have h1 := List.length_filterMap_le id (ys.take i)
    have h2 := List.length_take_le i ys
    omega
  · rw [upd_same, List.take_add_one, r2]
    simp
  · rw [r1 _ _ p.2, List.take_add_one, r2]
    simp
end K89
set_option Elab.async false
set_option linter.all false
set_option maxRecDepth 100000
set_option maxHeartbeats 4000000
/-! K89.P2: is_name, is_path, look_name, look_stamps, are_stamps. -/
namespace K89
open PySem PySem.Spec PyProof.Rows L2
variable {P : Program} {w : World} {K : PySem.W.Frag} {mg : Str → Option Value} {base : Heap}
theorem sizeB {n : Nat} (h : n ≤ 16000000) : n < sizeLine := by rw [sizeLine_eq]; omega
theorem sizeB' {n : Nat} (h : n ≤ 16000000) : n ≤ sizeLine := by rw [sizeLine_eq]; omega
theorem all_true {α : Type} (l : List α) : (l.map fun _ => true).all id = true := by simp
theorem lettersS_eq : lettersS.cps.toList = letters := by decide +kernel
/-! ### is_name(thing), thing a name -/
def spIsName : Sp := fun vs H Q _ => ∃ z, vs = [.str z] ∧ NameOk z ∧ ∀ H', Same H H' → Q (.bl true) H'
theorem g_is_name (T : Txt P K mg) : Dg P w K mg base "is_name" 1 spIsName := by
  obtain ⟨tL, hL⟩ := T.c_LETTERS
  obtain ⟨tM, hM⟩ := T.c_MOST_NAME
  refine T.h_is_name.mk sc_is_name (fun _ _ _ _ _ _ us hl => match us, hl with | [_], _ => rfl) (fun vs H Q E h => ?_) (fun f cdv A outer s H vs Q E hr h => ?_)
  · obtain ⟨i, rfl, _⟩ := h; rfl
  · obtain ⟨z, rfl, hz, k⟩ := h
    have hz1 := hz.1
    have hz2 := hz.2.1
    refine ⟨_, pss_cons (ps_if (PW.pt (pw_or (pt_not (pt_val (pe_callB call_isi (by rfl) T.f_isinstance (by decide +kernel) (pa_cons (pv 0) (pa_cons (pe_bltn (v := .ty "str") (by rfl) T.f_str (by decide +kernel) rfl) pa_nil)))))
        (pw_or1 (pt_not (pt_chain op_le op_le pe_int (pe_callB call_len_str (by rfl) T.f_len PySem.boot_len (pa_cons (pv 0) pa_nil)) (pe_glob (v := .int 250) (by rfl) hM ⟨_, rfl⟩)))))) (pss_one (ps_ret pe_bl)) pss_nil)
      (pss_one (ps_ret (pe_callB (cr_all rfl) (by rfl) T.f_all (by decide +kernel) (pa_cons (pe_lc (own := [("sign", 1)]) (g := gName 1) (tt := tYes) rfl sc_is_name.nd (pi_str (pv 0)) (blkOk_by (N := N_is_name) (sc := defScope s_is_name) (by decide +kernel))
        (fun _ _ _ _ _ => pg_name (i := 1) sc_is_name.nd rfl (Or.inl rfl)) (fun _ _ _ _ _ => pts_nil) (fun _ _ _ _ _ => pe_cmpR op_in_sign (pv 1) (pe_glob (v := .str lettersS) (by rfl) hL ⟨_, rfl⟩) (by rfl))) pa_nil)))), ?_⟩
    refine ⟨_, rfl, _, _, _, _, _, rfl, .ty _, .base (.str z), kit_ty (r := true) (by decide +kernel), _, rfl, iteF ?_⟩
    refine ⟨_, rfl, z, rfl, sizeB' (by omega), _, _, rfl, rfl, _, rfl, ?_⟩
    rw [if_pos (decide_eq_true (show (1 : Int) ≤ (z.length : Int) by omega))]
    refine ⟨_, _, rfl, rfl, _, rfl, ?_⟩
    have e : decide ((z.length : Int) ≤ 250) = true := by simp; omega
    rw [e]
    refine iteF ?_
    refine ⟨_, rfl, z, rfl, fun D hD => ?_⟩
    refine lc_pure L2.walk_str ((List.range z.cps.size).map fun _ => V.bl true) (by simp) (sizeB (show z.length ≤ _ by omega)) hD (fun _ _ => trivial) (fun i x H1 H' Pz hi s1 y hP => ?_) fun H1 s1 hL1 => ?_
    · obtain ⟨rfl, c, hc, rfl⟩ := y
      refine ⟨rfl, _, rfl, _, _, rfl, rfl, ?_⟩
      have hm : c ∈ lettersS.cps.toList := by
        rw [lettersS_eq]
        refine hz.2.2 c ?_
        have : (cds z)[i]? = some c := by simpa using hc
        exact List.mem_of_getElem? this
      rw [decide_eq_true hm]
      exact hP _ _ (Same.refl _) (by simp [hi])
    · refine ⟨D, (List.range z.cps.size).map fun _ => true, rfl, SqL.of (by rw [hL1, List.map_map]; rfl), ?_⟩
      rw [all_true]
      exact k _ s1
/-! ### is_path(thing), thing the text of a path -/
def spIsPath : Sp := fun vs H Q _ => ∃ ν p, Nm ν ∧ POk p ∧ vs = [.str (nm ν p)] ∧ ∀ H', Same H H' → Q (.bl true) H'
theorem nm_nameOk {ν : Nat → Str} {p : Pth} (N : Nm ν) (h : POk p) : NameOk (nm ν p) := ⟨nm_len0 N h, N.len p h, nm_letters N h⟩
theorem all_false {α : Type} (l : List α) : (l.map fun _ => false).any id = false := by simp
theorem slash_eq : ("/" : Str) = slash := by decide +kernel
theorem g_is_path (T : Txt P K mg) : Dg P w K mg base "is_path" 2 spIsPath := by
  refine T.h_is_path.mk sc_is_path (fun _ _ _ _ _ _ us hl => match us, hl with | [_], _ => rfl) (fun vs H Q E h => ?_) (fun f cdv A outer s H vs Q E hr h => ?_)
  · obtain ⟨ν, p, _, _, rfl, _⟩ := h; rfl
  · obtain ⟨ν, p, N, hp, rfl, k⟩ := h
    have hl : (nm ν p).length ≤ 250 := N.len p hp
    refine ⟨_, pss_one (ps_ret (pe_and (pe_g (g_is_name T) hr (pa_cons (pv 0) pa_nil)) (pe_one (pe_not (pe_callB (cr_any rfl) (by rfl) T.f_any (by decide +kernel) (pa_cons
      (pe_lc (own := [("part", 1)]) (g := gName 1) (tt := tYes) rfl sc_is_path.nd (pi_list (pe_split (pv 0) pe_str)) (blkOk_by (N := N_is_path) (sc := defScope s_is_path) (by decide +kernel))
        (fun _ _ _ _ _ => pg_name (i := 1) sc_is_path.nd rfl (Or.inl rfl)) (fun _ _ _ _ _ => pts_nil) (fun _ _ _ _ _ => pe_cmpR (r := rIn K false) op_in_seq (pv 1) (pe_tup (pa_cons pe_str (pa_cons pe_str (pa_cons pe_str pa_nil)))) (by rfl))) pa_nil)))))), ?_⟩
    refine ⟨_, rfl, _, rfl, nm_nameOk N hp, fun H1 s1 => ⟨_, rfl, iteT ?_⟩⟩
    refine ⟨_, rfl, ⟨_, rfl⟩, _, _, rfl, rfl, by decide +kernel, by rw [sizeLine_eq]; omega, fun a ha => ?_⟩
    rw [slash_eq, nm_split N hp]
    refine ⟨a, rfl, ⟨_, SqL.of upd_same⟩, fun D hD => ?_⟩
    refine lc_pure (L2.walk_list (K := K) (a := a) (xs := (p.map ν).map V.str)) (p.map fun _ => V.bl false) (by simp) (sizeB (by have := hp.le; simp; omega)) hD (fun H2 s2 => s2.seq (SqL.of upd_same)) (fun i x H2 H' Pz hi s2 y hP => ?_) fun H2 s2 hL2 => ?_
    · obtain ⟨rfl, hx⟩ := y
      obtain ⟨wd, rfl, hw⟩ : ∃ wd, x = .str wd ∧ wd ∈ p.map ν := by
        rw [List.getElem?_map] at hx
        cases e : (p.map ν)[i]? with
        | none => rw [e] at hx; cases hx
        | some wd => rw [e] at hx; exact ⟨wd, (Option.some.inj hx).symm, List.mem_of_getElem? e⟩
      obtain ⟨n1, n2, n3⟩ := nm_parts N hp wd hw
      refine ⟨rfl, _, rfl, sizeB' (by decide), fun q hq => ⟨q, _, rfl, .inr (SqT.of upd_same), rfl, rfl, ?_⟩⟩
      have e : inV (.str wd) [.str "", .str ".", .str ".."] = false := by
        simp only [inV, List.any_cons, List.any_nil, eqV, Bool.or_false, Bool.or_eq_false_iff, beq_eq_false_iff_ne]
        exact ⟨fun z => n1 z.symm, fun z => n2 z.symm, fun z => n3 z.symm⟩
      rw [e]
      refine hP _ _ (fun b o z => by rw [upd_ne (ne_of_none z hq)]; exact z) ?_
      rw [List.length_map, List.length_map] at hi
      rw [List.getElem?_map, List.getElem?_eq_getElem hi]; rfl
    · refine ⟨D, p.map fun _ => false, rfl, SqL.of (by rw [hL2, List.map_map]; rfl), ?_⟩
      rw [all_false]
      refine ⟨_, rfl, k _ (s1.trans (Same.trans (fun b o z => by rw [upd_ne (ne_of_none z ha)]; exact z) s2))⟩
end K89
set_option Elab.async false
set_option linter.all false
set_option maxRecDepth 100000
set_option maxHeartbeats 4000000
/-! K89.H2: heaps but for some objects; the things of the mathematics in the heap. -/
namespace K89
open PySem PySem.Spec PyProof.Rows L2

/-! ### heaps but for some objects -/
def hid (H : Hp) (l : List Addr) : Hp := fun b => if b ∈ l then none else H b
section
variable {H H' H0 H1 : Hp} {l : List Addr} {a b : Addr} {o : HO} {K : PySem.W.Frag} {xs : List V}
theorem hid_upd (h : a ∈ l) : hid (upd H a o) l = hid H l := by
  funext b
  unfold hid
  by_cases e : b ∈ l
  · rw [if_pos e, if_pos e]
  · rw [if_neg e, if_neg e, upd_ne (fun z => e (by rw [z]; exact h))]
theorem hid_some (h : hid H l b = some o) : H b = some o ∧ b ∉ l := by
  unfold hid at h
  by_cases e : b ∈ l
  · rw [if_pos e] at h; cases h
  · rw [if_neg e] at h; exact ⟨h, e⟩
theorem hid_at (h : H b = some o) (n : b ∉ l) : hid H l b = some o := by unfold hid; rw [if_neg n]; exact h
theorem hid_sub : Same (hid H l) H := fun b o h => (hid_some h).1
theorem hid_same (s : Same H H') : Same (hid H l) (hid H' l) := fun b o h => hid_at (s b o (hid_some h).1) (hid_some h).2
theorem hid_in (s : Same H0 H) (n : ∀ b ∈ l, H0 b = none) : Same H0 (hid H l) := fun b o h => hid_at (s b o h) fun z => by rw [n b z] at h; cases h
theorem same_new (h : H b = none) : Same H (upd H b o) := fun c o' z => by rw [upd_ne (ne_of_none z h)]; exact z
theorem hid_new (h : H b = none) : Same (hid H l) (hid (upd H b o) l) := hid_same (same_new h)
theorem hid_nil : hid H [] = H := by funext b; unfold hid; simp
theorem _root_.L2.Same.tup (s : Same H H') (h : SqT K H a xs) : SqT K H' a xs := by
  rcases h with (h | ⟨o, h⟩) | h
  · exact .inl (.inl (s _ _ h))
  · exact .inl (.inr ⟨o, s _ _ h⟩)
  · exact .inr h
theorem free_of (s : Same H H') (h : H' a = none) : H a = none := s.free h
end

/-! ### rules whose readings name K (for the blocks of comprehensions) -/
def rJoin (K : PySem.W.Frag) : V → List V → Hp → VK → Prop := fun x xs H Q => ∃ a p, ∃ ys : List Str, x = .str a ∧ xs = [.ref p] ∧ (SqL K H p (ys.map V.str) ∨ SqT K H p (ys.map V.str)) ∧ (ys.map (·.length)).sum + ys.length * a.length ≤ 16777216 ∧ Q (.str (Txt.join a ys)) H
theorem pe_joinK {X : Cx} {o e : Expr} {to te : TE} {apos pos : Pos} (K : PySem.W.Frag) (hK : X.K = K) (ho : PE X o to) (he : PE X e te) (hs : starEach [e] X.env = [(false, eval e X.env)] := by rfl) (hbase : attributeBase o "join" X.env (eval o X.env) = eval o X.env := by rfl) (hline : (apos.endLine == pos.line) = true := by rfl) :
    PE X (.Call (.Attribute o "join" apos) [e] [] pos) (tM1 (rJoin K) to te) := by
  subst hK
  exact pe_join ho he hs hbase hline
theorem pe_fldK {X : Cx} {e : Expr} {ta : TE} {f : Str} {pos : Pos} (K : PySem.W.Frag) (hK : X.K = K) (he : PE X e ta) (hb : attributeBase e f X.env (eval e X.env) = eval e X.env := by rfl) : PE X (.Attribute e f pos) (tFld K ta f) := by
  subst hK
  exact pe_fld he hb

/-- name = value -/
theorem pset {X : Cx} (i : Nat) {x : Str} {e : Expr} {te : TE} {pos pos' : Pos} (hN : X.N.Nodup) (he : PE X e te) (hi : X.N[i]? = some x := by rfl) (hx : Loc X.env.scope x := by first | exact Or.inl rfl | exact Or.inr rfl) (hs : swapsWith e (some (.Name x pos')) pos.line X.env = pure false := by rfl)
    (hf : X.fn x = true ∨ X.env.scope.names.lookup x = some .local := by first | exact .inl rfl | exact .inr rfl) : PS X (.Assign [.Name x pos'] e pos) (tAsg te (gName i)) := ps_set hN hi hx he hs hf

/-- l.append(e) as a statement -/
theorem papp {X : Cx} {o e : Expr} {to te : TE} {apos cpos pos : Pos} (ho : PE X o to) (he : PE X e te) (hs : swapsWith (.Call (.Attribute o "append" apos) [e] [] cpos) none pos.line X.env = pure false := by rfl)
    (hbase : attributeBase o "append" X.env (eval o X.env) = eval o X.env := by rfl)
    (hfew : ((backTo cpos (starEach [e] X.env)).all (fun x => !x.1) && (backToKw cpos (keywordEach [] X.env)).all (fun x => x.1.isSome)
      && decide ([e].length + ([] : List Keyword).length + (if ([] : List Keyword).isEmpty then 0 else 1) < 30)) = true := by rfl)
    (hline : (apos.endLine == cpos.line) = true := by rfl) (hst : starEach [e] X.env = (false, eval e X.env) :: starEach [] X.env := by rfl) :
    PS X (.Expr (.Call (.Attribute o "append" apos) [e] [] cpos) pos) (tDrop (tBM X.K "list" rAppend to (tCons te tNil))) :=
  ps_expr (pe_bm PySem.F.plainAttrs_list PySem.F.slot_list_append PySem.F.type_list_append mt_append ho (pa_cons he pa_nil hst) hbase hfew hline hst rfl) hs
def plainO : HO → Bool
  | .tup _ => false | .frz _ _ => false | _ => true
theorem SqT.hide {K : PySem.W.Frag} {H : Hp} {l : List Addr} {q : Addr} {xs : List V} (h : SqT K H q xs) (n : ∀ b ∈ l, ∃ o, H b = some o ∧ plainO o = true) : SqT K (hid H l) q xs := by
  have key : ∀ o, H q = some o → plainO o = false → hid H l q = some o := fun o e e2 => hid_at e fun z => by
    obtain ⟨o', h1, h2⟩ := n q z
    rw [e] at h1
    cases h1
    rw [e2] at h2
    cases h2
  rcases h with (h | ⟨o, h⟩) | h
  · exact .inl (.inl (key _ h rfl))
  · exact .inl (.inr ⟨o, key _ h rfl⟩)
  · exact .inr h

/-! ### things, files, tables in the heap -/
def thV : Th → List V
  | .file n => [.str "file", .int n]
  | .dir m t => [.str "directory", .int m, .int t]
  | .sym tg m t => [.str "symlink", .str tg, .int m, .int t]
def fdV (f : FD) : List V := [.str "file", .byt f.data, .int f.m, .int f.t]
def kdS : Kd → Str
  | .absent => "absent" | .file => "file" | .dir => "directory" | .sym => "symlink"
theorem thV_hd (x : Th) : ∃ r, thV x = .str (kdS (kd (some x))) :: r := by cases x <;> exact ⟨_, rfl⟩
theorem kdS_eq {a b : Kd} : kdS a = kdS b ↔ a = b := by
  constructor
  · cases a <;> cases b <;> first | (intro _; rfl) | (intro h; exact absurd h (by decide +kernel))
  · rintro rfl; rfl
section
variable (K : PySem.W.Frag) (ν : Nat → Str) (H : Hp)
def StandAt (kvs : List (Key × V)) (L : AL) : Prop := Paired (fun (kv : Key × V) (e : Pth × Th) => kv.1 = .inr (nm ν e.1) ∧ ∃ q, kv.2 = .ref q ∧ SqT K H q (thV e.2)) kvs L
def FilesAt (kfs : List (Key × V)) (F : List FD) : Prop := kfs.length = F.length ∧ ∀ (i : Nat) f, F[i]? = some f → ∃ q, kfs[i]? = some (.inl (i : Int), .ref q) ∧ SqT K H q (fdV f)
end
section
variable {K : PySem.W.Frag} {ν : Nat → Str} {H H' : Hp} {kvs kfs : List (Key × V)} {L : AL} {F : List FD} {p : Pth}
theorem StandAt.mono (h : StandAt K ν H kvs L) (s : Same H H') : StandAt K ν H' kvs L := Paired.mapP h fun kv e ⟨h1, q, h2, h3⟩ => ⟨h1, q, h2, s.tup h3⟩
theorem StandAt.length (h : StandAt K ν H kvs L) : kvs.length = L.length := Paired.length h
theorem StandAt.keys (h : StandAt K ν H kvs L) : kvs.map (·.1) = (L.map fun e => nm ν e.1).map Sum.inr := by
  unfold StandAt at h
  induction h with
  | nil => rfl
  | cons r t ih => rw [List.map_cons, List.map_cons, List.map_cons, ih, r.1]
theorem StandAt.val (N : Nm ν) (hp : POk p) (h : StandAt K ν H kvs L) (hk : ∀ q ∈ L.map (·.1), POk q) :
    (lkp L p = none → valV kvs (.inr (nm ν p)) = none) ∧ ∀ x, lkp L p = some x → ∃ q, valV kvs (.inr (nm ν p)) = some (.ref q) ∧ SqT K H q (thV x) := by
  unfold StandAt at h
  induction h with
  | nil => exact ⟨fun _ => rfl, fun x e => by cases e⟩
  | @cons kv e ks L r t ih =>
    obtain ⟨h1, q, h2, h3⟩ := r
    have ih := ih fun q hq => hk q (List.mem_cons_of_mem _ hq)
    by_cases c : e.1 = p
    · have ce : kv.1 = .inr (nm ν p) := by rw [h1, c]
      refine ⟨fun z => (by rw [lkp_pos c] at z; cases z), fun x z => ⟨q, by rw [valV_pos ce, h2], ?_⟩⟩
      rw [lkp_pos c] at z
      cases z
      exact h3
    · have ce : ¬ kv.1 = .inr (nm ν p) := fun z => c (nm_inj N (hk _ List.mem_cons_self) hp (Sum.inr.inj (h1.symm.trans z)))
      rw [lkp_neg c, valV_neg ce]
      exact ih
theorem StandAt.repl (N : Nm ν) (hp : POk p) {x : Th} {q : Addr} (hq : SqT K H q (thV x)) (h : StandAt K ν H kvs L) (hk : ∀ q ∈ L.map (·.1), POk q) :
    StandAt K ν H (kvs.map fun kv => if kv.1 = .inr (nm ν p) then (kv.1, .ref q) else kv) (L.map fun e => if e.1 = p then (e.1, x) else e) := by
  unfold StandAt at h
  induction h with
  | nil => exact .nil
  | @cons kv e ks L r t ih =>
    have ih := ih fun q hq => hk q (List.mem_cons_of_mem _ hq)
    rw [List.map_cons, List.map_cons]
    refine .cons ?_ ih
    obtain ⟨h1, h2⟩ := r
    by_cases c : e.1 = p
    · have ce : kv.1 = .inr (nm ν p) := by rw [h1, c]
      rw [if_pos ce, if_pos c]
      exact ⟨h1, q, rfl, hq⟩
    · have ce : ¬ kv.1 = .inr (nm ν p) := fun z => c (nm_inj N (hk _ List.mem_cons_self) hp (Sum.inr.inj (h1.symm.trans z)))
      rw [if_neg ce, if_neg c]
      exact ⟨h1, h2⟩
theorem StandAt.snoc {x : Th} {q : Addr} (hq : SqT K H q (thV x)) (h : StandAt K ν H kvs L) : StandAt K ν H (kvs ++ [(.inr (nm ν p), .ref q)]) (L ++ [(p, x)]) := by
  unfold StandAt at h
  induction h with
  | nil => exact .cons ⟨rfl, q, rfl, hq⟩ .nil
  | cons r t ih => exact .cons r ih
theorem StandAt.put (N : Nm ν) (hp : POk p) {x : Th} {q : Addr} (h : StandAt K ν H kvs L) (hk : ∀ q ∈ L.map (·.1), POk q) (hq : SqT K H q (thV x)) : StandAt K ν H (putK kvs (.inr (nm ν p)) (.ref q)) (putp L p x) := by
  have hv := h.val N hp hk
  have ea : (kvs.any fun kv => decide (kv.1 = Sum.inr (nm ν p))) = (L.any fun e => decide (e.1 = p)) := by
    rw [valV_any, lkp_any]
    cases e : lkp L p with
    | none => rw [hv.1 e]; rfl
    | some x => obtain ⟨q, e1, _⟩ := hv.2 x e; rw [e1]; rfl
  unfold putK putp
  rw [ea]
  split
  · exact StandAt.repl N hp hq h hk
  · exact StandAt.snoc hq h
theorem FilesAt.mono (h : FilesAt K H kfs F) (s : Same H H') : FilesAt K H' kfs F := ⟨h.1, fun i f e => (h.2 i f e).imp fun q z => ⟨z.1, s.tup z.2⟩⟩
theorem files_val : ∀ {kfs : List (Key × V)} {j : Nat}, (∀ i, i < kfs.length → ∃ q, kfs[i]? = some (.inl ((j + i : Nat) : Int), V.ref q)) → ∀ (i : Nat), valV kfs (.inl ((j + i : Nat) : Int)) = kfs[i]?.map (·.2)
  | [], _, _, i => by simp [valV]
  | kv :: r, j, h, i => by
    obtain ⟨q, e⟩ := h 0 (by simp)
    have e : kv = (.inl ((j : Nat) : Int), .ref q) := by simpa using e
    cases i with
    | zero => rw [valV_pos (by rw [e]; rfl)]; rfl
    | succ i =>
      have c : ¬ kv.1 = Sum.inl (((j + (i + 1) : Nat)) : Int) := by
        rw [e]
        intro z
        have := Sum.inl.inj z
        omega
      rw [valV_neg c]
      have ih := files_val (kfs := r) (j := j + 1) (fun i hi => by
        obtain ⟨q, e⟩ := h (i + 1) (by simp; omega)
        exact ⟨q, by rw [show j + 1 + i = j + (i + 1) by omega]; simpa using e⟩) i
      rw [show j + (i + 1) = j + 1 + i by omega, ih]
      rfl
theorem FilesAt.val (h : FilesAt K H kfs F) (i : Nat) : valV kfs (.inl (i : Int)) = kfs[i]?.map (·.2) := by
  have := files_val (kfs := kfs) (j := 0) (fun i hi => by
    obtain ⟨q, e, _⟩ := h.2 i (F[i]'(by rw [← h.1]; exact hi)) (List.getElem?_eq_getElem _)
    exact ⟨q, by rw [Nat.zero_add]; exact e⟩) i
  rw [Nat.zero_add] at this
  exact this
theorem FilesAt.get (h : FilesAt K H kfs F) {i : Nat} {f : FD} (e : F[i]? = some f) : ∃ q, valV kfs (.inl (i : Int)) = some (.ref q) ∧ SqT K H q (fdV f) := by
  obtain ⟨q, e1, e2⟩ := h.2 i f e
  exact ⟨q, by rw [h.val, e1]; rfl, e2⟩
theorem FilesAt.new (h : FilesAt K H kfs F) : valV kfs (.inl (F.length : Int)) = none := by
  rw [h.val, List.getElem?_eq_none (by rw [h.1]; exact Nat.le_refl _)]
  rfl
theorem FilesAt.push (h : FilesAt K H kfs F) {f : FD} {q : Addr} (hq : SqT K H q (fdV f)) : FilesAt K H (putK kfs (.inl (F.length : Int)) (.ref q)) (F ++ [f]) := by
  rw [putK_new _ h.new]
  refine ⟨by simp [h.1], fun i g e => ?_⟩
  by_cases c : i < F.length
  · rw [List.getElem?_append_left c] at e
    obtain ⟨q', e1, e2⟩ := h.2 i g e
    exact ⟨q', by rw [List.getElem?_append_left (by rw [h.1]; exact c)]; exact e1, e2⟩
  · rw [List.getElem?_append_right (by omega)] at e
    have ei : i - F.length = 0 := by
      rcases Nat.eq_zero_or_pos (i - F.length) with z | z
      · exact z
      · rw [List.getElem?_eq_none (by simp; omega)] at e; cases e
    rw [ei] at e
    cases e
    refine ⟨q, ?_, hq⟩
    rw [List.getElem?_append_right (by rw [h.1]; omega), h.1, ei]
    have : i = F.length := by omega
    rw [this]
    rfl
end

/-! ### houses in the heap -/
def hF (sd fd rw : Addr) : List (Str × V) := [("standing", .ref sd), ("files", .ref fd), ("rows", .ref rw)]
def RowsAt (K : PySem.W.Frag) (ν : Nat → Str) (H : Hp) (rw : Addr) (S : Hs) : Prop :=
  ∃ rows ps, H rw = some (.lst rows) ∧ Ord S ps ∧ Paired (fun v p => ∃ q x, v = V.ref q ∧ SqT K H q [.str (nm ν p), x]) rows ps
/-- what stands in a house, to be read -/
structure HouseS (K : PySem.W.Frag) (ν : Nat → Str) (H : Hp) (a : Addr) (S : Hs) : Prop where
  nn : Nm ν
  key : ∀ p ∈ S.L.map (·.1), POk p
  at_ : ∃ dx sd fd rw kvs kfs, H a = some (.ins (cl K "House") dx (hF sd fd rw)) ∧ H sd = some (.dK kvs) ∧ StandAt K ν H kvs S.L ∧ H fd = some (.dK kfs) ∧ FilesAt K H kfs S.F
/-- a house, to be read -/
structure HouseAt (K : PySem.W.Frag) (ν : Nat → Str) (H : Hp) (a : Addr) (S : Hs) : Prop where
  nn : Nm ν
  wf : WF S
  at_ : ∃ dx sd fd rw kvs kfs, H a = some (.ins (cl K "House") dx (hF sd fd rw)) ∧ H sd = some (.dK kvs) ∧ StandAt K ν H kvs S.L ∧ H fd = some (.dK kfs) ∧ FilesAt K H kfs S.F ∧ RowsAt K ν H rw S
/-- a house, to be changed: its dicts stand at sd and fd -/
structure HM (K : PySem.W.Frag) (ν : Nat → Str) (H : Hp) (a sd fd : Addr) (S : Hs) : Prop where
  nn : Nm ν
  key : ∀ p ∈ S.L.map (·.1), POk p
  ne : sd ≠ fd
  at_ : ∃ dx rw kvs kfs, H a = some (.ins (cl K "House") dx (hF sd fd rw)) ∧ H sd = some (.dK kvs) ∧ StandAt K ν (hid H [sd, fd]) kvs S.L ∧ H fd = some (.dK kfs) ∧ FilesAt K (hid H [sd, fd]) kfs S.F
section
variable {K : PySem.W.Frag} {ν : Nat → Str} {H H' : Hp} {a sd fd rw : Addr} {S : Hs}
theorem RowsAt.mono (h : RowsAt K ν H rw S) (s : Same H H') : RowsAt K ν H' rw S := by
  obtain ⟨rows, ps, h1, h2, h3⟩ := h
  exact ⟨rows, ps, s _ _ h1, h2, Paired.mapP h3 fun v p ⟨q, x, e, z⟩ => ⟨q, x, e, s.tup z⟩⟩
theorem HouseS.mono (h : HouseS K ν H a S) (s : Same H H') : HouseS K ν H' a S := by
  obtain ⟨n, w, dx, sd, fd, rw, kvs, kfs, h1, h2, h3, h4, h5⟩ := h
  exact ⟨n, w, dx, sd, fd, rw, kvs, kfs, s _ _ h1, s _ _ h2, h3.mono s, s _ _ h4, h5.mono s⟩
theorem HouseAt.mono (h : HouseAt K ν H a S) (s : Same H H') : HouseAt K ν H' a S := by
  obtain ⟨n, w, dx, sd, fd, rw, kvs, kfs, h1, h2, h3, h4, h5, h6⟩ := h
  exact ⟨n, w, dx, sd, fd, rw, kvs, kfs, s _ _ h1, s _ _ h2, h3.mono s, s _ _ h4, h5.mono s, h6.mono s⟩
theorem HouseAt.st (h : HouseAt K ν H a S) : HouseS K ν H a S := by
  obtain ⟨n, w, dx, sd, fd, rw, kvs, kfs, h1, h2, h3, h4, h5, h6⟩ := h
  exact ⟨n, w.key, dx, sd, fd, rw, kvs, kfs, h1, h2, h3, h4, h5⟩
theorem HM.mono (h : HM K ν H a sd fd S) (s : Same H H') : HM K ν H' a sd fd S := by
  obtain ⟨n, w, ne, dx, rw, kvs, kfs, h1, h2, h3, h4, h5⟩ := h
  exact ⟨n, w, ne, dx, rw, kvs, kfs, s _ _ h1, s _ _ h2, h3.mono (hid_same s), s _ _ h4, h5.mono (hid_same s)⟩
theorem HM.st (h : HM K ν H a sd fd S) : HouseS K ν H a S := by
  obtain ⟨n, w, ne, dx, rw, kvs, kfs, h1, h2, h3, h4, h5⟩ := h
  exact ⟨n, w, dx, sd, fd, rw, kvs, kfs, h1, h2, h3.mono hid_sub, h4, h5.mono hid_sub⟩
theorem HM.an (h : HM K ν H a sd fd S) : a ∉ [sd, fd] := by
  obtain ⟨n, w, ne, dx, rw, kvs, kfs, h1, h2, h3, h4, h5⟩ := h
  simp only [List.mem_cons, List.not_mem_nil, or_false, not_or]
  exact ⟨ne_of h1 h2 (by intro z; cases z), ne_of h1 h4 (by intro z; cases z)⟩
end
theorem key_put {S : Hs} {p : Pth} {x : Th} (k : ∀ q ∈ S.L.map (·.1), POk q) (hp : POk p) : ∀ q ∈ (putp S.L p x).map (·.1), POk q := by
  intro q hq
  rw [keys_putp] at hq
  split at hq
  · exact k q hq
  · rcases List.mem_append.mp hq with h | h
    · exact k q h
    · rw [List.mem_singleton.mp h]; exact hp
theorem perm_map {α β : Type} {f : α → β} {ys xs : List β} (h : ys.Perm xs) : ∀ l : List α, xs = l.map f → ∃ l' : List α, l'.Perm l ∧ ys = l'.map f := by
  induction h with
  | nil => exact fun l e => ⟨l, .refl _, by rw [← e]⟩
  | cons x _ ih =>
    intro l e
    cases l with
    | nil => cases e
    | cons y l =>
      rw [List.map_cons] at e
      obtain ⟨l', h1, h2⟩ := ih l (List.cons.inj e).2
      exact ⟨y :: l', h1.cons y, by rw [List.map_cons, h2, (List.cons.inj e).1]⟩
  | swap x y r =>
    intro l e
    match l, e with
    | a :: b :: l, e =>
      rw [List.map_cons, List.map_cons] at e
      obtain ⟨e1, e2⟩ := List.cons.inj e
      obtain ⟨e2, e3⟩ := List.cons.inj e2
      exact ⟨b :: a :: l, .swap a b l, by rw [List.map_cons, List.map_cons, e1, e2, e3]⟩
  | trans _ _ ih1 ih2 =>
    intro l e
    obtain ⟨l2, h1, h2⟩ := ih2 l e
    obtain ⟨l3, h3, h4⟩ := ih1 l2 h2
    exact ⟨l3, h3.trans h1, h4⟩
theorem ord_of {S : Hs} {ps : List Pth} (W : WF S) (h : ps.Perm (S.L.map (·.1))) : Ord S ps :=
  ⟨(h.nodup_iff).mpr W.nd, fun p => by rw [h.mem_iff, lkp_keys]⟩
end K89
set_option Elab.async false
set_option linter.all false
set_option maxRecDepth 100000
set_option maxHeartbeats 4000000
/-! K89.P3: above, the law's above; look_name, look_stamps, are_stamps. -/
namespace K89
open PySem PySem.Spec PyProof.Rows L2
variable {P : Program} {w : World} {K : PySem.W.Frag} {mg : Str → Option Value} {base : Heap}
/-! ### above -/
def spAbove : Sp := fun vs H Q _ => ∃ ν p, Nm ν ∧ POk p ∧ vs = [.str (nm ν p)] ∧ ∀ l H', Same H H' → H l = none → H' l = some (.lst ((abv p).map fun q => .str (nm ν q))) → Q (.ref l) H'
theorem wds_sum {ν : Nat → Str} {p : Pth} (N : Nm ν) (hp : POk p) : ((p.map ν).map (·.length)).sum + (p.map ν).length * Str.length slash ≤ 16777216 := by
  have e := join_len (p.map ν) (by simpa using hp.ne)
  have h := N.len p hp
  have e2 : (p.map ν).map (·.length) = (p.map ν).map fun w => (cds w).length := List.map_congr_left fun w _ => (cds_len w).symm
  rw [e2]
  have : Str.length slash = 1 := rfl
  rw [this, Nat.mul_one]
  omega
theorem cut_take {xs : List V} {k : Nat} (h : k ≤ xs.length) : cutV xs none (some (k : Int)) = xs.take k := by
  unfold cutV
  rw [HT.sIx_none, HT.sIx_nat, Nat.min_eq_left h]
  simp
theorem g_above (T : Txt P K mg) : Dg P w K mg base "above" 1 spAbove := by
  refine T.h_above.mk sc_above (fun _ _ _ _ _ _ us hl => match us, hl with | [_], _ => rfl) (fun vs H Q E h => ?_) (fun f cdv A outer s H vs Q E hr h => ?_)
  · obtain ⟨ν, p, _, _, rfl, _⟩ := h; rfl
  · obtain ⟨ν, p, N, hp, rfl, k⟩ := h
    have hl : (nm ν p).length ≤ 250 := N.len p hp
    refine ⟨_, pss_cons (pset 1 sc_above.nd (pe_split (pv 0) pe_str)) (pss_one (ps_ret
      (pe_lc (own := [("many", 2)]) (g := gName 2) (tt := tYes) rfl sc_above.nd (pi_range2 (by rfl) T.f_range (pa_cons pe_int (pa_cons (pe_callB call_len_seq (by rfl) T.f_len PySem.boot_len (pa_cons (pv 1) pa_nil)) pa_nil))) (blkOk_by (N := N_above) (sc := defScope s_above) (by decide +kernel))
        (fun _ _ _ _ _ => pg_name (i := 2) sc_above.nd rfl (Or.inl rfl)) (fun _ _ _ _ _ => pts_nil) (fun _ _ _ _ _ => pe_joinK K rfl pe_str (pe_slice (r := rSlL K) sl_list (pv 1) po_none (po_some (pv 2))))))), ?_⟩
    refine ⟨_, rfl, ⟨_, rfl⟩, _, _, rfl, rfl, by decide +kernel, by rw [sizeLine_eq]; omega, fun a ha => ?_⟩
    rw [slash_eq, nm_split N hp]
    have hpl := hp.le
    have hpn : 1 ≤ p.length := List.length_pos_iff.mpr hp.ne
    have hlen : ((p.map ν).map V.str).length = p.length := by simp
    refine ⟨_, rfl, _, _, rfl, .inl (SqL.of upd_same), _, _, rfl, ?_, fun D hD => ?_⟩
    · rw [hlen]; omega
    have hDa : D ≠ a := fun z => by rw [z, upd_same] at hD; cases hD
    have hD0 : H D = none := by rw [upd_ne hDa] at hD; exact hD
    have en : ((((p.map ν).map V.str).length : Int) - 1).toNat = p.length - 1 := by rw [hlen]; omega
    rw [en]
    refine lc_pure (L2.walk_range (lo := 1) (n := p.length - 1)) ((abv p).map fun q => V.str (nm ν q)) (by simp [abv]) (sizeB (by omega)) hD (fun _ _ => trivial) (fun i x H2 H' Pz hi s2 y hP => ?_) fun H2 s2 hL2 => ?_
    · obtain ⟨rfl, rfl⟩ := y
      refine ⟨rfl, ⟨_, rfl⟩, _, rfl, _, rfl, _, rfl, _, _, rfl, s2.seq (SqL.of upd_same), fun b hb => ?_⟩
      have ei : (1 : Int) + (i : Nat) = ((i + 1 : Nat) : Int) := by omega
      rw [ei, cut_take (by rw [hlen]; omega), ← List.map_take, ← List.map_take]
      have hq : POk (p.take (i + 1)) := hp.take (by omega)
      refine ⟨_, b, (p.take (i + 1)).map ν, rfl, rfl, .inl (SqL.of upd_same), wds_sum N hq, ?_⟩
      rw [TL.join_eq]
      refine hP _ _ (same_new hb) ?_
      rw [List.getElem?_map]
      unfold abv
      rw [List.getElem?_map, List.getElem?_range (by omega)]
      rfl
    · exact k D H2 (Same.trans (same_new ha) s2) hD0 hL2
theorem g_law_above (T : Txt P K mg) : Dg P w K mg base "_law_above" 1 spAbove := by
  refine T.h_law_above.mk sc_law_above (fun _ _ _ _ _ _ us hl => match us, hl with | [_], _ => rfl) (fun vs H Q E h => ?_) (fun f cdv A outer s H vs Q E hr h => ?_)
  · obtain ⟨ν, p, _, _, rfl, _⟩ := h; rfl
  · obtain ⟨ν, p, N, hp, rfl, k⟩ := h
    have hl : (nm ν p).length ≤ 250 := N.len p hp
    refine ⟨_, pss_cons (pset 1 sc_law_above.nd (pe_split (pv 0) pe_str)) (pss_one (ps_ret
      (pe_lc (own := [("_law_many", 2)]) (g := gName 2) (tt := tYes) rfl sc_law_above.nd (pi_range2 (by rfl) T.f_range (pa_cons pe_int (pa_cons (pe_callB call_len_seq (by rfl) T.f_len PySem.boot_len (pa_cons (pv 1) pa_nil)) pa_nil))) (blkOk_by (N := N_law_above) (sc := defScope s_law_above) (by decide +kernel))
        (fun _ _ _ _ _ => pg_name (i := 2) sc_law_above.nd rfl (Or.inl rfl)) (fun _ _ _ _ _ => pts_nil) (fun _ _ _ _ _ => pe_joinK K rfl pe_str (pe_slice (r := rSlL K) sl_list (pv 1) po_none (po_some (pv 2))))))), ?_⟩
    refine ⟨_, rfl, ⟨_, rfl⟩, _, _, rfl, rfl, by decide +kernel, by rw [sizeLine_eq]; omega, fun a ha => ?_⟩
    rw [slash_eq, nm_split N hp]
    have hpl := hp.le
    have hpn : 1 ≤ p.length := List.length_pos_iff.mpr hp.ne
    have hlen : ((p.map ν).map V.str).length = p.length := by simp
    refine ⟨_, rfl, _, _, rfl, .inl (SqL.of upd_same), _, _, rfl, ?_, fun D hD => ?_⟩
    · rw [hlen]; omega
    have hDa : D ≠ a := fun z => by rw [z, upd_same] at hD; cases hD
    have hD0 : H D = none := by rw [upd_ne hDa] at hD; exact hD
    have en : ((((p.map ν).map V.str).length : Int) - 1).toNat = p.length - 1 := by rw [hlen]; omega
    rw [en]
    refine lc_pure (L2.walk_range (lo := 1) (n := p.length - 1)) ((abv p).map fun q => V.str (nm ν q)) (by simp [abv]) (sizeB (by omega)) hD (fun _ _ => trivial) (fun i x H2 H' Pz hi s2 y hP => ?_) fun H2 s2 hL2 => ?_
    · obtain ⟨rfl, rfl⟩ := y
      refine ⟨rfl, ⟨_, rfl⟩, _, rfl, _, rfl, _, rfl, _, _, rfl, s2.seq (SqL.of upd_same), fun b hb => ?_⟩
      have ei : (1 : Int) + (i : Nat) = ((i + 1 : Nat) : Int) := by omega
      rw [ei, cut_take (by rw [hlen]; omega), ← List.map_take, ← List.map_take]
      have hq : POk (p.take (i + 1)) := hp.take (by omega)
      refine ⟨_, b, (p.take (i + 1)).map ν, rfl, rfl, .inl (SqL.of upd_same), wds_sum N hq, ?_⟩
      rw [TL.join_eq]
      refine hP _ _ (same_new hb) ?_
      rw [List.getElem?_map]
      unfold abv
      rw [List.getElem?_map, List.getElem?_range (by omega)]
      rfl
    · exact k D H2 (Same.trans (same_new ha) s2) hD0 hL2
/-! ### look_name, look_stamps, are_stamps -/
def spLookName : Sp := fun vs H Q _ => ∃ z, vs = [.str z] ∧ NameOk z ∧ ∀ H', Same H H' → Q .non H'
theorem g_look_name (T : Txt P K mg) : Dg P w K mg base "look_name" 2 spLookName := by
  refine T.h_look_name.mk sc_look_name (fun _ _ _ _ _ _ us hl => match us, hl with | [_], _ => rfl) (fun vs H Q E h => ?_) (fun f cdv A outer s H vs Q E hr h => ?_)
  · obtain ⟨z, rfl, _⟩ := h; rfl
  · obtain ⟨z, rfl, hz, k⟩ := h
    refine ⟨_, pss_one (ps_if (pt_not (pt_val (pe_g (g_is_name T) hr (pa_cons (pv 0) pa_nil)))) pss_never pss_nil), ?_⟩
    refine ⟨_, rfl, z, rfl, hz, fun H1 s1 => ⟨_, rfl, iteF (k _ s1)⟩⟩
def spLookStamps : Sp := fun vs H Q _ => ∃ m t : Int, vs = [.int m, .int t] ∧ ModeOk m ∧ TimeOk t ∧ Q .non H
theorem g_look_stamps (T : Txt P K mg) : Dg P w K mg base "look_stamps" 3 spLookStamps := by
  obtain ⟨t1, h1⟩ := T.c_MOST_MODE
  obtain ⟨t2, h2⟩ := T.c_MOST_TIME
  refine T.h_look_stamps.mk sc_look_stamps (fun _ _ _ _ _ _ us hl => match us, hl with | [_, _], _ => rfl) (fun vs H Q E h => ?_) (fun f cdv A outer s H vs Q E hr h => ?_)
  · obtain ⟨m, t, rfl, _⟩ := h; rfl
  · obtain ⟨m, t, rfl, hm, ht, k⟩ := h
    refine ⟨_, pss_cons (ps_if (pt_not (pt_val (pe_g (g_is_within T) hr (pa_cons (pv 0) (pa_cons pe_int (pa_cons (pe_glob (v := .int 4095) (by rfl) h1 ⟨_, rfl⟩) pa_nil)))))) pss_never pss_nil)
      (pss_one (ps_if (pt_not (pt_val (pe_g (g_is_within T) hr (pa_cons (pv 1) (pa_cons pe_int (pa_cons (pe_glob (v := .int 8589934591) (by rfl) h2 ⟨_, rfl⟩) pa_nil)))))) pss_never pss_nil)), ?_⟩
    refine ⟨_, rfl, _, _, _, rfl, _, rfl, ?_⟩
    rw [decide_eq_true (show (0 : Int) ≤ m ∧ m ≤ 4095 from hm)]
    refine iteF ⟨_, rfl, _, _, _, rfl, _, rfl, ?_⟩
    rw [decide_eq_true (show (0 : Int) ≤ t ∧ t ≤ 8589934591 from ht)]
    exact iteF k
def spAreStamps : Sp := fun vs H Q _ => ∃ m t : Int, vs = [.int m, .int t] ∧ ModeOk m ∧ TimeOk t ∧ Q (.bl true) H
theorem g_are_stamps (T : Txt P K mg) : Dg P w K mg base "are_stamps" 3 spAreStamps := by
  obtain ⟨t1, h1⟩ := T.c_MOST_MODE
  obtain ⟨t2, h2⟩ := T.c_MOST_TIME
  refine T.h_are_stamps.mk sc_are_stamps (fun _ _ _ _ _ _ us hl => match us, hl with | [_, _], _ => rfl) (fun vs H Q E h => ?_) (fun f cdv A outer s H vs Q E hr h => ?_)
  · obtain ⟨m, t, rfl, _⟩ := h; rfl
  · obtain ⟨m, t, rfl, hm, ht, k⟩ := h
    refine ⟨_, pss_one (ps_ret (pe_and (pe_g (g_is_within T) hr (pa_cons (pv 0) (pa_cons pe_int (pa_cons (pe_glob (v := .int 4095) (by rfl) h1 ⟨_, rfl⟩) pa_nil))))
      (pe_one (pe_g (g_is_within T) hr (pa_cons (pv 1) (pa_cons pe_int (pa_cons (pe_glob (v := .int 8589934591) (by rfl) h2 ⟨_, rfl⟩) pa_nil))))))), ?_⟩
    refine ⟨_, rfl, _, _, _, rfl, _, rfl, ?_⟩
    rw [decide_eq_true (show (0 : Int) ≤ m ∧ m ≤ 4095 from hm)]
    refine iteT ⟨_, rfl, _, _, _, rfl, ?_⟩
    rw [decide_eq_true (show (0 : Int) ≤ t ∧ t ≤ 8589934591 from ht)]
    exact k
end K89
set_option Elab.async false
set_option linter.all false
set_option maxRecDepth 100000
set_option maxHeartbeats 4000000
/-! K89.P4: methods of House: __init__, has, kind_at, set_thing, share. -/
namespace K89
open PySem PySem.Spec PyProof.Rows L2
variable {P : Program} {w : World} {K : PySem.W.Frag} {mg : Str → Option Value} {base : Heap}
abbrev hC (K : PySem.W.Frag) : Addr := cl K "House"
def spHInit (K : PySem.W.Frag) : Sp := fun vs H Q _ => ∃ a dx, vs = [.ref a] ∧ H a = some (.ins (hC K) dx []) ∧
  ∀ sd fd rw H', H sd = none → H fd = none → H rw = none → sd ≠ fd → Same (hid H [a]) (hid H' [a]) → H' a = some (.ins (hC K) dx (hF sd fd rw)) → H' sd = some (.dK []) → H' fd = some (.dK []) → H' rw = some (.lst []) → Q .non H'
theorem g_House_init (T : Txt P K mg) : Dm P w K mg base (hC K) "__init__" 1 (spHInit K) := by
  refine T.h_House_init.mk sc_House_init (fun _ _ _ _ _ _ us hl => match us, hl with | [_], _ => rfl) (fun vs H Q E h => ?_) (fun f cdv A outer s H vs Q E hr h => ?_)
  · obtain ⟨a, dx, rfl, _⟩ := h; rfl
  · obtain ⟨a, dx, rfl, ha, k⟩ := h
    refine ⟨_, pss_cons (ps_fld (pv 0) pe_dnewK (by rfl)) (pss_cons (ps_fld (pv 0) pe_dnewK (by rfl)) (pss_one (ps_fld (pv 0) (pe_lst pa_nil) (by rfl)))), ?_⟩
    intro sd hsd
    have n1 := ne_of_none ha hsd
    refine ⟨_, rfl, a, hC K, dx, [], rfl, by rw [upd_ne n1]; exact ha, T.c_House, T.na_House _ (by decide), by decide, ?_⟩
    intro fd hfd
    have n2 : a ≠ fd := fun z => by rw [← z, upd_same] at hfd; cases hfd
    rw [upd_ne n2.symm] at hfd
    have n3 : sd ≠ fd := fun z => by rw [← z, upd_same] at hfd; cases hfd
    rw [upd_ne n3.symm] at hfd
    refine ⟨_, rfl, a, hC K, dx, _, rfl, by rw [upd_ne n2, upd_same], T.c_House, T.na_House _ (by decide), Nat.lt_of_lt_of_le (Nat.lt_succ_self 1) (by decide), ?_⟩
    refine ⟨by decide, fun rw hrw => ?_⟩
    have n4 : a ≠ rw := fun z => by rw [← z, upd_same] at hrw; cases hrw
    rw [upd_ne n4.symm] at hrw
    have n5 : fd ≠ rw := fun z => by rw [← z, upd_same] at hrw; cases hrw
    rw [upd_ne n5.symm, upd_ne n4.symm] at hrw
    have n6 : sd ≠ rw := fun z => by rw [← z, upd_same] at hrw; cases hrw
    rw [upd_ne n6.symm] at hrw
    refine ⟨_, rfl, a, hC K, dx, _, rfl, by rw [upd_ne n4, upd_same], T.c_House, T.na_House _ (by decide), Nat.lt_of_lt_of_le (Nat.lt_succ_self 2) (by decide), ?_⟩
    refine k sd fd rw _ hsd hfd hrw n3 (fun b o hb => ?_) upd_same ?_ ?_ ?_
    · obtain ⟨h1, h2⟩ := hid_some hb
      refine hid_at ?_ h2
      have hba : b ≠ a := fun z => h2 (by rw [z]; exact List.mem_singleton.mpr rfl)
      rw [upd_ne hba, upd_ne (ne_of_none h1 hrw), upd_ne hba, upd_ne (ne_of_none h1 hfd), upd_ne hba, upd_ne (ne_of_none h1 hsd)]
      exact h1
    · rw [upd_ne n1.symm, upd_ne n6, upd_ne n1.symm, upd_ne n3, upd_ne n1.symm, upd_same]
    · rw [upd_ne n2.symm, upd_ne n5, upd_ne n2.symm, upd_same]
    · rw [upd_ne n4.symm, upd_same]
theorem room1 {k : Nat} {A : Around} (h : Room k A) : A.units + 1 < cLine := by have := h.un; omega
theorem atI0 {x : V} {r : List V} : atI (x :: r) 0 = some x := by unfold atI ixN; simp
theorem noSl_name {x : Str} {p : Pos} : NoSl (.Name x p) := fun _ _ => rfl
/-! ### has, kind_at -/
def spHas (K : PySem.W.Frag) : Sp := fun vs H Q _ => ∃ ν a S p, HouseS K ν H a S ∧ POk p ∧ vs = [.ref a, .str (nm ν p)] ∧ Q (.bl (lkp S.L p).isSome) H
theorem DGet.of {H : Hp} {d : Addr} {kvs : List (Key × V)} {k : Key} {v : V} {o : Option V} (e : H d = some (.dK kvs)) (hv : v = kV k) (ho : valV kvs k = o) : DGet H d v o := by
  subst hv ho
  exact L2.DGet.k e
theorem StandAt.isSome {ν : Nat → Str} {H : Hp} {kvs : List (Key × V)} {L : AL} {p : Pth} (N : Nm ν) (hp : POk p) (h : StandAt K ν H kvs L) (hk : ∀ q ∈ L.map (·.1), POk q) : (valV kvs (.inr (nm ν p))).isSome = (lkp L p).isSome := by
  have hv := h.val N hp hk
  cases e : lkp L p with
  | none => rw [hv.1 e]; rfl
  | some x => obtain ⟨q, e1, _⟩ := hv.2 x e; rw [e1]; rfl
theorem g_House_has (T : Txt P K mg) : Dm P w K mg base (hC K) "has" 1 (spHas K) := by
  refine T.h_House_has.mk sc_House_has (fun _ _ _ _ _ _ us hl => match us, hl with | [_, _], _ => rfl) (fun vs H Q E h => ?_) (fun f cdv A outer s H vs Q E hr h => ?_)
  · obtain ⟨ν, a, S, p, _, _, rfl, _⟩ := h; rfl
  · obtain ⟨ν, a, S, p, hS, hp, rfl, k⟩ := h
    obtain ⟨N, key, dx, sd, fd, rw, kvs, kfs, h1, h2, h3, h4, h5⟩ := hS
    refine ⟨_, pss_one (ps_ret (pe_and (pe_callB call_isi (by rfl) T.f_isinstance (by decide +kernel) (pa_cons (pv 1) (pa_cons (pe_bltn (v := .ty "str") (by rfl) T.f_str (by decide +kernel) rfl) pa_nil)))
      (pe_one (pe_cmp (pc_din (room1 hr) (pv 1) (pe_fld (pv 0) (by rfl))))))), ?_⟩
    refine ⟨_, rfl, _, _, _, _, _, rfl, .ty _, .base (.str _), kit_ty (r := true) (by decide +kernel), _, rfl, iteT ?_⟩
    refine ⟨_, rfl, _, rfl, _, _, _, _, _, rfl, h1, T.c_House, T.na_House _ (by decide), rfl, _, _, rfl, DGet.of h2 (k := .inr _) rfl rfl, ?_⟩
    rw [h3.isSome N hp key]
    exact k
def spKindAt (K : PySem.W.Frag) : Sp := fun vs H Q _ => ∃ ν a S p, HouseS K ν H a S ∧ POk p ∧ vs = [.ref a, .str (nm ν p)] ∧ Q (.str (kdS (kd (lkp S.L p)))) H
theorem g_House_kind_at (T : Txt P K mg) : Dm P w K mg base (hC K) "kind_at" 2 (spKindAt K) := by
  refine T.h_House_kind_at.mk sc_House_kind_at (fun _ _ _ _ _ _ us hl => match us, hl with | [_, _], _ => rfl) (fun vs H Q E h => ?_) (fun f cdv A outer s H vs Q E hr h => ?_)
  · obtain ⟨ν, a, S, p, _, _, rfl, _⟩ := h; rfl
  · obtain ⟨ν, a, S, p, hS, hp, rfl, k⟩ := h
    obtain ⟨N, key, dx, sd, fd, rw, kvs, kfs, h1, h2, h3, h4, h5⟩ := id hS
    refine ⟨_, pss_one (ps_ret (pe_ifExp (pt_val (pe_m (pv 0) T.c_House (g_House_has T) hr (pa_cons (pv 1) pa_nil)))
      (pe_ix (r := rIx K) ix_seq (pe_dget (room1 hr) (pe_fld (pv 0) (by rfl)) (pv 1) noSl_name) pe_int (fun _ _ => rfl)) pe_str)), ?_⟩
    refine ⟨_, rfl, _, _, _, rfl, h1, rfl, _, rfl, ν, a, S, p, hS, hp, rfl, _, rfl, ?_⟩
    have hv := h3.val N hp key
    cases e : lkp S.L p with
    | none =>
      rw [e] at k
      exact iteF k
    | some x =>
      rw [e] at k
      obtain ⟨q, e1, e2⟩ := hv.2 x e
      obtain ⟨r, er⟩ := thV_hd x
      refine iteT ⟨_, rfl, _, _, _, _, _, rfl, h1, T.c_House, T.na_House _ (by decide), rfl, _, rfl, _, _, rfl, DGet.of h2 (k := .inr _) rfl e1, .inr (.inl ⟨_, _, _, _, rfl, rfl, e2, ?_, k⟩)⟩
      rw [er]
      exact atI0
end K89
set_option Elab.async false
set_option linter.all false
set_option maxRecDepth 100000
set_option maxHeartbeats 4000000
/-! K89.P5: set_thing, share. -/
namespace K89
open PySem PySem.Spec PyProof.Rows L2
variable {P : Program} {w : World} {K : PySem.W.Frag} {mg : Str → Option Value} {base : Heap}
theorem HM.putS {ν : Nat → Str} {H : Hp} {a sd fd q : Addr} {S : Hs} {p : Pth} {x : Th} (h : HM K ν H a sd fd S) (hp : POk p) (hq : SqT K (hid H [sd, fd]) q (thV x)) :
    ∃ kvs, H sd = some (.dK kvs) ∧ kvs.length = S.L.length ∧ HM K ν (upd H sd (.dK (putK kvs (.inr (nm ν p)) (.ref q)))) a sd fd ⟨putp S.L p x, S.F⟩ := by
  have an := h.an
  obtain ⟨N, key, ne, dx, rw, kvs, kfs, h1, h2, h3, h4, h5⟩ := h
  have nas : a ≠ sd := fun z => an (by simp [z])
  have e : hid (upd H sd (.dK (putK kvs (.inr (nm ν p)) (.ref q)))) [sd, fd] = hid H [sd, fd] := hid_upd (by simp)
  exact ⟨kvs, h2, h3.length, N, key_put key hp, ne, dx, rw, _, kfs, by rw [upd_ne nas]; exact h1, upd_same, by rw [e]; exact h3.put N hp key hq, by rw [upd_ne ne.symm]; exact h4, by rw [e]; exact h5⟩
theorem HM.putFl {ν : Nat → Str} {H : Hp} {a sd fd q : Addr} {S : Hs} {f : FD} (h : HM K ν H a sd fd S) (hq : SqT K (hid H [sd, fd]) q (fdV f)) :
    ∃ kfs, H fd = some (.dK kfs) ∧ kfs.length = S.F.length ∧ HM K ν (upd H fd (.dK (putK kfs (.inl (S.F.length : Int)) (.ref q)))) a sd fd ⟨S.L, S.F ++ [f]⟩ := by
  have an := h.an
  obtain ⟨N, key, ne, dx, rw, kvs, kfs, h1, h2, h3, h4, h5⟩ := h
  have nas : a ≠ fd := fun z => an (by simp [z])
  have e : hid (upd H fd (.dK (putK kfs (.inl (S.F.length : Int)) (.ref q)))) [sd, fd] = hid H [sd, fd] := hid_upd (by simp)
  exact ⟨kfs, h4, h5.1, N, key, ne, dx, rw, kvs, _, by rw [upd_ne nas]; exact h1, by rw [upd_ne ne]; exact h2, by rw [e]; exact h3, upd_same, by rw [e]; exact h5.push hq⟩
theorem kd_nofile {x : Th} (h : ∀ n, x ≠ .file n) : ¬ kd (some x) = .file := fun z => by
  cases x with
  | file n => exact h n rfl
  | dir _ _ => cases z
  | sym _ _ _ => cases z
/-- what a thing given to set_thing does to a state -/
inductive SetTo (K : PySem.W.Frag) (G : Hp) (S : Hs) (p : Pth) (q : Addr) : Hs → Prop where
  | th {x : Th} (hx : ∀ n, x ≠ .file n) (h : SqT K G q (thV x)) : SetTo K G S p q ⟨putp S.L p x, S.F⟩
  | file {f : FD} (h : SqT K G q (fdV f)) : SetTo K G S p q ⟨putp S.L p (.file S.F.length), S.F ++ [f]⟩
def spSetThing (K : PySem.W.Frag) : Sp := fun vs H Q _ => ∃ ν a sd fd S S' p q, HM K ν H a sd fd S ∧ POk p ∧ SetTo K (hid H [sd, fd]) S p q S' ∧ S.L.length ≤ 1000 ∧ S.F.length ≤ 1000 ∧ vs = [.ref a, .str (nm ν p), .ref q] ∧
  ∀ H', Same (hid H [sd, fd]) (hid H' [sd, fd]) → HM K ν H' a sd fd S' → Q .non H'
theorem g_House_set_thing (T : Txt P K mg) : Dm P w K mg base (hC K) "set_thing" 1 (spSetThing K) := by
  refine T.h_House_set_thing.mk sc_House_set_thing (fun _ _ _ _ _ _ us hl => match us, hl with | [_, _, _], _ => rfl) (fun vs H Q E h => ?_) (fun f cdv A outer s H vs Q E hr h => ?_)
  · obtain ⟨ν, a, sd, fd, S, S', p, q, _, _, _, _, _, rfl, _⟩ := h; rfl
  · obtain ⟨ν, a, sd, fd, S, S', p, q, hM, hp, ht, z1, z2, rfl, k⟩ := h
    refine ⟨_, pss_cons (ps_if (pt_cmpR op_eq (pe_ix ix_seq (pv 2) pe_int (fun _ _ => rfl)) pe_str rfl)
        (pss_cons (ps_dput (room1 hr) (pe_fld (pv 0) (by rfl)) (pe_callB call_lenD (by rfl) T.f_len PySem.boot_len (pa_cons (pe_fld (pv 0) (by rfl)) pa_nil)) (pv 2) rfl)
          (pss_one (pset 2 sc_House_set_thing.nd (pe_tup (pa_cons pe_str (pa_cons (pe_sub (pe_callB call_lenD (by rfl) T.f_len PySem.boot_len (pa_cons (pe_fld (pv 0) (by rfl)) pa_nil)) pe_int) pa_nil)))))) pss_nil)
      (pss_one (ps_dput (room1 hr) (pe_fld (pv 0) (by rfl)) (pv 1) (pv 2) rfl)), ?_⟩
    have last : ∀ (S : Hs) (q : Addr) (x : Th) (H1 : Hp), HM K ν H1 a sd fd S → SqT K (hid H1 [sd, fd]) q (thV x) → Same (hid H [sd, fd]) (hid H1 [sd, fd]) → S.L.length ≤ 1000 →
        (∀ H', Same (hid H [sd, fd]) (hid H' [sd, fd]) → HM K ν H' a sd fd ⟨putp S.L p x, S.F⟩ → Q .non H') →
        sDPut (tFld K (tVar 0) "standing") (tVar 1) (tVar 2) { nx := fun _ H' => Q .non H', rt := Q } ((L2.start N_House_set_thing [.ref a, .str (nm ν p), .ref q])) H1 := by
      intro S q x H1 hM hq s1 z k
      obtain ⟨kvs, e1, el, hM'⟩ := hM.putS hp hq
      obtain ⟨N, key, ne, dx, rw, kvs', kfs, h1, h2, h3, h4, h5⟩ := hM
      refine ⟨_, rfl, _, rfl, _, _, _, _, _, rfl, h1, T.c_House, T.na_House _ (by decide), rfl, _, rfl, _, _, rfl, .inl ⟨kvs, .inr _, e1, rfl, by rw [el, sizeLine_eq]; omega, rfl⟩, ?_⟩
      exact k _ (s1.trans (by rw [hid_upd (by simp)]; exact Same.refl _)) hM'
    cases ht with
    | @th x hx h =>
      obtain ⟨r, er⟩ := thV_hd x
      refine ⟨_, rfl, .inr (.inl ⟨_, _, _, _, rfl, rfl, hid_sub.tup h, (by rw [er]; exact atI0), rfl, _, rfl, ?_⟩)⟩
      have e : decide (V.str (kdS (kd (some x))) = V.str (Str.ofString "file")) = false := decide_eq_false fun z => kd_nofile hx (kdS_eq.mp (V.str.inj z))
      rw [e]
      exact iteF (last S q x H hM h (Same.refl _) z1 k)
    | @file f h =>
      refine ⟨_, rfl, .inr (.inl ⟨_, _, _, _, rfl, rfl, hid_sub.tup h, atI0, rfl, _, rfl, ?_⟩)⟩
      rw [decide_eq_true rfl]
      refine iteT ?_
      obtain ⟨kfs', e1, el, hM'⟩ := hM.putFl h
      obtain ⟨N, key, ne, dx, rw, kvs, kfs, h1, h2, h3, h4, h5⟩ := hM
      obtain ⟨N, key', ne, dx', rw', kvs', kfs2, g1, g2, g3, g4, g5⟩ := id hM'
      refine ⟨_, rfl, _, rfl, _, _, _, _, _, rfl, h1, T.c_House, T.na_House _ (by decide), rfl, _, rfl, _, _, _, _, _, rfl, h1, T.c_House, T.na_House _ (by decide), rfl, _, _, rfl, e1, _, _, rfl, .inl ⟨kfs', .inl (kfs'.length : Int), e1, rfl, by rw [el, sizeLine_eq]; omega, rfl⟩, ?_⟩
      rw [el]
      refine ⟨_, rfl, _, _, _, _, _, rfl, g1, T.c_House, T.na_House _ (by decide), rfl, _, _, rfl, g4, _, _, rfl, rfl, sizeB' (Nat.le_of_ble_eq_true rfl), fun b hb => ?_⟩
      have eF : (kfs2.length : Int) - 1 = S.F.length := by
        have := g5.1
        simp only [List.length_append, List.length_singleton] at this
        omega
      rw [eF]
      refine last ⟨S.L, S.F ++ [f]⟩ b (.file S.F.length) _ (hM'.mono (same_new hb)) (.inl (.inl ?_)) ?_ z1 k
      · refine hid_at upd_same ?_
        simp only [List.mem_cons, List.not_mem_nil, or_false, not_or]
        exact ⟨(ne_of_none g2 hb).symm, (ne_of_none g4 hb).symm⟩
      · refine Same.trans ?_ (hid_new hb)
        rw [hid_upd (by simp)]
        exact Same.refl _
/-! ### share -/
def spShare (K : PySem.W.Frag) : Sp := fun vs H Q _ => ∃ ν a sd fd S p t x, HM K ν H a sd fd S ∧ POk p ∧ POk t ∧ lkp S.L t = some x ∧ S.L.length ≤ 1000 ∧ vs = [.ref a, .str (nm ν p), .str (nm ν t)] ∧
  ∀ H', Same (hid H [sd, fd]) (hid H' [sd, fd]) → HM K ν H' a sd fd ⟨putp S.L p x, S.F⟩ → Q .non H'
theorem g_House_share (T : Txt P K mg) : Dm P w K mg base (hC K) "share" 1 (spShare K) := by
  refine T.h_House_share.mk sc_House_share (fun _ _ _ _ _ _ us hl => match us, hl with | [_, _, _], _ => rfl) (fun vs H Q E h => ?_) (fun f cdv A outer s H vs Q E hr h => ?_)
  · obtain ⟨ν, a, sd, fd, S, p, t, x, _, _, _, _, _, rfl, _⟩ := h; rfl
  · obtain ⟨ν, a, sd, fd, S, p, t, x, hM, hp, htk, ht, z1, rfl, k⟩ := h
    refine ⟨_, pss_one (ps_dput (room1 hr) (pe_fld (pv 0) (by rfl)) (pv 1) (pe_dget (room1 hr) (pe_fld (pv 0) (by rfl)) (pv 2) noSl_name) rfl), ?_⟩
    obtain ⟨N, key, ne, dx, rw, kvs, kfs, h1, h2, h3, h4, h5⟩ := id hM
    obtain ⟨q, e1, e2⟩ := (h3.val N htk key).2 x ht
    obtain ⟨kvs', g1, gl, hM'⟩ := hM.putS hp e2
    refine ⟨_, rfl, _, _, _, _, _, rfl, h1, T.c_House, T.na_House _ (by decide), rfl, _, rfl, _, _, rfl, DGet.of h2 (k := .inr _) rfl e1, ?_⟩
    refine ⟨_, rfl, _, _, _, _, _, rfl, h1, T.c_House, T.na_House _ (by decide), rfl, _, rfl, _, _, rfl, .inl ⟨kvs', .inr _, g1, rfl, by rw [gl, sizeLine_eq]; omega, rfl⟩, ?_⟩
    exact k _ (by rw [hid_upd (by simp)]; exact Same.refl _) hM'
end K89
set_option Elab.async false
set_option linter.all false
set_option maxRecDepth 100000
set_option maxHeartbeats 4000000
/-! K89.P6: settle. -/
namespace K89
open PySem PySem.Spec PyProof.Rows L2
variable {P : Program} {w : World} {K : PySem.W.Frag} {mg : Str → Option Value} {base : Heap}
theorem dec_kd (k c : Kd) : decide (V.str (kdS k) = V.str (kdS c)) = decide (k = c) := by
  by_cases h : k = c
  · rw [decide_eq_true h, decide_eq_true (by rw [h])]
  · rw [decide_eq_false h, decide_eq_false fun z => h (kdS_eq.mp (V.str.inj z))]
theorem dec_file (k : Kd) : decide (V.str (kdS k) = V.str (Str.ofString "file")) = decide (k = .file) := dec_kd k .file
theorem take_get {α : Type} {l : List α} {i : Nat} (h : i < l.length) : l.take (i + 1) = l.take i ++ [l[i]] := by
  rw [List.take_add_one, List.getElem?_eq_getElem h]; rfl
def RowP (K : PySem.W.Frag) (ν : Nat → Str) (G : Hp) : V → Pth → Prop := fun v p => ∃ q x, v = V.ref q ∧ SqT K G q [.str (nm ν p), x]
theorem RowP.mono {ν : Nat → Str} {G G' : Hp} (s : Same G G') {rows : List V} {ps : List Pth} (h : Paired (RowP K ν G) rows ps) : Paired (RowP K ν G') rows ps := Paired.mapP h fun v p ⟨q, x, e, z⟩ => ⟨q, x, e, s.tup z⟩
def spSettle (K : PySem.W.Frag) : Sp := fun vs H Q _ => ∃ ν a S dx sd fd rw kvs kfs, Nm ν ∧ WF S ∧ S.L.length ≤ 1000 ∧ H a = some (.ins (hC K) dx (hF sd fd rw)) ∧ H sd = some (.dK kvs) ∧ StandAt K ν H kvs S.L ∧ H fd = some (.dK kfs) ∧ FilesAt K H kfs S.F ∧ vs = [.ref a] ∧
  ∀ rw' H', H rw' = none → Same (hid H [a]) (hid H' [a]) → H' a = some (.ins (hC K) dx (hF sd fd rw')) → RowsAt K ν (hid H' [a]) rw' S → Q .non H'
theorem g_House_settle (T : Txt P K mg) : Dm P w K mg base (hC K) "settle" 1 (spSettle K) := by
  refine T.h_House_settle.mk sc_House_settle (fun _ _ _ _ _ _ us hl => match us, hl with | [_], _ => rfl) (fun vs H Q E h => ?_) (fun f cdv A outer s H vs Q E hr h => ?_)
  · obtain ⟨ν, a, S, dx, sd, fd, rw, kvs, kfs, _, _, _, _, _, _, _, _, rfl, _⟩ := h; rfl
  · obtain ⟨ν, a, S, dx, sd, fd, rw, kvs, kfs, N, W, z1, h1, h2, h3, h4, h5, rfl, k⟩ := h
    refine ⟨_, pss_cons (ps_par (i := 1) (j := 2) rfl sc_House_settle.nd rfl rfl (by decide) rfl rfl (pa_cons (pe_lst pa_nil) (pa_cons pe_dnewK pa_nil)) rfl)
      (pss_cons (ps_for PassesOwn.never rfl (pi_list (pe_callB (call_sortedDA rfl) (by rfl) T.f_sorted (by decide +kernel) (pa_cons (pe_fld (pv 0) (by rfl)) pa_nil))) (pg_name (i := 3) sc_House_settle.nd rfl (Or.inl rfl))
        (pss_cons (pset 4 sc_House_settle.nd (pe_dget (room1 hr) (pe_fld (pv 0) (by rfl)) (pv 3) noSl_name))
          (pss_one (ps_if (pt_cmpR op_ne (pe_ix ix_seq (pv 4) pe_int (fun _ _ => rfl)) pe_str rfl)
            (pss_one (papp (pv 1) (pe_tup (pa_cons (pv 3) (pa_cons (pv 4) pa_nil)))))
            (pss_one (ps_if (pt_cmp (pc_din (room1 hr) (pe_ix ix_seq (pv 4) pe_int (fun _ _ => rfl)) (pv 2)))
              (pss_one (papp (pv 1) (pe_tup (pa_cons (pv 3) (pa_cons (pe_tup (pa_cons pe_str (pa_cons (pe_dget (room1 hr) (pv 2) (pe_ix ix_seq (pv 4) pe_int (fun _ _ => rfl)) (fun _ _ => rfl)) pa_nil))) pa_nil)))))
              (pss_cons (ps_dput (room1 hr) (pv 2) (pe_ix ix_seq (pv 4) pe_int (fun _ _ => rfl)) (pv 3) rfl)
                (pss_one (papp (pv 1) (pe_tup (pa_cons (pv 3) (pa_cons (pe_dget (room1 hr) (pe_fld (pv 0) (by rfl)) (pe_ix ix_seq (pv 4) pe_int (fun _ _ => rfl)) (fun _ _ => rfl)) pa_nil))))))))))))
        (pss_one (ps_fld (pv 0) (pv 1) (by rfl)))), ?_⟩
    have key := W.key
    refine ⟨sizeB' (Nat.le_of_ble_eq_true rfl), fun fA hfA dA hdA => ?_⟩
    have nfd : fA ≠ dA := ne_of_none upd_same hdA
    rw [upd_ne nfd.symm] at hdA
    have naf := ne_of_none h1 hfA
    have nad := ne_of_none h1 hdA
    refine ⟨_, _, rfl, ?_⟩
    have sA : Same H (upd (upd H fA (.lst [])) dA (.dK [])) := Same.trans (same_new hfA) (same_new (by rw [upd_ne nfd.symm]; exact hdA))
    refine ⟨_, rfl, _, _, _, _, _, rfl, sA _ _ h1, T.c_House, T.na_House _ (by decide), rfl, _, kvs, _, rfl, .inl (sA _ _ h2), h3.keys, fun ys sl hp hsrt hsl => ?_⟩
    obtain ⟨ps, hps, rfl⟩ := perm_map (f := nm ν) hp (S.L.map (·.1)) (by rw [List.map_map]; rfl)
    have hO := ord_of W hps
    have hpl : ps.length = S.L.length := by rw [hps.length_eq, List.length_map]
    have hpk : ∀ p ∈ ps, POk p := fun p hp => key p (hps.mem_iff.mp hp)
    have nsf : sl ≠ fA := fun z => by rw [z, upd_ne nfd, upd_same] at hsl; cases hsl
    have nsd : sl ≠ dA := fun z => by rw [z, upd_same] at hsl; cases hsl
    have hsl0 : H sl = none := by rw [upd_ne nsd, upd_ne nsf] at hsl; exact hsl
    refine ⟨_, rfl, ⟨_, SqL.of upd_same⟩, ?_⟩
    refine for_it (L2.walk_list (K := K) (a := sl) (xs := (ps.map (nm ν)).map V.str))
      (fun i σ H' => ∃ u v rows first, σ = [some (.ref a), some (.ref fA), some (.ref dA), u, v] ∧ Same (upd H sl (.lst ((ps.map (nm ν)).map V.str))) (hid H' [fA, dA]) ∧ H' fA = some (.lst rows) ∧ H' dA = some (.dK first) ∧
        Paired (RowP K ν (hid H' [fA, dA])) rows (ps.take i) ∧ rows.length = i ∧ first.length ≤ i ∧ ∀ k v, valV first k = some v → ∃ z, v = .str z) ?_ ?_ ?_ ?_
    · refine ⟨_, _, [], [], rfl, hid_in ?_ ?_, by rw [upd_ne nsf.symm, upd_ne nfd, upd_same], by rw [upd_ne nsd.symm, upd_same], .nil, rfl, Nat.le_refl _, fun k v e => by cases e⟩
      · intro b o hb
        by_cases hbs : b = sl
        · rw [hbs, upd_same] at hb ⊢; exact hb
        · rw [upd_ne hbs] at hb ⊢; exact sA _ _ hb
      · intro b hb
        simp only [List.mem_cons, List.not_mem_nil, or_false] at hb
        rcases hb with rfl | rfl
        · rw [upd_ne nsf.symm]; exact hfA
        · rw [upd_ne nsd.symm]; exact hdA
    · rintro i σ H' hi ⟨u, v, rows, first, rfl, s1, _⟩
      exact SqL.of (hid_sub _ _ (s1 _ _ upd_same))
    · rintro i x σ H' H'' hi ⟨u, v, rows, first, rfl, s1, e1, e2, e3, e4, e5, e6⟩ ⟨rfl, hx⟩
      simp only [List.length_map] at hi
      have hx : x = .str (nm ν ps[i]) := by
        rw [List.getElem?_map, List.getElem?_map, List.getElem?_eq_getElem hi] at hx
        exact (Option.some.inj hx).symm
      subst hx
      have hpi : ps[i] ∈ ps := List.getElem_mem hi
      have pk := hpk _ hpi
      have s2 : Same H H'' := Same.trans (same_new hsl0) (s1.trans hid_sub)
      obtain ⟨x, hx⟩ := Option.isSome_iff_exists.mp ((hO.mem _).mp hpi)
      obtain ⟨q, g1, g2⟩ := (h3.val N pk key).2 x hx
      refine ⟨_, rfl, _, _, _, _, _, rfl, s2 _ _ h1, T.c_House, T.na_House _ (by decide), rfl, _, rfl, _, _, rfl, DGet.of (s2 _ _ h2) (k := .inr _) rfl g1, ?_⟩
      obtain ⟨r, er⟩ := thV_hd x
      refine ⟨_, rfl, .inr (.inl ⟨_, _, _, _, rfl, rfl, s2.tup g2, (by rw [er]; exact atI0), rfl, _, rfl, ?_⟩)⟩
      have hrl : rows.length < sizeLine := by rw [sizeLine_eq]; omega
      have fin : ∀ (b y : _) (first' : List (Key × V)) (H3 : Hp), Same (hid H'' [fA, dA]) (hid H3 [fA, dA]) → H3 b = none → H3 fA = some (.lst rows) → H3 dA = some (.dK first') → first'.length ≤ i + 1 → (∀ k v, valV first' k = some v → ∃ z, v = .str z) →
          ∃ u v rows' first'', ([some (.ref a), some (.ref fA), some (.ref dA), some (V.str (nm ν ps[i])), some (.ref q)] : L2.St) = [some (.ref a), some (.ref fA), some (.ref dA), u, v] ∧ Same (upd H sl (.lst ((ps.map (nm ν)).map V.str))) (hid (upd (upd H3 b (.tup [.str (nm ν ps[i]), y])) fA (.lst (rows ++ [.ref b]))) [fA, dA]) ∧ upd (upd H3 b (.tup [.str (nm ν ps[i]), y])) fA (.lst (rows ++ [.ref b])) fA = some (.lst rows') ∧
            upd (upd H3 b (.tup [.str (nm ν ps[i]), y])) fA (.lst (rows ++ [.ref b])) dA = some (.dK first'') ∧ Paired (RowP K ν (hid (upd (upd H3 b (.tup [.str (nm ν ps[i]), y])) fA (.lst (rows ++ [.ref b]))) [fA, dA])) rows' (ps.take (i + 1)) ∧ rows'.length = i + 1 ∧ first''.length ≤ i + 1 ∧ ∀ k v, valV first'' k = some v → ∃ z, v = .str z := by
        intro b y first' H3 s3 hb f1 f2 f3 f4
        have nbf := ne_of_none f1 hb
        have nbd := ne_of_none f2 hb
        have eh : hid (upd (upd H3 b (.tup [.str (nm ν ps[i]), y])) fA (.lst (rows ++ [.ref b]))) [fA, dA] = hid (upd H3 b (.tup [.str (nm ν ps[i]), y])) [fA, dA] := hid_upd (by simp)
        refine ⟨_, _, _, first', rfl, ?_, upd_same, ?_, ?_, ?_, f3, f4⟩
        · rw [eh]; exact (s1.trans s3).trans (hid_new hb)
        · rw [upd_ne nfd.symm, upd_ne nbd]; exact f2
        · rw [eh, take_get hi]
          refine (RowP.mono (s3.trans (hid_new hb)) e3).snoc ⟨b, y, rfl, SqT.of (hid_at upd_same ?_)⟩
          simp only [List.mem_cons, List.not_mem_nil, or_false, not_or]
          exact ⟨nbf.symm, nbd.symm⟩
        · rw [List.length_append, e4]; rfl
      by_cases hk : kd (some x) = .file
      · obtain ⟨n, hn⟩ : ∃ n, x = .file n := by
          cases x with
          | file n => exact ⟨n, rfl⟩
          | dir _ _ => cases hk
          | sym _ _ _ => cases hk
        subst hn
        rw [show (!decide (V.str (kdS (kd (some (Th.file n)))) = V.str (Str.ofString "file"))) = false from by rw [dec_file, decide_eq_true hk]; rfl]
        refine iteF ?_
        have q2 : SqT K H'' q [.str "file", .int n] := s2.tup g2
        refine ⟨_, rfl, .inr (.inl ⟨_, _, _, _, rfl, rfl, q2, rfl, _, rfl, _, _, rfl, DGet.of e2 (k := .inl (n : Int)) rfl rfl, ?_⟩)⟩
        cases ef : valV first (.inl (n : Int)) with
        | some v =>
          refine ⟨_, rfl, iteT ?_⟩
          refine ⟨_, rfl, .inl ⟨rfl, _, SqL.of e1⟩, _, rfl, _, rfl, _, rfl, .inr (.inl ⟨_, _, _, _, rfl, rfl, q2, rfl, _, _, rfl, DGet.of e2 (k := .inl (n : Int)) rfl ef, sizeB' (Nat.le_of_ble_eq_true rfl), fun b hb => ⟨sizeB' (Nat.le_of_ble_eq_true rfl), fun b2 hb2 => ⟨_, _, _, rfl, rfl, ?_, hrl, ?_⟩⟩⟩)⟩
          · rw [upd_ne (ne_of_none (show upd H'' b _ fA = _ by rw [upd_ne (ne_of_none e1 hb)]; exact e1) hb2), upd_ne (ne_of_none e1 hb)]; exact e1
          · exact fin b2 (.ref b) first _ (hid_new hb) hb2 (by rw [upd_ne (ne_of_none e1 hb)]; exact e1) (by rw [upd_ne (ne_of_none e2 hb)]; exact e2) (by omega) e6
        | none =>
          refine ⟨_, rfl, iteF ?_⟩
          have hn := W.th _ _ hx
          have hn : n < S.F.length := hn
          obtain ⟨q3, j1, j2⟩ := h5.get (List.getElem?_eq_getElem hn)
          refine ⟨_, rfl, _, rfl, _, rfl, .inr (.inl ⟨_, _, _, _, rfl, rfl, q2, rfl, _, _, rfl, .inl ⟨first, .inl (n : Int), e2, rfl, by rw [sizeLine_eq]; omega, rfl⟩, ?_⟩)⟩
          have nfdA : fA ∈ [fA, dA] := by simp
          have s5 : Same H (upd H'' dA (.dK (putK first (.inl (n : Int)) (.str (nm ν ps[i]))))) := fun b o hb => by
            rw [upd_ne (ne_of_none hb hdA)]; exact s2 _ _ hb
          have e1' : upd H'' dA (.dK (putK first (.inl (n : Int)) (.str (nm ν ps[i])))) fA = some (.lst rows) := by rw [upd_ne nfd]; exact e1
          have eH : hid (upd H'' dA (.dK (putK first (.inl (n : Int)) (.str (nm ν ps[i]))))) [fA, dA] = hid H'' [fA, dA] := hid_upd (by simp)
          refine ⟨_, rfl, .inl ⟨rfl, _, SqL.of e1'⟩, _, rfl, _, rfl, _, _, _, _, _, rfl, s5 _ _ h1, T.c_House, T.na_House _ (by decide), rfl, _, rfl, .inr (.inl ⟨_, _, _, _, rfl, rfl, s5.tup g2, rfl, _, _, rfl, DGet.of (s5 _ _ h4) (k := .inl (n : Int)) rfl j1, sizeB' (Nat.le_of_ble_eq_true rfl), fun b hb => ⟨_, _, _, rfl, rfl, ?_, hrl, ?_⟩⟩)⟩
          · rw [upd_ne (ne_of_none e1' hb)]; exact e1'
          · refine fin b (.ref q3) _ _ (by rw [eH]; exact Same.refl _) hb e1' upd_same ?_ ?_
            · have := length_putK first (.inl (n : Int)) (.str (nm ν ps[i])); omega
            · intro k v e
              rw [valV_put] at e
              split at e
              · cases e; exact ⟨_, rfl⟩
              · exact e6 k v e
      · rw [show (!decide (V.str (kdS (kd (some x))) = V.str (Str.ofString "file"))) = true from by rw [dec_file, decide_eq_false hk]; rfl]
        refine iteT ?_
        refine ⟨_, rfl, .inl ⟨rfl, _, SqL.of e1⟩, _, rfl, _, rfl, sizeB' (Nat.le_of_ble_eq_true rfl), fun b hb => ⟨_, _, _, rfl, rfl, ?_, hrl, ?_⟩⟩
        · rw [upd_ne (ne_of_none e1 hb)]; exact e1
        · exact fin b (.ref q) first _ (Same.refl _) hb e1 e2 (by omega) e6
    · rintro σ H' ⟨u, v, rows, first, rfl, s1, e1, e2, e3, e4, e5, e6⟩
      simp only [List.length_map] at e3 e4
      rw [List.take_length] at e3
      have s2 : Same H H' := Same.trans (same_new hsl0) (s1.trans hid_sub)
      refine ⟨_, rfl, _, rfl, a, hC K, dx, _, rfl, s2 _ _ h1, T.c_House, T.na_House _ (by decide), Nat.lt_of_lt_of_le (Nat.lt_succ_self 3) (by decide), ?_⟩
      have eH : hid (upd H' a (.ins (hC K) dx (putF "rows" (.ref fA) (hF sd fd rw)))) [a] = hid H' [a] := hid_upd (by simp)
      refine k fA _ hfA (by rw [eH]; exact hid_same s2) upd_same ?_
      rw [eH]
      refine ⟨rows, ps, hid_at e1 (by simpa using naf.symm), hO, Paired.mapP e3 fun v p ⟨q, x, e, z⟩ => ⟨q, x, e, SqT.hide (hid_sub.tup z) ?_⟩⟩
      intro b hb
      rw [List.mem_singleton.mp hb]
      exact ⟨_, s2 _ _ h1, rfl⟩
end K89
set_option Elab.async false
set_option linter.all false
set_option maxRecDepth 100000
set_option maxHeartbeats 4000000
/-! K89.P7: copied, entries, __len__, thing_at, sharers. -/
namespace K89
open PySem PySem.Spec PyProof.Rows L2
variable {P : Program} {w : World} {K : PySem.W.Frag} {mg : Str → Option Value} {base : Heap}
theorem make_House (T : Txt P K mg) : ∃ f, Mk K (hC K) f ∧ FnR P w K mg base CX0 1 f (spHInit K) := by
  obtain ⟨f, M, hm⟩ := T.mk_House
  obtain ⟨f', F, hm'⟩ := g_House_init (w := w) (base := base) T
  have e := hm.at_.symm.trans hm'.at_
  cases e
  exact ⟨f, M, F⟩
def spCopied (K : PySem.W.Frag) : Sp := fun vs H Q _ => ∃ ν a S, HouseS K ν H a S ∧ WF S ∧ S.L.length ≤ 1000 ∧ vs = [.ref a] ∧
  ∀ a' sd fd H', Same H H' → H a' = none → H sd = none → H fd = none → HouseAt K ν H' a' S → HM K ν H' a' sd fd S → Q (.ref a') H'
theorem g_House_copied (T : Txt P K mg) : Dm P w K mg base (hC K) "copied" 3 (spCopied K) := by
  obtain ⟨fi, M, F⟩ := make_House (P := P) (w := w) (base := base) T
  refine T.h_House_copied.mk sc_House_copied (fun _ _ _ _ _ _ us hl => match us, hl with | [_], _ => rfl) (fun vs H Q E h => ?_) (fun f cdv A outer s H vs Q E hr h => ?_)
  · obtain ⟨ν, a, S, _, _, _, rfl, _⟩ := h; rfl
  · obtain ⟨ν, a, S, hS, W, z1, rfl, k⟩ := h
    obtain ⟨N, key, dx, sd, fd, rw, kvs, kfs, h1, h2, h3, h4, h5⟩ := hS
    refine ⟨_, pss_cons (pset 1 sc_House_copied.nd (pe_makeR0 M F hr T.g_House))
      (pss_cons (ps_fld (pv 1) (pe_callTy call_dictD (by rfl) T.f_dict (by decide +kernel) (pa_cons (pe_fld (pv 0) (by rfl)) pa_nil)) (by rfl))
        (pss_cons (ps_fld (pv 1) (pe_callTy call_dictD (by rfl) T.f_dict (by decide +kernel) (pa_cons (pe_fld (pv 0) (by rfl)) pa_nil)) (by rfl))
          (pss_cons (ps_expr (pe_m0 (pv 1) T.c_House (g_House_settle T) hr)) (pss_one (ps_ret (pv 1)))))), ?_⟩
    intro x dx' hx hdx hne
    refine ⟨x, dx', rfl, upd_same, fun sd0 fd0 rw0 H1 e1 e2 e3 ne0 s1 g1 g2 g3 g4 => ⟨rfl, ?_⟩⟩
    have s0 : Same H H1 := by
      refine Same.trans (hid_in (l := [x]) (Same.trans (same_new hdx) (same_new (by rw [upd_ne hne.symm]; exact hx))) ?_) (s1.trans hid_sub)
      intro b hb
      rw [List.mem_singleton.mp hb]
      exact hx
    refine ⟨_, rfl, _, _, _, _, _, rfl, s0 _ _ h1, T.c_House, T.na_House _ (by decide), rfl, sd, kvs, rfl, .inl (s0 _ _ h2), fun p1 hp1 => ?_⟩
    have n1 := ne_of_none g1 hp1
    refine ⟨_, rfl, x, hC K, dx', _, rfl, by rw [upd_ne n1]; exact g1, T.c_House, T.na_House _ (by decide), Nat.lt_of_lt_of_le (Nat.lt_succ_self 3) (by decide), ?_⟩
    have s2 : ∀ {b o}, H b = some o → upd (upd H1 p1 (.dK kvs)) x (.ins (hC K) dx' (hF p1 fd0 rw0)) b = some o := fun {b o} hb => by
      rw [upd_ne (ne_of_none hb hx), upd_ne (ne_of_none (s0 _ _ hb) hp1)]; exact s0 _ _ hb
    refine ⟨_, rfl, _, _, _, _, _, rfl, s2 h1, T.c_House, T.na_House _ (by decide), rfl, fd, kfs, rfl, .inl (s2 h4), fun p2 hp2 => ?_⟩
    have n2 : x ≠ p2 := fun z => by rw [← z, upd_same] at hp2; cases hp2
    have hp2' : upd H1 p1 (.dK kvs) p2 = none := by rw [upd_ne n2.symm] at hp2; exact hp2
    have n3 : p1 ≠ p2 := fun z => by rw [← z, upd_same] at hp2'; cases hp2'
    have hp2'' : H1 p2 = none := by rw [upd_ne n3.symm] at hp2'; exact hp2'
    refine ⟨_, rfl, x, hC K, dx', _, rfl, by rw [upd_ne n2, upd_same], T.c_House, T.na_House _ (by decide), Nat.lt_of_lt_of_le (Nat.lt_succ_self 3) (by decide), ?_⟩
    generalize hH2 : upd (upd (upd (upd H1 p1 (.dK kvs)) x (.ins (hC K) dx' (hF p1 fd0 rw0))) p2 (.dK kfs)) x (.ins (hC K) dx' (hF p1 p2 rw0)) = H2
    have f1 : H2 x = some (.ins (hC K) dx' (hF p1 p2 rw0)) := by rw [← hH2]; exact upd_same
    have f2 : H2 p1 = some (.dK kvs) := by rw [← hH2, upd_ne n1.symm, upd_ne n3, upd_ne n1.symm, upd_same]
    have f3 : H2 p2 = some (.dK kfs) := by rw [← hH2, upd_ne n2.symm, upd_same]
    have s3 : Same H H2 := fun b o hb => by
      rw [← hH2, upd_ne (ne_of_none hb hx), upd_ne (ne_of_none (s2 hb) hp2)]; exact s2 hb
    have hH2' : upd (upd (upd (upd H1 p1 (.dK kvs)) x (.ins (hC K) dx' (putF "standing" (.ref p1) (hF sd0 fd0 rw0)))) p2 (.dK kfs)) x (.ins (hC K) dx' (putF "files" (.ref p2) (putF "standing" (.ref p1) (hF sd0 fd0 rw0)))) = H2 := hH2
    rw [hH2']
    refine ⟨_, rfl, x, dx', _, rfl, f1, rfl, ?_⟩
    refine ⟨ν, x, S, dx', p1, p2, rw0, kvs, kfs, N, W, z1, f1, f2, h3.mono s3, f3, h5.mono s3, rfl, fun rw1 H3 e5 s4 e6 e7 => ?_⟩
    refine ⟨_, rfl, ?_⟩
    have k1 : H3 p1 = some (.dK kvs) := (hid_some (s4 _ _ (hid_at f2 (by simpa using n1.symm)))).1
    have k2 : H3 p2 = some (.dK kfs) := (hid_some (s4 _ _ (hid_at f3 (by simpa using n2.symm)))).1
    have s5 : Same H H3 := Same.trans (hid_in s3 (fun b hb => by rw [List.mem_singleton.mp hb]; exact hx)) (s4.trans hid_sub)
    have hn1 : H p1 = none := s0.free hp1
    have hn2 : H p2 = none := s0.free hp2''
    refine k x p1 p2 H3 s5 hx hn1 hn2 ⟨N, W, dx', p1, p2, rw1, kvs, kfs, e6, k1, h3.mono s5, k2, h5.mono s5, e7.mono hid_sub⟩ ⟨N, key, n3, dx', rw1, kvs, kfs, e6, k1, h3.mono (hid_in s5 ?_), k2, h5.mono (hid_in s5 ?_)⟩
    all_goals
      intro b hb
      simp only [List.mem_cons, List.not_mem_nil, or_false] at hb
      rcases hb with rfl | rfl
      · exact hn1
      · exact hn2
/-! ### entries, len -/
def spEntries (K : PySem.W.Frag) : Sp := fun vs H Q _ => ∃ ν a S, HouseAt K ν H a S ∧ vs = [.ref a] ∧
  ∀ l rows ps H', Same H H' → H l = none → H' l = some (.lst rows) → Ord S ps → Paired (RowP K ν H') rows ps → Q (.ref l) H'
theorem g_House_entries (T : Txt P K mg) : Dm P w K mg base (hC K) "entries" 1 (spEntries K) := by
  refine T.h_House_entries.mk sc_House_entries (fun _ _ _ _ _ _ us hl => match us, hl with | [_], _ => rfl) (fun vs H Q E h => ?_) (fun f cdv A outer s H vs Q E hr h => ?_)
  · obtain ⟨ν, a, S, _, rfl, _⟩ := h; rfl
  · obtain ⟨ν, a, S, hS, rfl, k⟩ := h
    obtain ⟨N, W, dx, sd, fd, rw, kvs, kfs, h1, h2, h3, h4, h5, rows, ps, r1, r2, r3⟩ := hS
    refine ⟨_, pss_one (ps_ret (pe_callTy call_list_of (by rfl) T.f_list (by decide +kernel) (pa_cons (pe_fld (pv 0) (by rfl)) pa_nil))), ?_⟩
    refine ⟨_, rfl, _, _, _, _, _, rfl, h1, T.c_House, T.na_House _ (by decide), rfl, rw, rows, rfl, .inl (SqL.of r1), fun l hl => ?_⟩
    exact k l rows ps _ (same_new hl) hl upd_same r2 (RowP.mono (same_new hl) r3)
def spLen (K : PySem.W.Frag) : Sp := fun vs H Q _ => ∃ ν a S, HouseS K ν H a S ∧ vs = [.ref a] ∧ Q (.int S.L.length) H
theorem g_House_len (T : Txt P K mg) : Dm P w K mg base (hC K) "__len__" 1 (spLen K) := by
  refine T.h_House_len.mk sc_House_len (fun _ _ _ _ _ _ us hl => match us, hl with | [_], _ => rfl) (fun vs H Q E h => ?_) (fun f cdv A outer s H vs Q E hr h => ?_)
  · obtain ⟨ν, a, S, _, rfl, _⟩ := h; rfl
  · obtain ⟨ν, a, S, hS, rfl, k⟩ := h
    obtain ⟨N, key, dx, sd, fd, rw, kvs, kfs, h1, h2, h3, h4, h5⟩ := hS
    refine ⟨_, pss_one (ps_ret (pe_callB call_lenD (by rfl) T.f_len PySem.boot_len (pa_cons (pe_fld (pv 0) (by rfl)) pa_nil))), ?_⟩
    refine ⟨_, rfl, _, _, _, _, _, rfl, h1, T.c_House, T.na_House _ (by decide), rfl, sd, kvs, rfl, h2, ?_⟩
    rw [h3.length]
    exact k
/-! ### thing_at, sharers -/
/-- what a path shows: the file itself, or the thing -/
def showV (F : List FD) : Th → List V
  | .file n => fdV ((F[n]?).getD ⟨#[], 0, 0⟩)
  | x => thV x
theorem showV_th {F : List FD} {x : Th} (h : ¬ kd (some x) = .file) : showV F x = thV x := by
  cases x with
  | file n => exact absurd rfl h
  | dir _ _ => rfl
  | sym _ _ _ => rfl
def spThingAt (K : PySem.W.Frag) : Sp := fun vs H Q _ => ∃ ν a S p x, HouseS K ν H a S ∧ POk p ∧ lkp S.L p = some x ∧ ThOk S.F.length x ∧ vs = [.ref a, .str (nm ν p)] ∧ ∀ q, SqT K H q (showV S.F x) → Q (.ref q) H
theorem g_House_thing_at (T : Txt P K mg) : Dm P w K mg base (hC K) "thing_at" 2 (spThingAt K) := by
  refine T.h_House_thing_at.mk sc_House_thing_at (fun _ _ _ _ _ _ us hl => match us, hl with | [_, _], _ => rfl) (fun vs H Q E h => ?_) (fun f cdv A outer s H vs Q E hr h => ?_)
  · obtain ⟨ν, a, S, p, x, _, _, _, _, rfl, _⟩ := h; rfl
  · obtain ⟨ν, a, S, p, x, hS, hp, hx, ht, rfl, k⟩ := h
    obtain ⟨N, key, dx, sd, fd, rw, kvs, kfs, h1, h2, h3, h4, h5⟩ := id hS
    refine ⟨_, pss_cons (ps_if (pt_not (pt_val (pe_m (pv 0) T.c_House (g_House_has T) hr (pa_cons (pv 1) pa_nil)))) pss_never pss_nil)
      (pss_cons (pset 2 sc_House_thing_at.nd (pe_dget (room1 hr) (pe_fld (pv 0) (by rfl)) (pv 1) noSl_name))
        (pss_one (ps_ret (pe_ifExp (pt_cmpR op_eq (pe_ix ix_seq (pv 2) pe_int (fun _ _ => rfl)) pe_str rfl)
          (pe_dget (room1 hr) (pe_fld (pv 0) (by rfl)) (pe_ix ix_seq (pv 2) pe_int (fun _ _ => rfl)) (fun _ _ => rfl)) (pv 2))))), ?_⟩
    refine ⟨_, rfl, _, _, _, rfl, h1, rfl, _, rfl, ν, a, S, p, hS, hp, rfl, _, rfl, ?_⟩
    rw [hx]
    refine iteF ?_
    obtain ⟨q, g1, g2⟩ := (h3.val N hp key).2 x hx
    refine ⟨_, rfl, _, _, _, _, _, rfl, h1, T.c_House, T.na_House _ (by decide), rfl, _, rfl, _, _, rfl, DGet.of h2 (k := .inr _) rfl g1, ?_⟩
    obtain ⟨r, er⟩ := thV_hd x
    refine ⟨_, rfl, .inr (.inl ⟨_, _, _, _, rfl, rfl, g2, (by rw [er]; exact atI0), rfl, _, rfl, ?_⟩)⟩
    rw [dec_file]
    by_cases hk : kd (some x) = .file
    · rw [decide_eq_true hk]
      refine iteT ?_
      cases x with
      | file n =>
        have hn : n < S.F.length := ht
        obtain ⟨q3, j1, j2⟩ := h5.get (List.getElem?_eq_getElem hn)
        refine ⟨_, rfl, _, _, _, _, _, rfl, h1, T.c_House, T.na_House _ (by decide), rfl, _, rfl, .inr (.inl ⟨_, _, _, _, rfl, rfl, g2, rfl, _, _, rfl, DGet.of h4 (k := .inl (n : Int)) rfl j1, k _ ?_⟩)⟩
        show SqT K H q3 (fdV ((S.F[n]?).getD ⟨#[], 0, 0⟩))
        rw [List.getElem?_eq_getElem hn]
        exact j2
      | dir _ _ => cases hk
      | sym _ _ _ => cases hk
    · rw [decide_eq_false hk]
      refine iteF ⟨_, rfl, k _ ?_⟩
      rw [showV_th hk]
      exact g2
def thD : Th → PyData
  | .file n => .tuple [.str "file", .int n]
  | .dir m t => .tuple [.str "directory", .int m, .int t]
  | .sym tg m t => .tuple [.str "symlink", .str tg, .int m, .int t]
theorem thD_dp {H : Hp} {q : Addr} {x : Th} (h : SqT K H q (thV x)) : Dp K H (.ref q) (thD x) := by
  cases x with
  | file n => exact .tup h (.cons (.str _) (.cons (.int _) .nil))
  | dir m t => exact .tup h (.cons (.str _) (.cons (.int _) (.cons (.int _) .nil)))
  | sym tg m t => exact .tup h (.cons (.str _) (.cons (.str _) (.cons (.int _) (.cons (.int _) .nil))))
theorem strOk_name {z : Str} (h : NameOk z) : PyData.strOk z = true := by
  have hl : letters.all (fun c => decide (c < 128)) = true := by decide +kernel
  unfold PyData.strOk
  rw [Array.all_eq_true']
  intro c hc
  have h2 := h.2.2 c (by simpa using hc)
  have h3 := of_decide_eq_true (List.all_eq_true.mp hl c h2)
  exact decide_eq_true (by omega)
theorem thD_shaped {n : Nat} {x : Th} (h : ThOk n x) : SeqAt.shaped (thD x) = true := by
  have f1 : PyData.strOk "file" = true := by decide +kernel
  have f2 : PyData.strOk "directory" = true := by decide +kernel
  have f3 : PyData.strOk "symlink" = true := by decide +kernel
  cases x with
  | file m => simp [SeqAt.shaped, thD, PyData.canLay0, PyData.canLayAll0, PyData.depth, PyData.depthAll, f1]
  | dir m t => simp [SeqAt.shaped, thD, PyData.canLay0, PyData.canLayAll0, PyData.depth, PyData.depthAll, f2]
  | sym tg m t => simp [SeqAt.shaped, thD, PyData.canLay0, PyData.canLayAll0, PyData.depth, PyData.depthAll, f3, strOk_name h.1]
theorem thD_eqv (x : Th) (n : Nat) : PyData.eqv (thD x) (thD (.file n)) = decide (x = .file n) := by
  cases x with
  | file m =>
    simp only [thD, PyData.eqv, PyData.eqvAll, Th.file.injEq, Bool.and_true, beq_self_eq_true, Bool.true_and]
    by_cases e : m = n
    · rw [decide_eq_true e, e, beq_self_eq_true]
    · rw [decide_eq_false e, beq_eq_false_iff_ne]; omega
  | dir _ _ => simp [thD, PyData.eqv, PyData.eqvAll]
  | sym _ _ _ => simp [thD, PyData.eqv, PyData.eqvAll]
def shrOf (S : Hs) (n : Nat) : List Pth := (S.L.filter fun e => decide (e.2 = .file n)).map (·.1)
def spSharers (K : PySem.W.Frag) : Sp := fun vs H Q _ => ∃ ν a S p n, HouseS K ν H a S ∧ WF S ∧ S.L.length ≤ 1000 ∧ POk p ∧ lkp S.L p = some (.file n) ∧ vs = [.ref a, .str (nm ν p)] ∧
  ∀ l (ys : List Str) H', Same H H' → H l = none → H' l = some (.lst (ys.map V.str)) → ys.Perm ((shrOf S n).map (nm ν)) → sortedS ys = true → Q (.ref l) H'
theorem filt_eq {ν : Nat → Str} {n : Nat} : ∀ L : AL, ((L.map fun e => if e.2 = .file n then some (V.str (nm ν e.1)) else none).filterMap id) = (((L.filter fun e => decide (e.2 = .file n)).map (·.1)).map (nm ν)).map V.str
  | [] => rfl
  | e :: r => by
    rw [List.map_cons]
    by_cases h : e.2 = .file n
    · rw [if_pos h, List.filter_cons_of_pos (by simpa using h), List.map_cons, List.map_cons, List.map_cons, ← filt_eq r]; rfl
    · rw [if_neg h, List.filter_cons_of_neg (by simpa using h), ← filt_eq r]; rfl
theorem g_House_sharers (T : Txt P K mg) : Dm P w K mg base (hC K) "sharers" 3 (spSharers K) := by
  refine T.h_House_sharers.mk sc_House_sharers (fun _ _ _ _ _ _ us hl => match us, hl with | [_, _], _ => rfl) (fun vs H Q E h => ?_) (fun f cdv A outer s H vs Q E hr h => ?_)
  · obtain ⟨ν, a, S, p, n, _, _, _, _, _, rfl, _⟩ := h; rfl
  · obtain ⟨ν, a, S, p, n, hS, W, z1, hp, hx, rfl, k⟩ := h
    obtain ⟨N, key, dx, sd, fd, rw, kvs, kfs, h1, h2, h3, h4, h5⟩ := id hS
    refine ⟨_, pss_cons (ps_if (pt_cmpR op_ne (pe_m (pv 0) T.c_House (g_House_kind_at T) hr (pa_cons (pv 1) pa_nil)) pe_str rfl) pss_never pss_nil)
      (pss_one (ps_ret (pe_callB cr_sortedSA (by rfl) T.f_sorted (by decide +kernel) (pa_cons (pe_lock
        (pe_lc (own := [("other", 2)]) (g := gName 2) rfl sc_House_sharers.nd (pi_keys (pe_fld (pv 0) (by rfl))) (blkOk_by (N := N_House_sharers) (sc := defScope s_House_sharers) (by decide +kernel))
          (fun _ _ _ _ _ => pg_name (i := 2) sc_House_sharers.nd rfl (Or.inl rfl))
          (fun _ _ _ _ _ => pts_one (pt_cmpR (r := rEqD K) (op_eqD hr.units) (pe_dget (room1 hr) (pe_fldK K rfl (pv 0)) (pv 2) noSl_name) (pe_dget (room1 hr) (pe_fldK K rfl (pv 0)) (pv 1) noSl_name) rfl))
          (fun _ _ _ _ _ => pv 2))) pa_nil)))), ?_⟩
    refine ⟨_, rfl, _, _, _, rfl, h1, rfl, _, rfl, ν, a, S, p, hS, hp, rfl, rfl, _, rfl, ?_⟩
    rw [hx, show (!decide (V.str (kdS (kd (some (Th.file n)))) = V.str (Str.ofString "file"))) = false from by rw [dec_file]; rfl]
    refine iteF ?_
    refine ⟨sd, _, h2, trivial, fun od => ?_⟩
    have nas : a ≠ sd := ne_of h1 h2 (by intro z; cases z)
    generalize hF0 : upd H sd (.frz od (.dK kvs)) = F
    have g1 : F a = some (.ins (hC K) dx (hF sd fd rw)) := by rw [← hF0, upd_ne nas]; exact h1
    have g2 : F sd = some (.frz od (.dK kvs)) := by rw [← hF0, upd_same]
    have hT : ∀ {q xs}, SqT K H q xs → SqT K F q xs := by
      rintro q xs ((h | ⟨o, h⟩) | h)
      · exact .inl (.inl (by rw [← hF0, upd_ne (ne_of h h2 (by intro z; cases z))]; exact h))
      · exact .inl (.inr ⟨o, by rw [← hF0, upd_ne (ne_of h h2 (by intro z; cases z))]; exact h⟩)
      · exact .inr h
    refine ⟨_, rfl, _, _, _, _, _, rfl, g1, T.c_House, T.na_House _ (by decide), rfl, sd, od, rfl, .inl ⟨kvs, g2, fun D hD => ?_⟩⟩
    obtain ⟨qp, p1, p2⟩ := (h3.val N hp key).2 _ hx
    refine lc_filt (L2.walk_keys (d := sd) (o := od) (kvs := kvs)) (S.L.map fun e => if e.2 = .file n then some (V.str (nm ν e.1)) else none) (by rw [List.length_map, h3.length]) (sizeB (by rw [h3.length]; omega)) hD (fun H1 s1 => s1 _ _ g2) (fun i x H2 H' Pz Pn hi s2 y hP hN => ?_) fun H2 s2 hL2 => ?_
    · obtain ⟨rfl, kk, v, e1, rfl⟩ := y
      rw [h3.length] at hi
      obtain ⟨e, he, r1, q, r2, r3⟩ : ∃ e, S.L[i]? = some e ∧ kk = .inr (nm ν e.1) ∧ ∃ q, v = .ref q ∧ SqT K H q (thV e.2) := by
        obtain ⟨e, he, r⟩ := L2.paired_get h3 e1
        exact ⟨e, he, r⟩
      subst r1 r2
      have hm : e ∈ S.L := List.mem_of_getElem? he
      have hl : lkp S.L e.1 = some e.2 := lkp_of_mem W.nd hm
      have hpe : POk e.1 := key _ (List.mem_map.mpr ⟨e, hm, rfl⟩)
      obtain ⟨q', t1, t2⟩ := (h3.val N hpe key).2 _ hl
      refine ⟨rfl, _, rfl, _, _, _, _, _, rfl, s2 _ _ g1, T.c_House, T.na_House _ (by decide), rfl, _, rfl, sd, _, rfl, .inl ⟨kvs, .inr (nm ν e.1), .inr ⟨od, s2 _ _ g2⟩, rfl, t1.symm⟩, ?_⟩
      refine ⟨_, rfl, _, _, _, _, _, rfl, s2 _ _ g1, T.c_House, T.na_House _ (by decide), rfl, _, rfl, sd, _, rfl, .inl ⟨kvs, .inr (nm ν p), .inr ⟨od, s2 _ _ g2⟩, rfl, p1.symm⟩, ?_⟩
      refine ⟨thD e.2, thD (.file n), thD_dp (s2.tup (hT t2)), thD_dp (s2.tup (hT p2)), thD_shaped (W.th _ _ hl), thD_shaped (W.th _ _ hx), _, rfl, ?_⟩
      rw [thD_eqv]
      by_cases c : e.2 = .file n
      · rw [decide_eq_true c]
        refine iteT ⟨_, rfl, hP _ _ (Same.refl _) ?_⟩
        rw [List.getElem?_map, he, Option.map_some, if_pos c]; rfl
      · rw [decide_eq_false c]
        refine iteF (hN _ (Same.refl _) ?_)
        rw [List.getElem?_map, he, Option.map_some, if_neg c]
    · refine ⟨s2 _ _ g2, ?_⟩
      have hDs : D ≠ sd := (ne_of_none g2 hD).symm
      have hD0 : H D = none := by rw [← hF0, upd_ne hDs] at hD; exact hD
      have s3 : Same H (upd H2 sd (.dK kvs)) := fun b o hb => by
        by_cases e : b = sd
        · rw [e] at hb ⊢; rw [upd_same, ← h2]; exact hb
        · rw [upd_ne e]; exact s2 _ _ (by rw [← hF0, upd_ne e]; exact hb)
      rw [filt_eq] at hL2
      refine ⟨D, _, rfl, SqL.of (by rw [upd_ne hDs]; exact hL2), fun ys l y1 y2 hl => ?_⟩
      exact k l ys _ (s3.trans (same_new hl)) (s3.free hl) upd_same y1 y2
end K89
set_option Elab.async false
set_option linter.all false
set_option maxRecDepth 100000
set_option maxHeartbeats 4000000
/-! K89.P8: blob, is_piece, are_spans, are_pieces. -/
namespace K89
open PySem PySem.Spec PyProof.Rows L2
variable {P : Program} {w : World} {K : PySem.W.Frag} {mg : Str → Option Value} {base : Heap}
theorem tyx_list {H : Hp} {a : Addr} {xs : List V} (h : SqL K H a xs) : TyX K H (.ref a) (.type "list") := by
  rcases h with (h | ⟨o, h⟩) | ⟨o, its, n, h, c, _⟩
  · exact .base (.lst h)
  · exact .base (.frz h)
  · exact .kList h c
theorem tyx_tup {H : Hp} {a : Addr} {xs : List V} (h : SqT K H a xs) : TyX K H (.ref a) (.type "tuple") := by
  rcases h with (h | ⟨o, h⟩) | ⟨o, its, n, h, c, _⟩
  · exact .base (.tup h)
  · exact .fTuple h
  · exact .kTuple h c
/-- the text n1.n2 .. of a comprehension that yields True -/
theorem bls_true {H : Hp} {D : Addr} {n : Nat} (h : H D = some (.lst ((List.replicate n true).map V.bl))) : SqL K H D ((List.replicate n true).map V.bl) := SqL.of h
theorem rep_all (n : Nat) : (List.replicate n true).all id = true := by simp
theorem rep_get {α : Type} {n i : Nat} (x : α) (h : i < n) : (List.replicate n x)[i]? = some x := by rw [List.getElem?_eq_getElem (by simpa using h)]; simp
/-! ### blob -/
def spBlob (K : PySem.W.Frag) : Sp := fun vs H Q _ => ∃ l ns, SqL K H l (ns.map V.int) ∧ BytesOk ns ∧ vs = [.ref l] ∧ ∀ H', Same H H' → Q (.byt (bA ns)) H'
theorem g_blob (T : Txt P K mg) : Dg P w K mg base "blob" 3 (spBlob K) := by
  refine T.h_blob.mk sc_blob (fun _ _ _ _ _ _ us hl => match us, hl with | [_], _ => rfl) (fun vs H Q E h => ?_) (fun f cdv A outer s H vs Q E hr h => ?_)
  · obtain ⟨l, ns, _, _, rfl, _⟩ := h; rfl
  · obtain ⟨l, ns, hs, hb, rfl, k⟩ := h
    refine ⟨_, pss_cons (ps_if (PW.pt (pw_or (pt_not (pt_val (pe_callB call_isiT (by rfl) T.f_isinstance (by decide +kernel) (pa_cons (pv 0) (pa_cons (pe_tup (pa_cons (pe_bltn (v := .ty "list") (by rfl) T.f_list (by decide +kernel) rfl) (pa_cons (pe_bltn (v := .ty "tuple") (by rfl) T.f_tuple (by decide +kernel) rfl) pa_nil))) pa_nil)))))
        (pw_or1 (pt_not (pt_val (pe_callB (cr_all rfl) (by rfl) T.f_all (by decide +kernel) (pa_cons (pe_lc (own := [("number", 1)]) (g := gName 1) (tt := tYes) rfl sc_blob.nd (pi_list (pv 0)) (blkOk_by (N := N_blob) (sc := defScope s_blob) (by decide +kernel))
          (fun _ _ _ _ _ => pg_name (i := 1) sc_blob.nd rfl (Or.inl rfl)) (fun _ _ _ _ _ => pts_nil) (fun _ _ _ _ _ => pe_g (g_is_within T) hr (pa_cons (pv 1) (pa_cons pe_int (pa_cons pe_int pa_nil))))) pa_nil))))))) pss_never pss_nil)
      (pss_one (ps_ret (pe_callTy (call_bytes_list rfl) (by rfl) T.f_bytes (by decide +kernel) (pa_cons (pv 0) pa_nil)))), ?_⟩
    refine ⟨_, rfl, sizeB' (Nat.le_of_ble_eq_true rfl), fun tp htp => ?_⟩
    have s1 : Same H (upd H tp (.tup [.ty "list", .ty "tuple"])) := same_new htp
    refine ⟨_, tp, _, _, _, true, rfl, upd_same, .cons (.ty _) (.cons (.ty _) .nil), tyx_list (s1.seq hs), kitAny_cons (b := true) (r := true) (kit_ty (by decide +kernel)) (fun e => nomatch e) (fun _ => rfl), _, rfl, iteF ?_⟩
    refine ⟨_, rfl, l, rfl, ⟨_, s1.seq hs⟩, fun D hD => ?_⟩
    refine lc_pure (L2.walk_list (K := K) (a := l) (xs := ns.map V.int)) (List.replicate ns.length (V.bl true)) (by simp) (sizeB (by have := hb.1; simp; omega)) hD (fun H2 s2 => s2.seq (s1.seq hs)) (fun i x H2 H' Pz hi s2 y hP => ?_) fun H2 s2 hL2 => ?_
    · obtain ⟨rfl, hx⟩ := y
      rw [List.length_map] at hi
      rw [List.getElem?_map, List.getElem?_eq_getElem hi] at hx
      have hx := (Option.some.inj hx).symm
      subst hx
      have hbi := hb.2 _ (List.getElem_mem hi)
      refine ⟨rfl, _, rfl, _, _, _, rfl, ?_⟩
      rw [decide_eq_true (show (0 : Int) ≤ ns[i] ∧ ns[i] ≤ 255 from hbi)]
      exact hP _ _ (Same.refl _) (rep_get _ hi)
    · refine ⟨D, List.replicate ns.length true, rfl, SqL.of (by rw [hL2, List.map_replicate]), _, rfl, ?_⟩
      rw [rep_all]
      refine iteF ⟨_, rfl, l, ns, rfl, s2.seq (s1.seq hs), fun n hn => ?_, k _ (s1.trans s2)⟩
      have := hb.2 n hn
      exact ⟨this.1, by omega⟩
/-! ### pieces -/
/-- a piece as members hold it -/
def PcV (K : PySem.W.Frag) (H : Hp) : V → Nat × List Int → Prop := fun v e => ∃ r, v = .ref r ∧ SqT K H r [.int (e.1 : Int), .byt (bA e.2)]
def SpV (K : PySem.W.Frag) (H : Hp) : V → Nat × List Int → Prop := fun v e => ∃ r, v = .ref r ∧ SqT K H r [.int (e.1 : Int), .int (e.2.length : Int)]
theorem bA_size (ns : List Int) : (bA ns).size = ns.length := by simp [bA]
def spIsPiece (K : PySem.W.Frag) : Sp := fun vs H Q _ => ∃ q o b, SqT K H q [.int o, .byt b] ∧ 0 < b.size ∧ b.size ≤ 5000 ∧ vs = [.ref q] ∧ Q (.bl true) H
theorem g_is_piece (T : Txt P K mg) : Dg P w K mg base "is_piece" 2 (spIsPiece K) := by
  refine T.h_is_piece.mk sc_is_piece (fun _ _ _ _ _ _ us hl => match us, hl with | [_], _ => rfl) (fun vs H Q E h => ?_) (fun f cdv A outer s H vs Q E hr h => ?_)
  · obtain ⟨q, o, b, _, _, _, rfl, _⟩ := h; rfl
  · obtain ⟨q, o, b, hs, hb, hz, rfl, k⟩ := h
    refine ⟨_, pss_cons (ps_if (PW.pt (pw_or (pt_not (pt_val (pe_callB call_isi (by rfl) T.f_isinstance (by decide +kernel) (pa_cons (pv 0) (pa_cons (pe_bltn (v := .ty "tuple") (by rfl) T.f_tuple (by decide +kernel) rfl) pa_nil)))))
        (pw_or1 (pt_cmpR op_ne (pe_callB call_len_seq (by rfl) T.f_len PySem.boot_len (pa_cons (pv 0) pa_nil)) pe_int rfl)))) (pss_one (ps_ret pe_bl)) pss_nil)
      (pss_one (ps_ret (pe_and (pe_g (g_is_integer T) hr (pa_cons (pe_ix ix_seq (pv 0) pe_int (fun _ _ => rfl)) pa_nil))
        (pe_and (pe_callB call_isi (by rfl) T.f_isinstance (by decide +kernel) (pa_cons (pe_ix ix_seq (pv 0) pe_int (fun _ _ => rfl)) (pa_cons (pe_bltn (v := .ty "bytes") (by rfl) T.f_bytes (by decide +kernel) rfl) pa_nil)))
          (pe_one (pe_cmpR op_gt (pe_callB call_len (by rfl) T.f_len PySem.boot_len (pa_cons (pe_ix ix_seq (pv 0) pe_int (fun _ _ => rfl)) pa_nil)) pe_int rfl)))))), ?_⟩
    refine ⟨_, rfl, _, _, _, _, _, rfl, .ty _, tyx_tup hs, kit_ty (r := true) (by decide +kernel), _, rfl, iteF ?_⟩
    refine ⟨_, rfl, q, _, rfl, .inr hs, rfl, _, rfl, iteF ?_⟩
    refine ⟨_, rfl, .inr (.inl ⟨_, _, _, _, rfl, rfl, hs, rfl, _, rfl, _, rfl, iteT ?_⟩)⟩
    refine ⟨_, rfl, .inr (.inl ⟨_, _, _, _, rfl, rfl, hs, rfl, _, _, _, _, _, rfl, .ty _, .byt b, kit_ty (r := true) (by decide +kernel), _, rfl, iteT ?_⟩)⟩
    refine ⟨_, rfl, .inr (.inl ⟨_, _, _, _, rfl, rfl, hs, rfl, _, b.size, rfl, ⟨sizeB' (by omega), rfl⟩, _, _, rfl, rfl, ?_⟩)⟩
    show Q (.bl (decide ((0 : Int) < (b.size : Int)))) H
    rw [decide_eq_true (show (0 : Int) < (b.size : Int) by omega)]
    exact k
def spAreSpans (K : PySem.W.Frag) : Sp := fun vs H Q _ => ∃ (sz : Nat) (l : Addr) (prs : List V) (ps : List (Nat × List Int)), SqL K H l prs ∧ Paired (SpV K H) prs ps ∧ PiecesOk 0 sz ps ∧ ps.length ≤ 2 ∧ vs = [.int (sz : Int), .ref l] ∧ Q (.bl true) H
theorem PiecesOk.drop : ∀ {ps : List (Nat × List Int)} {a sz : Nat} (i : Nat), PiecesOk a sz ps → ∃ b, PiecesOk b sz (ps.drop i)
  | [], a, _, i, h => ⟨a, by rw [List.drop_nil]; exact h⟩
  | _ :: _, a, _, 0, h => ⟨a, h⟩
  | _ :: _, _, _, i + 1, .cons _ _ _ t => t.drop i
theorem g_are_spans (T : Txt P K mg) : Dg P w K mg base "are_spans" 1 (spAreSpans K) := by
  obtain ⟨tM, hM⟩ := T.c_MOST_PIECES
  refine T.h_are_spans.mk sc_are_spans (fun _ _ _ _ _ _ us hl => match us, hl with | [_, _], _ => rfl) (fun vs H Q E h => ?_) (fun f cdv A outer s H vs Q E hr h => ?_)
  · obtain ⟨sz, l, prs, ps, _, _, _, _, rfl, _⟩ := h; rfl
  · obtain ⟨sz, l, prs, ps, hs, hp, hok, hz, rfl, k⟩ := h
    have hlen : prs.length = ps.length := Paired.length hp
    refine ⟨_, pss_cons (pset 2 sc_are_spans.nd (pe_un un_neg pe_int))
      (pss_cons (ps_for PassesOwn.never rfl (pi_list (pv 1)) (pg_tup rfl (pgs_cons (pg_name (i := 3) sc_are_spans.nd rfl (Or.inl rfl)) (pgs_cons (pg_name (i := 4) sc_are_spans.nd rfl (Or.inl rfl)) pgs_nil)))
        (pss_cons (ps_if (PW.pt (pw_or (pt_cmpR op_le (pv 3) (pv 2) rfl) (pw_or1 (pt_cmpR op_lt (pv 4) pe_int rfl)))) (pss_one (ps_ret pe_bl)) pss_nil)
          (pss_one (pset 2 sc_are_spans.nd (pe_add (pv 3) (pv 4))))))
        (pss_one (ps_ret (pe_and (pe_cmpR op_le (pv 2) (pv 0) rfl) (pe_one (pe_cmpR op_le (pe_callB call_len_seq (by rfl) T.f_len PySem.boot_len (pa_cons (pv 1) pa_nil)) (pe_glob (v := .int 50) (by rfl) hM ⟨_, rfl⟩) rfl)))))), ?_⟩
    refine ⟨_, rfl, _, rfl, l, rfl, ⟨_, hs⟩, ?_⟩
    refine for_it (L2.walk_list (K := K) (a := l) (xs := prs)) (fun i σ H' => H' = H ∧ ∃ (b : Nat) (n : Int) (u v : Option V), PiecesOk b sz (ps.drop i) ∧ n = (b : Int) - 1 ∧ σ = [some (.int (sz : Int)), some (.ref l), some (.int n), u, v]) ?_ ?_ ?_ ?_
    · exact ⟨rfl, 0, -1, _, _, hok, rfl, rfl⟩
    · rintro i σ H' hi ⟨rfl, _⟩; exact hs
    · rintro i x σ H' H'' hi ⟨rfl, b, n, u, v, hb, hn, rfl⟩ ⟨rfl, hx⟩
      obtain ⟨e, he, r, rfl, hr3⟩ : ∃ e, ps[i]? = some e ∧ SpV K H'' x e := by
        obtain ⟨e, he, r⟩ := L2.paired_get hp hx
        exact ⟨e, he, r⟩
      rw [hlen] at hi
      rw [List.drop_eq_getElem_cons hi] at hb
      rw [List.getElem?_eq_getElem hi] at he
      have he := Option.some.inj he
      rw [he] at hb
      obtain ⟨o, d⟩ := e
      cases hb with
      | cons h1 h2 h3 t =>
      refine ⟨r, _, rfl, hr3, rfl, _, _, rfl, _, _, rfl, rfl, ?_⟩
      refine ⟨_, rfl, _, rfl, _, _, rfl, rfl, _, rfl, ?_⟩
      rw [decide_eq_false (show ¬ (o : Int) ≤ n by omega)]
      refine iteF ⟨_, rfl, _, _, rfl, rfl, _, rfl, ?_⟩
      rw [decide_eq_false (show ¬ (d.length : Int) < 1 by omega)]
      exact iteF ⟨_, rfl, _, rfl, _, _, rfl, rfl, rfl, o + d.length + 1, _, _, _, t, (show (o : Int) + (d.length : Int) = ((o + d.length + 1 : Nat) : Int) - 1 by omega), rfl⟩
    · rintro σ H' ⟨rfl, b, n, u, v, hb, hn, rfl⟩
      rw [hlen, List.drop_length] at hb
      cases hb with
      | nil hb =>
      refine ⟨_, rfl, _, rfl, _, _, rfl, rfl, _, rfl, ?_⟩
      rw [decide_eq_true (show n ≤ (sz : Int) by omega)]
      refine iteT ⟨_, rfl, l, _, rfl, .inl hs, _, _, rfl, rfl, ?_⟩
      show Q (.bl (decide ((prs.length : Int) ≤ 50))) H'
      rw [decide_eq_true (show (prs.length : Int) ≤ 50 by omega)]
      exact k
end K89
set_option Elab.async false
set_option linter.all false
set_option maxRecDepth 100000
set_option maxHeartbeats 4000000
/-! K89.H3: comprehensions that make new things. -/
namespace K89
open PySem PySem.Spec PyProof.Rows L2
/-! ### comprehensions that make new things, while some objects (l) change -/
theorem hid_cons {H : Hp} {D : Addr} {l : List Addr} {o : HO} : hid (upd H D o) (D :: l) = hid H (D :: l) := hid_upd (by simp)
theorem hid_more {H H' : Hp} {D : Addr} {l : List Addr} (s : Same (hid H l) (hid H' l)) : Same (hid H (D :: l)) (hid H' (D :: l)) := fun b o h => by
  obtain ⟨h1, h2⟩ := hid_some h
  simp only [List.mem_cons, not_or] at h2
  exact hid_at (hid_some (s _ _ (hid_at h1 h2.2))).1 (by simp only [List.mem_cons, not_or]; exact h2)
theorem lc_new {J : It} {n : Nat} {G : Hp → Prop} {Y : Nat → Hp → V → Hp → Prop} (w : L2.Walk J n G Y) (l : List Addr) (I : Nat → Hp → Prop) (Pr : Nat → V → Hp → Prop) {g : TG} {te : TE} {vs : List Nat} {σ : L2.St} {H1 : Hp} {D : Addr} {Qd : Hp → Prop}
    (mono : ∀ i y G G', Same G G' → Pr i y G → Pr i y G') (hz : n < sizeLine) (hD : H1 D = none) (hDl : D ∉ l) (I0 : I 0 H1) (Iup : ∀ i H acc, I i H → I i (upd H D (.lst acc)))
    (hG : ∀ i H, Same (hid H1 l) (hid H l) → I i H → G H)
    (hs : ∀ i x H H' (Pz : VK), i < n → Same (hid H1 l) (hid H l) → I i H → (∃ acc, H D = some (.lst acc)) → Y i H x H' → (∀ y H4, Same (hid H l) (hid H4 l) → I (i + 1) H4 → Pr i y (hid H4 (D :: l)) → Pz y H4) →
      g x (wipe σ vs) H' fun σ2 H2 => wipe σ2 vs = wipe σ vs ∧ te σ2 H2 Pz)
    (hd : ∀ H acc, Same (hid H1 l) (hid H l) → I n H → H D = some (.lst acc) → acc.length = n → (∀ i y, acc[i]? = some y → Pr i y (hid H (D :: l))) → Qd H) :
    ∃ W : Nat → Nat → Hp → Prop, (∃ m, W 0 m (upd H1 D (.lst []))) ∧ ∀ i m H, W i m H →
      (J.stop i H ∧ Qd H) ∨ (J.go i H ∧ ∃ Nx : Hp → Prop, (∀ H', Nx H' → ∃ m', m' < m ∧ W (i + 1) m' H') ∧ ∀ x H', J.yld i H x H' → g x (wipe σ vs) H' fun σ2 H2 => wipe σ2 vs = wipe σ vs ∧ tYes σ2 H2 fun b H3 =>
        if b = true then te σ2 H3 fun y H4 => ∃ acc, H4 D = some (.lst acc) ∧ acc.length < sizeLine ∧ Nx (upd H4 D (.lst (acc ++ [y]))) else Nx H3) := by
  have up : ∀ {H : Hp} {acc : List V}, Same (hid H1 l) (hid H l) → Same (hid H1 l) (hid (upd H D (.lst acc)) l) := fun {H acc} s b o e => by
    have h1 := s b o e
    obtain ⟨h2, h3⟩ := hid_some h1
    exact hid_at (by rw [upd_ne (ne_of_none (hid_some e).1 hD)]; exact h2) h3
  refine L2.lc_it w (fun i H => Same (hid H1 l) (hid H l) ∧ I i H ∧ ∃ acc, H D = some (.lst acc) ∧ acc.length = i ∧ ∀ j y, acc[j]? = some y → Pr j y (hid H (D :: l))) ⟨up (Same.refl _), Iup _ _ _ I0, [], upd_same, rfl, fun j y e => by simp at e⟩
    (fun i H _ p => hG i H p.1 p.2.1) (fun i x H H' hi p y => ?_) fun H ⟨p1, p2, acc, p3, p4, p5⟩ => hd H acc p1 p2 p3 p4 p5
  obtain ⟨p1, p2, acc, p3, p4, p5⟩ := p
  simp only [tYes, if_true]
  refine hs i x H H' _ hi p1 p2 ⟨acc, p3⟩ y fun z H4 r1 r2 r3 => ?_
  have e4 : H4 D = some (.lst acc) := (hid_some (r1 _ _ (hid_at p3 hDl))).1
  refine ⟨acc, e4, by omega, up (p1.trans r1), Iup _ _ _ r2, acc ++ [z], upd_same, by rw [List.length_append, p4]; rfl, fun j v e => ?_⟩
  rw [hid_cons]
  by_cases c : j < acc.length
  · rw [List.getElem?_append_left c] at e
    exact mono _ _ _ _ (hid_more r1) (p5 j v e)
  · have cj : j = i := by
      have := (List.getElem?_eq_some_iff.mp e).1
      simp at this
      omega
    rw [List.getElem?_append_right (by omega), cj, p4, Nat.sub_self] at e
    cases e
    rw [cj]
    exact r3
/-- .. no object changes -/
theorem lc_new0 {J : It} {n : Nat} {G : Hp → Prop} {Y : Nat → Hp → V → Hp → Prop} (w : L2.Walk J n G Y) (Pr : Nat → V → Hp → Prop) {g : TG} {te : TE} {vs : List Nat} {σ : L2.St} {H1 : Hp} {D : Addr} {Qd : Hp → Prop}
    (mono : ∀ i y G G', Same G G' → Pr i y G → Pr i y G') (hz : n < sizeLine) (hD : H1 D = none)
    (hG : ∀ H, Same H1 H → G H)
    (hs : ∀ i x H H' (Pz : VK), i < n → Same H1 H → (∃ acc, H D = some (.lst acc)) → Y i H x H' → (∀ y H4, Same H H4 → Pr i y (hid H4 [D]) → Pz y H4) →
      g x (wipe σ vs) H' fun σ2 H2 => wipe σ2 vs = wipe σ vs ∧ te σ2 H2 Pz)
    (hd : ∀ H acc, Same H1 H → H D = some (.lst acc) → acc.length = n → (∀ i y, acc[i]? = some y → Pr i y (hid H [D])) → Qd H) :
    ∃ W : Nat → Nat → Hp → Prop, (∃ m, W 0 m (upd H1 D (.lst []))) ∧ ∀ i m H, W i m H →
      (J.stop i H ∧ Qd H) ∨ (J.go i H ∧ ∃ Nx : Hp → Prop, (∀ H', Nx H' → ∃ m', m' < m ∧ W (i + 1) m' H') ∧ ∀ x H', J.yld i H x H' → g x (wipe σ vs) H' fun σ2 H2 => wipe σ2 vs = wipe σ vs ∧ tYes σ2 H2 fun b H3 =>
        if b = true then te σ2 H3 fun y H4 => ∃ acc, H4 D = some (.lst acc) ∧ acc.length < sizeLine ∧ Nx (upd H4 D (.lst (acc ++ [y]))) else Nx H3) := by
  refine lc_new w [] (fun _ _ => True) Pr mono hz hD (by simp) trivial (fun _ _ _ h => h) (fun i H s _ => hG H (by rw [hid_nil, hid_nil] at s; exact s)) (fun i x H H' Pz hi s _ hac y hP => ?_) fun H acc s _ => hd H acc (by rw [hid_nil, hid_nil] at s; exact s)
  rw [hid_nil, hid_nil] at s
  exact hs i x H H' Pz hi s hac y fun z H4 r1 r2 => hP z H4 (by rw [hid_nil, hid_nil]; exact r1) trivial r2
/-- lists by index, side by side -/
theorem paired_of {α β : Type} {F : α → β → Prop} : ∀ {xs : List α} {ys : List β}, xs.length = ys.length → (∀ (i : Nat) (x : α) (y : β), xs[i]? = some x → ys[i]? = some y → F x y) → Paired F xs ys
  | [], [], _, _ => .nil
  | x :: xs, y :: ys, h, k => .cons (k 0 x y rfl rfl) (paired_of (by simpa using h) fun i a b e1 e2 => k (i + 1) a b e1 e2)

end K89
set_option Elab.async false
set_option linter.all false
set_option maxRecDepth 100000
set_option maxHeartbeats 4000000
/-! K89.P9: are_pieces; Member.__init__; the member classes' __init__. -/
namespace K89
open PySem PySem.Spec PyProof.Rows L2
variable {P : Program} {w : World} {K : PySem.W.Frag} {mg : Str → Option Value} {base : Heap}
theorem PiecesOk.all : ∀ {ps : List (Nat × List Int)} {a sz : Nat}, PiecesOk a sz ps → ∀ e ∈ ps, 1 ≤ e.2.length ∧ e.1 + e.2.length ≤ sz ∧ ∀ b ∈ e.2, 0 ≤ b ∧ b ≤ 255
  | [], _, _, _, e, he => by cases he
  | _ :: r, a, sz, .cons h h1 hb t, e, he => by
    rcases List.mem_cons.mp he with rfl | he
    · refine ⟨h1, ?_, hb⟩
      clear h he
      have : ∀ {ps : List (Nat × List Int)} {a : Nat}, PiecesOk a sz ps → a ≤ sz + 1 := by
        intro ps
        induction ps with
        | nil => intro a h; cases h with | nil h => exact h
        | cons x r ih => intro a h; cases h with | cons h h1 hb t => have := ih t; omega
      have := this t
      show _ + _ ≤ _
      simp only
      omega
    · exact t.all e he
def spArePieces (K : PySem.W.Frag) : Sp := fun vs H Q _ => ∃ (sz : Nat) (t : Addr) (prs : List V) (ps : List (Nat × List Int)), SqT K H t prs ∧ Paired (PcV K H) prs ps ∧ PiecesOk 0 sz ps ∧ sz ≤ 4096 ∧ ps.length ≤ 2 ∧ vs = [.int (sz : Int), .ref t] ∧ ∀ H', Same H H' → Q (.bl true) H'
theorem g_are_pieces (T : Txt P K mg) : Dg P w K mg base "are_pieces" 3 (spArePieces K) := by
  refine T.h_are_pieces.mk sc_are_pieces (fun _ _ _ _ _ _ us hl => match us, hl with | [_, _], _ => rfl) (fun vs H Q E h => ?_) (fun f cdv A outer s H vs Q E hr h => ?_)
  · obtain ⟨sz, l, prs, ps, _, _, _, _, _, rfl, _⟩ := h; rfl
  · obtain ⟨sz, l, prs, ps, hs, hp, hok, hz, hz2, rfl, k⟩ := h
    have hlen : prs.length = ps.length := Paired.length hp
    have hall := hok.all
    have hget : ∀ {i x}, i < prs.length → prs[i]? = some x → ∃ e, ps[i]? = some e ∧ e ∈ ps ∧ PcV K H x e := by
      intro i x hi hx
      obtain ⟨e, he, r⟩ := L2.paired_get hp hx
      exact ⟨e, he, List.mem_of_getElem? he, r⟩
    refine ⟨_, pss_cons (ps_if (pt_not (pt_val (pe_callB (cr_all rfl) (by rfl) T.f_all (by decide +kernel) (pa_cons (pe_lc (own := [("piece", 2)]) (g := gName 2) (tt := tYes) rfl sc_are_pieces.nd (pi_tup (pv 1)) (blkOk_by (N := N_are_pieces) (sc := defScope s_are_pieces) (by decide +kernel))
        (fun _ _ _ _ _ => pg_name (i := 2) sc_are_pieces.nd rfl (Or.inl rfl)) (fun _ _ _ _ _ => pts_nil) (fun _ _ _ _ _ => pe_g (g_is_piece T) hr (pa_cons (pv 2) pa_nil))) pa_nil)))) (pss_one (ps_ret pe_bl)) pss_nil)
      (pss_one (ps_ret (pe_g (g_are_spans T) hr (pa_cons (pv 0) (pa_cons (pe_lc (own := [("offset", 3), ("data", 4)]) (g := gTup K 2 (gCons (gName 3) (gCons (gName 4) gNil))) (tt := tYes) rfl sc_are_pieces.nd (pi_tup (pv 1)) (blkOk_by (N := N_are_pieces) (sc := defScope s_are_pieces) (by decide +kernel))
        (fun _ _ _ _ _ => pg_tup rfl (pgs_cons (pg_name (i := 3) sc_are_pieces.nd rfl (Or.inl rfl)) (pgs_cons (pg_name (i := 4) sc_are_pieces.nd rfl (Or.inl rfl)) pgs_nil))) (fun _ _ _ _ _ => pts_nil)
        (te := tTup (tCons (tVar 3) (tCons (tCB (fun xs H Q => ∃ x n, xs = [x] ∧ LenV K x H n ∧ Q (.int n) H) (tCons (tVar 4) tNil)) tNil)))
        (fun _ _ _ _ _ => pe_tup (pa_cons (pv 3) (pa_cons (pe_callB call_len (by rfl) T.f_len PySem.boot_len (pa_cons (pv 4) pa_nil)) pa_nil)))) pa_nil))))), ?_⟩
    refine ⟨_, rfl, l, rfl, ⟨_, hs⟩, fun D hD => ?_⟩
    refine lc_pure (L2.walk_tup (K := K) (a := l) (xs := prs)) (List.replicate prs.length (V.bl true)) (by simp) (sizeB (by omega)) hD (fun H2 s2 => s2.tup hs) (fun i x H2 H' Pz hi s2 y hP => ?_) fun H2 s2 hL2 => ?_
    · obtain ⟨rfl, hx⟩ := y
      obtain ⟨e, _, he, r, rfl, hr3⟩ := hget hi hx
      obtain ⟨a1, a2, a3⟩ := hall e he
      exact ⟨rfl, _, rfl, r, _, _, s2.tup hr3, by rw [bA_size]; omega, by rw [bA_size]; omega, rfl, hP _ _ (Same.refl _) (rep_get _ hi)⟩
    · refine ⟨D, List.replicate prs.length true, rfl, SqL.of (by rw [hL2, List.map_replicate]), _, rfl, ?_⟩
      rw [rep_all]
      refine iteF ⟨_, rfl, _, rfl, l, rfl, ⟨_, s2.tup hs⟩, fun D2 hD2 => ?_⟩
      refine lc_new0 (L2.walk_tup (K := K) (a := l) (xs := prs)) (fun i y G => ∀ e, ps[i]? = some e → SpV K G y e) (fun i y G G' s h e he => (h e he).imp fun r z => ⟨z.1, s.tup z.2⟩) (sizeB (by omega)) hD2 (fun H3 s3 => s3.tup (s2.tup hs)) (fun i x H3 H4 Pz hi s3 hac y hP => ?_) fun H3 acc s3 e1 e2 e3 => ?_
      · obtain ⟨rfl, hx⟩ := y
        obtain ⟨acc, hac⟩ := hac
        obtain ⟨e, he0, he, r, rfl, hr3⟩ := hget hi hx
        obtain ⟨a1, a2, a3⟩ := hall e he
        refine ⟨r, _, rfl, s3.tup (s2.tup hr3), rfl, _, _, rfl, _, _, rfl, rfl, rfl, ?_⟩
        refine ⟨_, rfl, _, rfl, _, _, rfl, ⟨sizeB' (by rw [bA_size]; omega), rfl⟩, sizeB' (Nat.le_of_ble_eq_true rfl), fun b hb => hP _ _ (same_new hb) fun e' he' => ⟨b, rfl, SqT.of (hid_at ?_ ?_)⟩⟩
        · rw [he0] at he'
          rw [upd_same, ← Option.some.inj he', bA_size]
        · simpa using (ne_of_none hac hb).symm
      · refine ⟨sz, D2, acc, ps, SqL.of e1, paired_of (by omega) fun i y e h1 h2 => (e3 i y h1 e h2).imp fun r z => ⟨z.1, hid_sub.tup z.2⟩, hok, hz2, rfl, k _ (s2.trans s3)⟩
end K89
set_option Elab.async false
set_option linter.all false
set_option maxRecDepth 100000
set_option maxHeartbeats 4000000
/-! K89.P10: Member.__init__; the member classes' __init__. -/
namespace K89
open PySem PySem.Spec PyProof.Rows L2
variable {P : Program} {w : World} {K : PySem.W.Frag} {mg : Str → Option Value} {base : Heap}
def mNames : List Str := ["name", "mode", "time", "key", "data", "size", "pieces", "target"]
structure MCls (K : PySem.W.Frag) (C : Addr) : Prop where
  cls : Cls K C
  con : ∃ v u, Con K C "KIND" v u
  na : ∀ f ∈ mNames, NoAttr K C f
theorem MemC.mc {C kind : Str} {d : He.DefD} (M : MemC P K mg C kind d) : MCls K (cl K C) := ⟨M.cls, let ⟨u, h⟩ := M.con; ⟨_, u, h⟩, M.na⟩
def mF (z : Str) (m t : Int) (kv : V) : List (Str × V) := [("name", .str z), ("mode", .int m), ("time", .int t), ("key", kv)]
def spMemB (K : PySem.W.Frag) : Sp := fun vs H Q _ => ∃ a C dx z m t p rest, MCls K C ∧ H a = some (.ins C dx []) ∧ SqT K H p rest ∧ rest.length ≤ 100 ∧ vs = [.ref a, .str z, .int m, .int t, .ref p] ∧
  ∀ kv H', Same (hid H [a]) (hid H' [a]) → H' a = some (.ins C dx (mF z m t kv)) → Q .non H'
def spMemI (K : PySem.W.Frag) : Sp := fun vs H Q _ => ∃ a C dx z m t rest, MCls K C ∧ H a = some (.ins C dx []) ∧ rest.length ≤ 100 ∧ vs = [.ref a, .str z, .int m, .int t] ++ rest ∧
  ∀ kv H', Same (hid H [a]) (hid H' [a]) → H' a = some (.ins C dx (mF z m t kv)) → Q .non H'
theorem g_Member_init (T : Txt P K mg) : FnR P w K mg base CX0 1 (gMemI K) (spMemI K) := by
  obtain ⟨fd, F⟩ := T.h_Member_init
  obtain ⟨oc, od, dV, kV, doc, pm, an, cdv, ct, osl, rfl, lk, hcd, hD, _⟩ := F.ex
  rcases hD with ⟨_, rfl⟩ | ⟨e, _⟩
  rotate_left
  · exact absurd rfl e
  refine FnR.imp (StX.fn_star (P := P) (w := w) (base := base) (N := N_Member_init) (ps := ["self", "name", "mode", "time"]) (pv := "more") (sp := spMemB K) lk hcd sc_Member_init StX.cxUp_none (fun us rest hl => match us, hl, rest with
    | [_, _, _, _], _, [] => rfl
    | [_, _, _, _], _, _ :: _ => rfl) (fun A outer s H vs Q E hr h => ?_)) (fun vs H Q E h => ?_)
  · obtain ⟨a, C, dx, z, m, t, p, rest, M, ha, hp, hz, rfl, k⟩ := h
    obtain ⟨v, u, hcon⟩ := M.con
    have one : ∃ tt, PSs (cxOf CX0 P w K mg base N_Member_init d_Member_init.qual d_Member_init.scope (gMemI K) cdv A outer s H E).nox d_Member_init.body tt ∧ tt { nx := fun _ H' => Q .non H', rt := Q } (L2.start N_Member_init [.ref a, .str z, .int m, .int t, .ref p]) H := by
      refine ⟨_, pss_cons (ps_fld (pv 0) (pv 1) (by rfl)) (pss_cons (ps_fld (pv 0) (pv 2) (by rfl)) (pss_cons (ps_fld (pv 0) (pv 3) (by rfl))
        (pss_one (ps_fld (pv 0) (pe_tup (pa_cons (pe_con (pv 0) (by rfl)) (pa_cons (pv 1) (pa_cons (pv 2) (pa_cons (pv 3) (StX.pa_star (pv 4) pa_nil)))))) (by rfl))))), ?_⟩
      refine ⟨_, rfl, _, rfl, a, C, dx, _, rfl, ha, M.cls, M.na _ (by decide), by decide, ?_⟩
      refine ⟨_, rfl, _, rfl, a, C, dx, _, rfl, upd_same, M.cls, M.na _ (by decide), Nat.lt_of_lt_of_le (Nat.lt_succ_self 1) (by decide), ?_⟩
      refine ⟨_, rfl, _, rfl, a, C, dx, _, rfl, upd_same, M.cls, M.na _ (by decide), Nat.lt_of_lt_of_le (Nat.lt_succ_self 2) (by decide), ?_⟩
      rw [upd_upd, upd_upd]
      refine ⟨_, rfl, a, C, dx, _, v, u, rfl, upd_same, M.cls, hcon, rfl, _, rfl, _, rfl, _, rfl, _, rfl, p, rest, rfl, .inl ?_, ?_, fun q hq => ?_⟩
      · rcases hp with (h | ⟨o, h⟩) | h
        · exact .inl (.inl (by rw [upd_ne (ne_of h ha (by intro z; cases z))]; exact h))
        · exact .inl (.inr ⟨o, by rw [upd_ne (ne_of h ha (by intro z; cases z))]; exact h⟩)
        · exact .inr h
      · refine sizeB' ?_
        simp only [List.length_cons, List.length_append, List.length_nil]
        omega
      · have na : a ≠ q := ne_of_none upd_same hq
        have hq0 : H q = none := by rw [upd_ne na.symm] at hq; exact hq
        refine ⟨_, rfl, a, C, dx, _, rfl, by rw [upd_ne na]; exact upd_same, M.cls, M.na _ (by decide), Nat.lt_of_lt_of_le (Nat.lt_succ_self 3) (by decide), ?_⟩
        refine k (.ref q) _ ?_ upd_same
        rw [hid_upd (by simp)]
        intro b o hb
        obtain ⟨h1, h2⟩ := hid_some hb
        have hba : b ≠ a := by simpa using h2
        refine hid_at ?_ h2
        rw [upd_ne (ne_of_none h1 hq0), upd_ne hba]
        exact h1
    obtain ⟨tt, h1, h2⟩ := one
    exact ⟨tt, h1.nox, h2⟩
  · obtain ⟨a, C, dx, z, m, t, rest, M, ha, hz, rfl, k⟩ := h
    refine ⟨_, rest, rfl, rfl, sizeB' (by omega), fun p hp => ⟨a, C, dx, z, m, t, p, rest, M, by rw [upd_ne (ne_of_none ha hp)]; exact ha, SqT.of upd_same, hz, rfl, fun kv H' s e => k kv H' (Same.trans (hid_new hp) s) e⟩⟩
end K89
set_option Elab.async false
set_option linter.all false
set_option maxRecDepth 100000
set_option maxHeartbeats 4000000
/-! K89.P11: the member classes' __init__. -/
namespace K89
open PySem PySem.Spec PyProof.Rows L2
variable {P : Program} {w : World} {K : PySem.W.Frag} {mg : Str → Option Value} {base : Heap}
abbrev stampKs : List Str := ["mode", "time"]
theorem ss_File : SupScope N_File_init p_File_init d_File_init.scope := ⟨rfl, rfl, rfl, by decide +kernel, rfl, by decide +kernel, by decide +kernel, by decide +kernel, rfl, rfl⟩
theorem ss_Directory : SupScope N_Directory_init p_Directory_init d_Directory_init.scope := ⟨rfl, rfl, rfl, by decide +kernel, rfl, by decide +kernel, by decide +kernel, by decide +kernel, rfl, rfl⟩
theorem ss_Symlink : SupScope N_Symlink_init p_Symlink_init d_Symlink_init.scope := ⟨rfl, rfl, rfl, by decide +kernel, rfl, by decide +kernel, by decide +kernel, by decide +kernel, rfl, rfl⟩
theorem ss_Link : SupScope N_Link_init p_Link_init d_Link_init.scope := ⟨rfl, rfl, rfl, by decide +kernel, rfl, by decide +kernel, by decide +kernel, by decide +kernel, rfl, rfl⟩
theorem ss_Sparse : SupScope N_Sparse_init ((["self", "name", "size", "mode", "time"] : List Str) ++ (["pieces"] : List Str)) d_Sparse_init.scope := ⟨rfl, rfl, rfl, by decide +kernel, rfl, by decide +kernel, by decide +kernel, by decide +kernel, rfl, rfl⟩
def spFileI (K : PySem.W.Frag) : SpK := fun vs zs H Q _ => ∃ a dx z b m t, vs = [.ref a, .str z, .byt b] ∧ zs = [.int m, .int t] ∧ H a = some (.ins (cl K "File") dx []) ∧ NameOk z ∧ b.size ≤ 4096 ∧ ModeOk m ∧ TimeOk t ∧
  ∀ kv H', Same (hid H [a]) (hid H' [a]) → H' a = some (.ins (cl K "File") dx (mF z m t kv ++ [(("data" : Str), V.byt b)])) → Q .non H'
theorem k_File (T : Txt P K mg) : ∃ f, Mk K (cl K "File") f ∧ FnK P w K mg base CX0 4 f stampKs (spFileI K) := by
  obtain ⟨f, cda, cc, M, F⟩ := T.m_File.mkI
  obtain ⟨tM, hM⟩ := T.c_MOST_DATA
  refine ⟨f, M, F.fnK ss_File 3 (fun kV doc pm an ct us ws h1 h2 => match us, ws, h1, h2 with | [_, _, _], [_, _], _, _ => rfl) rfl (fun vs zs H Q E h => ?_) (fun A outer s H vs zs Q E hz hr h => ?_)⟩
  · obtain ⟨a, dx, z, b, m, t, rfl, _⟩ := h; rfl
  · obtain ⟨a, dx, z, b, m, t, rfl, rfl, ha, hzn, hb, hm, ht, k⟩ := h
    refine ⟨_, PSsa.nox (pssa_cons (psa_of (ps_expr (pe_g (g_look_name T) hr (pa_cons (pv 1) pa_nil))))
      (pssa_cons (psa_of (ps_if (PW.pt (pw_or (pt_not (pt_val (pe_callB call_isi (by rfl) T.f_isinstance (by decide +kernel) (pa_cons (pv 2) (pa_cons (pe_bltn (v := .ty "bytes") (by rfl) T.f_bytes (by decide +kernel) rfl) pa_nil)))))
          (pw_or1 (pt_cmpR op_gt (pe_callB call_len (by rfl) T.f_len PySem.boot_len (pa_cons (pv 2) pa_nil)) (pe_glob (v := .int 4096) (by rfl) hM ⟨_, rfl⟩) rfl)))) pss_never pss_nil))
        (pssa_cons (psa_of (ps_expr (pe_g (g_look_stamps T) hr (pa_cons (pv 3) (pa_cons (pv 4) pa_nil)))))
          (pssa_cons (psa_super F.k T.m_File.sup (g_Member_init T) hr (pa_cons (pv 1) (pa_cons (pv 3) (pa_cons (pv 4) (pa_cons (pv 2) pa_nil)))))
            (pssa_of (pss_one (ps_fld (pv 0) (pv 2) (by rfl)))))))), ?_⟩
    refine ⟨_, rfl, z, rfl, hzn, fun H1 s1 => ?_⟩
    refine ⟨_, rfl, _, _, _, _, _, rfl, .ty _, .byt b, kit_ty (r := true) (by decide +kernel), _, rfl, iteF ⟨_, rfl, _, b.size, rfl, ⟨sizeB' (by omega), rfl⟩, _, _, rfl, rfl, _, rfl, ?_⟩⟩
    rw [decide_eq_false (show ¬ (4096 : Int) < (b.size : Int) by omega)]
    refine iteF ⟨_, rfl, _, rfl, m, t, rfl, hm, ht, ?_⟩
    refine ⟨a, dx, [], rfl, s1 _ _ ha, _, rfl, _, rfl, _, rfl, _, rfl, a, _, dx, z, m, t, [.byt b], T.m_File.mc, s1 _ _ ha, Nat.le_of_ble_eq_true rfl, rfl, fun kv H2 s2 e2 => ?_⟩
    refine ⟨_, rfl, _, rfl, a, _, dx, _, rfl, e2, T.m_File.cls, T.m_File.na _ (by decide), Nat.lt_of_lt_of_le (Nat.lt_succ_self 4) (by decide), ?_⟩
    exact k kv _ (by rw [hid_upd (by simp)]; exact (hid_same s1).trans s2) upd_same
def spDirI (K : PySem.W.Frag) : SpK := fun vs zs H Q _ => ∃ a dx z m t, vs = [.ref a, .str z] ∧ zs = [.int m, .int t] ∧ H a = some (.ins (cl K "Directory") dx []) ∧ NameOk z ∧ ModeOk m ∧ TimeOk t ∧
  ∀ kv H', Same (hid H [a]) (hid H' [a]) → H' a = some (.ins (cl K "Directory") dx (mF z m t kv)) → Q .non H'
theorem k_Directory (T : Txt P K mg) : ∃ f, Mk K (cl K "Directory") f ∧ FnK P w K mg base CX0 4 f stampKs (spDirI K) := by
  obtain ⟨f, cda, cc, M, F⟩ := T.m_Directory.mkI
  refine ⟨f, M, F.fnK ss_Directory 2 (fun kV doc pm an ct us ws h1 h2 => match us, ws, h1, h2 with | [_, _], [_, _], _, _ => rfl) rfl (fun vs zs H Q E h => ?_) (fun A outer s H vs zs Q E hz hr h => ?_)⟩
  · obtain ⟨a, dx, z, m, t, rfl, _⟩ := h; rfl
  · obtain ⟨a, dx, z, m, t, rfl, rfl, ha, hzn, hm, ht, k⟩ := h
    refine ⟨_, PSsa.nox (pssa_cons (psa_of (ps_expr (pe_g (g_look_name T) hr (pa_cons (pv 1) pa_nil))))
        (pssa_cons (psa_of (ps_expr (pe_g (g_look_stamps T) hr (pa_cons (pv 2) (pa_cons (pv 3) pa_nil)))))
          (pssa_cons (psa_super F.k T.m_Directory.sup (g_Member_init T) hr (pa_cons (pv 1) (pa_cons (pv 2) (pa_cons (pv 3) pa_nil))))
            (pssa_of pss_nil)))), ?_⟩
    refine ⟨_, rfl, z, rfl, hzn, fun H1 s1 => ?_⟩
    refine ⟨_, rfl, _, rfl, m, t, rfl, hm, ht, ?_⟩
    refine ⟨a, dx, [], rfl, s1 _ _ ha, _, rfl, _, rfl, _, rfl, a, _, dx, z, m, t, [], T.m_Directory.mc, s1 _ _ ha, Nat.le_of_ble_eq_true rfl, rfl, fun kv H2 s2 e2 => ?_⟩
    exact k kv _ ((hid_same s1).trans s2) e2
def spLnkI (K : PySem.W.Frag) (C : Str) : SpK := fun vs zs H Q _ => ∃ a dx z tg m t, vs = [.ref a, .str z, .str tg] ∧ zs = [.int m, .int t] ∧ H a = some (.ins (cl K C) dx []) ∧ NameOk z ∧ NameOk tg ∧ ModeOk m ∧ TimeOk t ∧
  ∀ kv H', Same (hid H [a]) (hid H' [a]) → H' a = some (.ins (cl K C) dx (mF z m t kv ++ [(("target" : Str), V.str tg)])) → Q .non H'
theorem k_Symlink (T : Txt P K mg) : ∃ f, Mk K (cl K "Symlink") f ∧ FnK P w K mg base CX0 4 f stampKs (spLnkI K "Symlink") := by
  obtain ⟨f, cda, cc, M, F⟩ := T.m_Symlink.mkI
  refine ⟨f, M, F.fnK ss_Symlink 3 (fun kV doc pm an ct us ws h1 h2 => match us, ws, h1, h2 with | [_, _, _], [_, _], _, _ => rfl) rfl (fun vs zs H Q E h => ?_) (fun A outer s H vs zs Q E hz hr h => ?_)⟩
  · obtain ⟨a, dx, z, tg, m, t, rfl, _⟩ := h; rfl
  · obtain ⟨a, dx, z, tg, m, t, rfl, rfl, ha, hzn, htn, hm, ht, k⟩ := h
    refine ⟨_, PSsa.nox (pssa_cons (psa_of (ps_expr (pe_g (g_look_name T) hr (pa_cons (pv 1) pa_nil)))) (pssa_cons (psa_of (ps_expr (pe_g (g_look_name T) hr (pa_cons (pv 2) pa_nil))))
        (pssa_cons (psa_of (ps_expr (pe_g (g_look_stamps T) hr (pa_cons (pv 3) (pa_cons (pv 4) pa_nil)))))
          (pssa_cons (psa_super F.k T.m_Symlink.sup (g_Member_init T) hr (pa_cons (pv 1) (pa_cons (pv 3) (pa_cons (pv 4) (pa_cons (pv 2) pa_nil)))))
            (pssa_of (pss_one (ps_fld (pv 0) (pv 2) (by rfl)))))))), ?_⟩
    refine ⟨_, rfl, z, rfl, hzn, fun H0 s0 => ⟨_, rfl, tg, rfl, htn, fun H1 s1 => ?_⟩⟩
    have s1 := s0.trans s1
    refine ⟨_, rfl, _, rfl, m, t, rfl, hm, ht, ?_⟩
    refine ⟨a, dx, [], rfl, s1 _ _ ha, _, rfl, _, rfl, _, rfl, _, rfl, a, _, dx, z, m, t, [.str tg], T.m_Symlink.mc, s1 _ _ ha, Nat.le_of_ble_eq_true rfl, rfl, fun kv H2 s2 e2 => ?_⟩
    refine ⟨_, rfl, _, rfl, a, _, dx, _, rfl, e2, T.m_Symlink.cls, T.m_Symlink.na _ (by decide), Nat.lt_of_lt_of_le (Nat.lt_succ_self 4) (by decide), ?_⟩
    exact k kv _ (by rw [hid_upd (by simp)]; exact (hid_same s1).trans s2) upd_same
theorem k_Link (T : Txt P K mg) : ∃ f, Mk K (cl K "Link") f ∧ FnK P w K mg base CX0 4 f stampKs (spLnkI K "Link") := by
  obtain ⟨f, cda, cc, M, F⟩ := T.m_Link.mkI
  refine ⟨f, M, F.fnK ss_Link 3 (fun kV doc pm an ct us ws h1 h2 => match us, ws, h1, h2 with | [_, _, _], [_, _], _, _ => rfl) rfl (fun vs zs H Q E h => ?_) (fun A outer s H vs zs Q E hz hr h => ?_)⟩
  · obtain ⟨a, dx, z, tg, m, t, rfl, _⟩ := h; rfl
  · obtain ⟨a, dx, z, tg, m, t, rfl, rfl, ha, hzn, htn, hm, ht, k⟩ := h
    refine ⟨_, PSsa.nox (pssa_cons (psa_of (ps_expr (pe_g (g_look_name T) hr (pa_cons (pv 1) pa_nil)))) (pssa_cons (psa_of (ps_expr (pe_g (g_look_name T) hr (pa_cons (pv 2) pa_nil))))
        (pssa_cons (psa_of (ps_expr (pe_g (g_look_stamps T) hr (pa_cons (pv 3) (pa_cons (pv 4) pa_nil)))))
          (pssa_cons (psa_super F.k T.m_Link.sup (g_Member_init T) hr (pa_cons (pv 1) (pa_cons (pv 3) (pa_cons (pv 4) (pa_cons (pv 2) pa_nil)))))
            (pssa_of (pss_one (ps_fld (pv 0) (pv 2) (by rfl)))))))), ?_⟩
    refine ⟨_, rfl, z, rfl, hzn, fun H0 s0 => ⟨_, rfl, tg, rfl, htn, fun H1 s1 => ?_⟩⟩
    have s1 := s0.trans s1
    refine ⟨_, rfl, _, rfl, m, t, rfl, hm, ht, ?_⟩
    refine ⟨a, dx, [], rfl, s1 _ _ ha, _, rfl, _, rfl, _, rfl, _, rfl, a, _, dx, z, m, t, [.str tg], T.m_Link.mc, s1 _ _ ha, Nat.le_of_ble_eq_true rfl, rfl, fun kv H2 s2 e2 => ?_⟩
    refine ⟨_, rfl, _, rfl, a, _, dx, _, rfl, e2, T.m_Link.cls, T.m_Link.na _ (by decide), Nat.lt_of_lt_of_le (Nat.lt_succ_self 4) (by decide), ?_⟩
    exact k kv _ (by rw [hid_upd (by simp)]; exact (hid_same s1).trans s2) upd_same
end K89
set_option Elab.async false
set_option linter.all false
set_option maxRecDepth 100000
set_option maxHeartbeats 4000000
/-! K89.R3: bytes(). -/
namespace K89
open PySem PySem.Spec PyProof.Rows L2
section
variable {prog : Program} {w : World} {A : Around} {E : Value → Shared → Prop} {s : Shared} {Q : Value → Shared → Prop}
/-- the empty bytes, new -/
theorem empty_new (go : ∀ t n, Q (.bytes #[] t) { s with toks := n }) : codeAny (model prog w) A (.call (.builtin "bytes.__new__") ⟨[.type "bytes"], []⟩) (wants Q E) s := by
  have right : checkBuiltinCall "bytes.__new__" ⟨[.type "bytes"], []⟩ = pure () := by kernel_rfl
  have given : Builtin.Bytes.bindOptional "bytes.__new__" "bytes" ["source", "encoding", "errors"] [] [] = pure [none, none, none] := by kernel_rfl
  have id : Code.quiet (.builtin "bytes.__new__" ⟨[.type "bytes"], []⟩) = true := plainId_quiet PySem.F.bm_plain _
  refine codeAny_of_tree (wpAny_bind (wpAny_of_eq right (wpAny_pure ⟨id, codeAny_builtin PySem.F.bm_entry ?_⟩)))
  rw [Around.under_plainId PySem.F.bm_plain]
  unfold Builtin.«bytes.__new__»
  repeat (first | with_reducible refine wpAny_of_eq PySem.F.bm_sub ?_ | with_reducible refine wpAny_of_eq given ?_ | wp_step)
  exact go _ _
end
/-- bytes() -/
theorem call_bytes0 {X : Cx} : CallR X (.type "bytes") (fun xs H Q => xs = [] ∧ Q (.byt #[]) H) := fun pins s σ H xs us Q I r ⟨e, q⟩ => by
  subst e
  cases r
  have right : checkTypeCall "bytes" ⟨[], []⟩ = pure () := by kernel_rfl
  have T := PySem.F.bm_called
  refine PySem.callType_codes (Q₁ := fun o s₁ => s₁.TypeIs o "bytes" ∧ EP X pins σ Q o s₁) T right PySem.F.entry_object_init (empty_new fun t n => ?_) fun o s₁ z => ?_
  · exact ⟨PySem.W.typeIs_bytes _ _ _, ⟨.byt #[], H, I.tok _, ⟨_, rfl⟩, q⟩⟩
  · refine ⟨z.1, PySem.F.args_object_init_1 o, ?_⟩
    exact PySem.object_init_meets T.init.lookup T.made (by decide) X.prog X.w X.A.in1 _ s₁ ⟨z.1, rfl, z.2⟩
end K89
set_option Elab.async false
set_option linter.all false
set_option maxRecDepth 100000
set_option maxHeartbeats 4000000
/-! K89.P12: Sparse; contents; members in the heap. -/
namespace K89
open PySem PySem.Spec PyProof.Rows L2
variable {P : Program} {w : World} {K : PySem.W.Frag} {mg : Str → Option Value} {base : Heap}
/-- a sparse member's __init__, the pieces being the tuple at p -/
def spSpB (K : PySem.W.Frag) : SpK := fun vs zs H Q _ => ∃ a dx z sz m t prs ps, vs = [.ref a, .str z, .int ((sz : Nat) : Int)] ++ prs ∧ zs = [.int m, .int t] ∧ H a = some (.ins (cl K "Sparse") dx []) ∧ NameOk z ∧ Paired (PcV K H) prs ps ∧ PiecesOk 0 sz ps ∧ sz ≤ 4096 ∧ ps.length ≤ 2 ∧ ModeOk m ∧ TimeOk t ∧
  ∀ kv q H', Same (hid H [a]) (hid H' [a]) → SqT K H q prs → H' a = some (.ins (cl K "Sparse") dx (mF z m t kv ++ [(("size" : Str), V.int (sz : Int)), (("pieces" : Str), V.ref q)])) → Q .non H'
theorem k_Sparse (T : Txt P K mg) : ∃ f, Mk K (cl K "Sparse") f ∧ FnK P w K mg base CX0 4 f stampKs (fun vs zs H Q E => 3 ≤ vs.length ∧ vs.length ≤ sizeLine ∧ ∀ p, H p = none → spSpB K vs zs (upd H p (.tup (vs.drop 3))) Q E) := by
  obtain ⟨f, cda, cc, M, F⟩ := T.m_Sparse.mkI
  refine ⟨f, M, F.fnKS ss_Sparse 3 (fun kV doc pm an ct us rest ws h1 h2 => match us, ws, h1, h2, rest with
    | [_, _, _], [_, _], _, _, [] => rfl
    | [_, _, _], [_, _], _, _, _ :: _ => rfl) rfl (fun A outer s H vs Q E hr h => ?_)⟩
  obtain ⟨us, rest, zs, p, rfl, lu, lz, hp, a, dx, z, sz, m, t, prs, ps, e1, rfl, ha, hzn, hprs, hok, hsz, hpl, hm, ht, k⟩ := h
  obtain ⟨rfl, rfl⟩ : us = [.ref a, .str z, .int (sz : Int)] ∧ rest = prs := by
    refine List.append_inj e1 ?_
    rw [lu]; rfl
  refine ⟨_, PSsa.nox (pssa_cons (psa_of (ps_expr (pe_g (g_look_name T) hr (pa_cons (pv 1) pa_nil))))
      (pssa_cons (psa_of (ps_if (pt_not (pt_val (pe_g (g_is_within T) hr (pa_cons (pv 2) (pa_cons pe_int (pa_cons (pe_glob (v := .int 4096) (by rfl) (T.c_MOST_DATA.choose_spec) ⟨_, rfl⟩) pa_nil)))))) pss_never pss_nil))
        (pssa_cons (psa_of (ps_if (pt_not (pt_val (pe_g (g_are_pieces T) hr (pa_cons (pv 2) (pa_cons (pv 5) pa_nil))))) pss_never pss_nil))
          (pssa_cons (psa_of (ps_expr (pe_g (g_look_stamps T) hr (pa_cons (pv 3) (pa_cons (pv 4) pa_nil)))))
            (pssa_cons (psa_super F.k T.m_Sparse.sup (g_Member_init T) hr (pa_cons (pv 1) (pa_cons (pv 3) (pa_cons (pv 4) (pa_cons (pv 2) (pa_cons (pv 5) pa_nil))))))
              (pssa_of (pss_cons (ps_fld (pv 0) (pv 2) (by rfl)) (pss_one (ps_fld (pv 0) (pv 5) (by rfl)))))))))), ?_⟩
  refine ⟨_, rfl, z, rfl, hzn, fun H1 s1 => ?_⟩
  refine ⟨_, rfl, _, _, _, rfl, _, rfl, ?_⟩
  rw [decide_eq_true (show (0 : Int) ≤ (sz : Int) ∧ (sz : Int) ≤ 4096 by omega)]
  have hpT : SqT K H p rest := SqT.of hp
  refine iteF ⟨_, rfl, _, rfl, sz, p, rest, ps, s1.tup hpT, Paired.mapP hprs fun v e ⟨r, x, y⟩ => ⟨r, x, s1.tup y⟩, hok, hsz, hpl, rfl, fun H2 s2 => ⟨_, rfl, iteF ?_⟩⟩
  have s2 := s1.trans s2
  refine ⟨_, rfl, _, rfl, m, t, rfl, hm, ht, ?_⟩
  refine ⟨a, dx, [], rfl, s2 _ _ ha, _, rfl, _, rfl, _, rfl, _, rfl, _, rfl, a, _, dx, z, m, t, [.int (sz : Int), .ref p], T.m_Sparse.mc, s2 _ _ ha, Nat.le_of_ble_eq_true rfl, rfl, fun kv H3 s3 e3 => ?_⟩
  refine ⟨_, rfl, _, rfl, a, _, dx, _, rfl, e3, T.m_Sparse.cls, T.m_Sparse.na _ (by decide), Nat.lt_of_lt_of_le (Nat.lt_succ_self 4) (by decide), ?_⟩
  refine ⟨_, rfl, _, rfl, a, _, dx, _, rfl, upd_same, T.m_Sparse.cls, T.m_Sparse.na _ (by decide), Nat.lt_of_lt_of_le (Nat.lt_succ_self 5) (by decide), ?_⟩
  exact k kv p _ (by rw [hid_upd (by simp), hid_upd (by simp)]; exact (hid_same s2).trans s3) hpT upd_same
/-! ### contents -/
def spFContent (K : PySem.W.Frag) : Sp := fun vs H Q _ => ∃ a dx fs b, H a = some (.ins (cl K "File") dx fs) ∧ fs.lookup ("data" : Str) = some (.byt b) ∧ vs = [.ref a] ∧ Q (.byt b) H
theorem g_File_content (T : Txt P K mg) : Dm P w K mg base (cl K "File") "content" 1 (spFContent K) := by
  refine T.h_File_content.mk sc_File_content (fun _ _ _ _ _ _ us hl => match us, hl with | [_], _ => rfl) (fun vs H Q E h => ?_) (fun f cdv A outer s H vs Q E hr h => ?_)
  · obtain ⟨a, dx, fs, b, _, _, rfl, _⟩ := h; rfl
  · obtain ⟨a, dx, fs, b, ha, hf, rfl, k⟩ := h
    refine ⟨_, pss_one (ps_ret (pe_fld (pv 0) (by rfl))), ?_⟩
    exact ⟨_, rfl, a, _, dx, fs, _, rfl, ha, T.m_File.cls, T.m_File.na _ (by decide), hf, k⟩
theorem fill_size : ∀ {ps : List (Nat × List Int)} {acc : Array UInt8} {a sz : Nat}, PiecesOk a sz ps → acc.size ≤ a → a ≤ sz + 1 → acc.size ≤ sz → (fill acc ps).size ≤ sz
  | [], acc, a, sz, _, h1, h2, h3 => h3
  | (o, d) :: r, acc, a, sz, .cons h h1 hb t, ha, h2, h3 => by
    have e : (acc ++ zB (o - acc.size) ++ bA d).size = o + d.length := by
      simp only [Array.size_append, bA_size, zB, Array.size_replicate]
      omega
    have hsz := (PiecesOk.cons h h1 hb t).all (o, d) List.mem_cons_self
    have hsz : o + d.length ≤ sz := hsz.2.1
    exact fill_size (acc := acc ++ zB (o - acc.size) ++ bA d) t (by rw [e]; omega) (by omega) (by rw [e]; exact hsz)
def spSContent (K : PySem.W.Frag) : Sp := fun vs H Q _ => ∃ a dx fs q prs ps sz, H a = some (.ins (cl K "Sparse") dx fs) ∧ fs.lookup ("size" : Str) = some (.int ((sz : Nat) : Int)) ∧ fs.lookup ("pieces" : Str) = some (.ref q) ∧ SqT K H q prs ∧ Paired (PcV K H) prs ps ∧ PiecesOk 0 sz ps ∧ sz ≤ 4096 ∧ ps.length ≤ 2 ∧ vs = [.ref a] ∧
  Q (.byt (content (.sparse sz ps))) H
theorem g_Sparse_content (T : Txt P K mg) : Dm P w K mg base (cl K "Sparse") "content" 1 (spSContent K) := by
  refine T.h_Sparse_content.mk sc_Sparse_content (fun _ _ _ _ _ _ us hl => match us, hl with | [_], _ => rfl) (fun vs H Q E h => ?_) (fun f cdv A outer s H vs Q E hr h => ?_)
  · obtain ⟨a, dx, fs, q, prs, ps, sz, _, _, _, _, _, _, _, _, rfl, _⟩ := h; rfl
  · obtain ⟨a, dx, fs, q, prs, ps, sz, ha, hf1, hf2, hq, hp, hok, hsz, hpl, rfl, k⟩ := h
    have hlen : prs.length = ps.length := Paired.length hp
    have hall := hok.all
    refine ⟨_, pss_cons (pset 1 sc_Sparse_content.nd (pe_callTy0 call_bytes0 (by rfl) T.f_bytes (by decide +kernel)))
      (pss_cons (ps_for PassesOwn.never rfl (pi_tup (pe_fld (pv 0) (by rfl))) (pg_tup rfl (pgs_cons (pg_name (i := 2) sc_Sparse_content.nd rfl (Or.inl rfl)) (pgs_cons (pg_name (i := 3) sc_Sparse_content.nd rfl (Or.inl rfl)) pgs_nil)))
        (pss_one (pset 1 sc_Sparse_content.nd (pe_op op_add_byt (pe_op op_add_byt (pv 1) (pe_callTy call_bytesN (by rfl) T.f_bytes (by decide +kernel) (pa_cons (pe_sub (pv 2) (pe_callB call_len (by rfl) T.f_len PySem.boot_len (pa_cons (pv 1) pa_nil))) pa_nil))) (pv 3)))))
        (pss_one (ps_ret (pe_op op_add_byt (pv 1) (pe_callTy call_bytesN (by rfl) T.f_bytes (by decide +kernel) (pa_cons (pe_sub (pe_fld (pv 0) (by rfl)) (pe_callB call_len (by rfl) T.f_len PySem.boot_len (pa_cons (pv 1) pa_nil))) pa_nil)))))), ?_⟩
    refine ⟨rfl, ?_⟩
    refine ⟨_, rfl, a, _, dx, fs, _, rfl, ha, T.m_Sparse.cls, T.m_Sparse.na _ (by decide), hf2, q, rfl, ⟨_, hq⟩, ?_⟩
    refine for_it (L2.walk_tup (K := K) (a := q) (xs := prs)) (fun i σ H' => H' = H ∧ ∃ (b : Nat) (acc : Array UInt8) (u v : Option V), PiecesOk b sz (ps.drop i) ∧ acc.size ≤ b ∧ acc.size ≤ sz ∧ fill acc (ps.drop i) = fill #[] ps ∧ σ = [some (.ref a), some (.byt acc), u, v]) ?_ ?_ ?_ ?_
    · exact ⟨rfl, 0, #[], _, _, hok, Nat.le_refl _, Nat.zero_le _, rfl, rfl⟩
    · rintro i σ H' hi ⟨rfl, _⟩; exact hq
    · rintro i x σ H' H'' hi ⟨rfl, b, acc, u, v, hb, z1, z2, hf, rfl⟩ ⟨rfl, hx⟩
      obtain ⟨e, he, r, rfl, hr3⟩ : ∃ e, ps[i]? = some e ∧ PcV K H'' x e := by
        obtain ⟨e, he, r⟩ := L2.paired_get hp hx
        exact ⟨e, he, r⟩
      rw [hlen] at hi
      rw [List.drop_eq_getElem_cons hi] at hb hf
      rw [List.getElem?_eq_getElem hi] at he
      have he := Option.some.inj he
      have hm : e ∈ ps := by rw [← he]; exact List.getElem_mem hi
      have ha2 := hall e hm
      rw [he] at hb hf
      obtain ⟨o, d⟩ := e
      cases hb with
      | cons h1 h2 h3 t =>
      have ha3 : o + d.length ≤ sz := ha2.2.1
      have es : (acc ++ zB (o - acc.size) ++ bA d).size = o + d.length := by
        simp only [Array.size_append, bA_size, zB, Array.size_replicate]
        omega
      have es1 : (acc ++ zB (o - acc.size)).size = o := by
        simp only [Array.size_append, zB, Array.size_replicate]
        omega
      refine ⟨r, _, rfl, hr3, rfl, _, _, rfl, _, _, rfl, rfl, ?_⟩
      refine ⟨_, rfl, _, rfl, _, rfl, _, _, rfl, ⟨sizeB' (by omega), rfl⟩, _, _, rfl, rfl, _, rfl, by omega, by omega, _, _, rfl, rfl, ?_, _, rfl, _, _, rfl, rfl, ?_, ?_⟩
      · simp only [Array.size_replicate]; omega
      · rw [bA_size]
        have := es1
        simp only [Array.size_append, Array.size_replicate] at this ⊢
        omega
      · have en : ((o : Int) - (acc.size : Int)).toNat = o - acc.size := by omega
        show _ ∧ _
        rw [en]
        exact ⟨rfl, o + d.length + 1, acc ++ zB (o - acc.size) ++ bA d, _, _, t, by rw [es]; omega, by rw [es]; exact ha3, hf, rfl⟩
    · rintro σ H' ⟨rfl, b, acc, u, v, hb, z1, z2, hf, rfl⟩
      rw [hlen, List.drop_length] at hb hf
      have hf : acc = fill #[] ps := hf
      subst hf
      refine ⟨_, rfl, _, rfl, a, _, dx, fs, _, rfl, ha, T.m_Sparse.cls, T.m_Sparse.na _ (by decide), hf1, ?_⟩
      refine ⟨_, rfl, _, (fill #[] ps).size, rfl, ⟨sizeB' (by omega), rfl⟩, _, _, rfl, rfl, _, rfl, by omega, by omega, _, _, rfl, rfl, ?_, ?_⟩
      · simp only [Array.size_replicate]; omega
      · have en : ((sz : Int) - ((fill #[] ps).size : Int)).toNat = sz - (fill #[] ps).size := by omega
        rw [en]
        exact k
/-! ### members in the heap -/
def memC : Pay → Str
  | .file _ => "File" | .dir => "Directory" | .sym _ => "Symlink" | .link _ => "Link" | .sparse _ _ => "Sparse"
def memK : Pay → Str
  | .file _ => "file" | .dir => "directory" | .sym _ => "symlink" | .link _ => "link" | .sparse _ _ => "sparse"
inductive PayAt (K : PySem.W.Frag) (ν : Nat → Str) (H : Hp) : Pay → List (Str × V) → Prop where
  | file {ns : List Int} : PayAt K ν H (.file ns) [("data", .byt (bA ns))]
  | dir : PayAt K ν H .dir []
  | sym {tg : Str} : PayAt K ν H (.sym tg) [("target", .str tg)]
  | link {t : Pth} : PayAt K ν H (.link t) [("target", .str (nm ν t))]
  | sparse {sz : Nat} {ps : List (Nat × List Int)} {q : Addr} {prs : List V} (h : SqT K H q prs) (hp : Paired (PcV K H) prs ps) : PayAt K ν H (.sparse sz ps) [("size", .int (sz : Int)), ("pieces", .ref q)]
/-- a member -/
def MemAt (K : PySem.W.Frag) (ν : Nat → Str) (H : Hp) (v : V) (sp : Spec) : Prop :=
  ∃ a dx kv fs, v = .ref a ∧ H a = some (.ins (cl K (memC sp.pay)) dx (mF (nm ν sp.name) sp.m sp.t kv ++ fs)) ∧ PayAt K ν H sp.pay fs
theorem PayAt.mono {ν : Nat → Str} {H H' : Hp} {p : Pay} {fs : List (Str × V)} (h : PayAt K ν H p fs) (s : Same H H') : PayAt K ν H' p fs := by
  cases h with
  | file => exact .file
  | dir => exact .dir
  | sym => exact .sym
  | link => exact .link
  | sparse h hp => exact .sparse (s.tup h) (Paired.mapP hp fun v e ⟨r, x, y⟩ => ⟨r, x, s.tup y⟩)
theorem MemAt.mono {ν : Nat → Str} {H H' : Hp} {v : V} {sp : Spec} (h : MemAt K ν H v sp) (s : Same H H') : MemAt K ν H' v sp := by
  obtain ⟨a, dx, kv, fs, h1, h2, h3⟩ := h
  exact ⟨a, dx, kv, fs, h1, s _ _ h2, h3.mono s⟩
/-- what every member class keeps -/
theorem mem_cls (T : Txt P K mg) (p : Pay) : Cls K (cl K (memC p)) ∧ (∃ u, Con K (cl K (memC p)) "KIND" (.str (memK p)) u) ∧ ∀ f ∈ mNames, NoAttr K (cl K (memC p)) f := by
  cases p with
  | file _ => exact ⟨T.m_File.cls, T.m_File.con, T.m_File.na⟩
  | dir => exact ⟨T.m_Directory.cls, T.m_Directory.con, T.m_Directory.na⟩
  | sym _ => exact ⟨T.m_Symlink.cls, T.m_Symlink.con, T.m_Symlink.na⟩
  | link _ => exact ⟨T.m_Link.cls, T.m_Link.con, T.m_Link.na⟩
  | sparse _ _ => exact ⟨T.m_Sparse.cls, T.m_Sparse.con, T.m_Sparse.na⟩
theorem PayAt.kind_none {ν : Nat → Str} {H : Hp} {p : Pay} {fs : List (Str × V)} {z : Str} {m t : Int} {kv : V} (h : PayAt K ν H p fs) : (mF z m t kv ++ fs).lookup ("KIND" : Str) = none := by
  cases h <;> rfl
/-- one of two readings -/
theorem pe_alt {X : Cx} {e : Expr} {t u : TE} (h1 : PE X e t) (h2 : PE X e u) : PE X e (fun σ H Q => t σ H Q ∨ u σ H Q) :=
  ⟨fun pins s σ H Q I h => h.elim (h1.run pins s σ H Q I) (h2.run pins s σ H Q I)⟩
end K89
set_option Elab.async false
set_option linter.all false
set_option maxRecDepth 100000
set_option maxHeartbeats 4000000
/-! K89.P13: refusal_at, refusal. -/
namespace K89
open PySem PySem.Spec PyProof.Rows L2
variable {P : Program} {w : World} {K : PySem.W.Frag} {mg : Str → Option Value} {base : Heap}
def wordAt (L : AL) (sp : Spec) : Str := match sp.pay with
  | .dir => if kd (lkp L sp.name) = .file ∨ kd (lkp L sp.name) = .sym then "occupied" else ""
  | .link t => if kd (lkp L sp.name) = .dir then "directory" else if kd (lkp L t) = .file then "" else "target"
  | _ => if kd (lkp L sp.name) = .dir then "directory" else ""
theorem word_eq (L : AL) (sp : Spec) : word L sp = if clearA L sp.name = false then ("parent" : Str) else wordAt L sp := rfl
/-- the target handed on: of a hard link its file's path -/
def tgOf (ν : Nat → Str) : Pay → Str
  | .link t => nm ν t
  | _ => ""
theorem in_kinds (k : Kd) (c d : Kd) : inV (.str (kdS k)) [.str (kdS c), .str (kdS d)] = (decide (k = c) || decide (k = d)) := by
  have e : ∀ a b : Kd, (kdS a == kdS b) = decide (b = a) := fun a b => by
    rw [Bool.eq_iff_iff]
    simp only [beq_iff_eq, decide_eq_true_eq]
    exact ⟨fun z => (kdS_eq.mp z).symm, fun z => by rw [z]⟩
  simp only [inV, List.any_cons, List.any_nil, eqV, Bool.or_false]
  rw [e, e]
def spRefAt (K : PySem.W.Frag) : Sp := fun vs H Q _ => ∃ ν a S v sp, HouseS K ν H a S ∧ MemAt K ν H v sp ∧ SpOk sp ∧ vs = [.ref a, .str (nm ν sp.name), v, .str (tgOf ν sp.pay)] ∧ ∀ H', Same H H' → Q (.str (wordAt S.L sp)) H'
theorem g_refusal_at (T : Txt P K mg) : Dg P w K mg base "refusal_at" 3 (spRefAt K) := by
  refine T.h_refusal_at.mk sc_refusal_at (fun _ _ _ _ _ _ us hl => match us, hl with | [_, _, _, _], _ => rfl) (fun vs H Q E h => ?_) (fun f cdv A outer s H vs Q E hr h => ?_)
  · obtain ⟨ν, a, S, v, sp, _, _, _, rfl, _⟩ := h; rfl
  · obtain ⟨ν, a, S, v, sp, hS, ⟨ma, dx, kv, fs, rfl, m1, m2⟩, hok, rfl, k⟩ := h
    obtain ⟨c1, ⟨u, c2⟩, c3⟩ := mem_cls T sp.pay
    obtain ⟨N, key, hdx, sd, fd, rw, kvs, kfs, h1, h2, h3, h4, h5⟩ := id hS
    refine ⟨_, pss_cons (pset 4 sc_refusal_at.nd (pe_m (pv 0) T.c_House (g_House_kind_at T) hr (pa_cons (pv 1) pa_nil)))
      (pss_cons (ps_if (pt_cmpR op_eq (pe_con (pv 2) (by rfl)) pe_str rfl) (pss_one (ps_ret (pe_ifExp (pt_cmpR (r := rIn K false) op_in_seq (pv 4) (pe_tup (pa_cons pe_str (pa_cons pe_str pa_nil))) rfl) pe_str pe_str))) pss_nil)
        (pss_cons (ps_if (pt_cmpR op_eq (pv 4) pe_str rfl) (pss_one (ps_ret pe_str)) pss_nil)
          (pss_cons (ps_if (PW.pt (pw_and (pt_cmpR op_eq (pe_con (pv 2) (by rfl)) pe_str rfl) (pw_and1 (pt_cmpR op_ne (pe_m (pv 0) T.c_House (g_House_kind_at T) hr (pa_cons (pv 3) pa_nil)) pe_str rfl)))) (pss_one (ps_ret pe_str)) pss_nil)
            (pss_one (ps_ret pe_str))))), ?_⟩
    refine ⟨_, rfl, _, _, _, rfl, h1, rfl, _, rfl, ν, a, S, sp.name, hS, hok.name, rfl, ?_⟩
    refine ⟨_, rfl, ma, _, dx, _, _, u, rfl, m1, c1, c2, m2.kind_none, rfl, _, rfl, ?_⟩
    obtain ⟨nmp, m, t, pay⟩ := sp
    cases pay with
    | dir =>
      rw [show decide (V.str (memK Pay.dir) = V.str (Str.ofString "directory")) = true from decide_eq_true rfl]
      refine iteT ⟨_, rfl, sizeB' (Nat.le_of_ble_eq_true rfl), fun q hq => ⟨q, _, rfl, .inr (SqT.of upd_same), rfl, rfl, _, rfl, ?_⟩⟩
      rw [show inV (V.str (kdS (kd (lkp S.L nmp)))) [V.str (Str.ofString "file"), V.str (Str.ofString "symlink")] = (decide (kd (lkp S.L nmp) = .file) || decide (kd (lkp S.L nmp) = .sym)) from in_kinds _ .file .sym]
      have kk := k _ (same_new (o := .tup [.str "file", .str "symlink"]) hq)
      unfold wordAt at kk
      simp only at kk
      by_cases hc : kd (lkp S.L nmp) = .file ∨ kd (lkp S.L nmp) = .sym
      · rw [if_pos hc] at kk
        rw [show (decide (kd (lkp S.L nmp) = .file) || decide (kd (lkp S.L nmp) = .sym)) = true by simpa using hc]
        exact iteT kk
      · rw [if_neg hc] at kk
        rw [show (decide (kd (lkp S.L nmp) = .file) || decide (kd (lkp S.L nmp) = .sym)) = false by simpa using hc]
        exact iteF kk
    | link tp =>
      rw [show decide (V.str (memK (Pay.link tp)) = V.str (Str.ofString "directory")) = false from (by decide +kernel : decide (V.str (Str.ofString "link") = V.str (Str.ofString "directory")) = false)]
      refine iteF ⟨_, rfl, rfl, _, rfl, ?_⟩
      rw [show decide (V.str (kdS (kd (lkp S.L nmp))) = V.str (Str.ofString "directory")) = decide (kd (lkp S.L nmp) = .dir) from dec_kd _ .dir]
      have kk := k _ (Same.refl _)
      unfold wordAt at kk
      simp only at kk
      by_cases hd : kd (lkp S.L nmp) = .dir
      · rw [if_pos hd] at kk
        rw [decide_eq_true hd]
        exact iteT kk
      · rw [if_neg hd] at kk
        rw [decide_eq_false hd]
        refine iteF ⟨_, rfl, ma, _, dx, _, _, u, rfl, m1, c1, c2, m2.kind_none, rfl, _, rfl, ?_⟩
        rw [show decide (V.str (memK (Pay.link tp)) = V.str (Str.ofString "link")) = true from decide_eq_true rfl]
        refine iteT ⟨_, rfl, _, _, _, rfl, h1, rfl, _, rfl, ν, a, S, tp, hS, hok.pay, rfl, rfl, _, rfl, ?_⟩
        rw [dec_file]
        by_cases hf : kd (lkp S.L tp) = .file
        · rw [if_pos hf] at kk
          rw [decide_eq_true hf]
          exact iteF kk
        · rw [if_neg hf] at kk
          rw [decide_eq_false hf]
          exact iteT kk
    | file ns =>
      rw [show decide (V.str (memK (Pay.file ns)) = V.str (Str.ofString "directory")) = false from (by decide +kernel : decide (V.str (Str.ofString "file") = V.str (Str.ofString "directory")) = false)]
      refine iteF ⟨_, rfl, rfl, _, rfl, ?_⟩
      rw [show decide (V.str (kdS (kd (lkp S.L nmp))) = V.str (Str.ofString "directory")) = decide (kd (lkp S.L nmp) = .dir) from dec_kd _ .dir]
      have kk := k _ (Same.refl _)
      unfold wordAt at kk
      simp only at kk
      by_cases hd : kd (lkp S.L nmp) = .dir
      · rw [if_pos hd] at kk
        rw [decide_eq_true hd]
        exact iteT kk
      · rw [if_neg hd] at kk
        rw [decide_eq_false hd]
        refine iteF ⟨_, rfl, ma, _, dx, _, _, u, rfl, m1, c1, c2, m2.kind_none, rfl, _, rfl, ?_⟩
        rw [show decide (V.str (memK (Pay.file ns)) = V.str (Str.ofString "link")) = false from (by decide +kernel : decide (V.str (Str.ofString "file") = V.str (Str.ofString "link")) = false)]
        exact iteF (iteF kk)
    | sym tg =>
      rw [show decide (V.str (memK (Pay.sym tg)) = V.str (Str.ofString "directory")) = false from (by decide +kernel : decide (V.str (Str.ofString "symlink") = V.str (Str.ofString "directory")) = false)]
      refine iteF ⟨_, rfl, rfl, _, rfl, ?_⟩
      rw [show decide (V.str (kdS (kd (lkp S.L nmp))) = V.str (Str.ofString "directory")) = decide (kd (lkp S.L nmp) = .dir) from dec_kd _ .dir]
      have kk := k _ (Same.refl _)
      unfold wordAt at kk
      simp only at kk
      by_cases hd : kd (lkp S.L nmp) = .dir
      · rw [if_pos hd] at kk
        rw [decide_eq_true hd]
        exact iteT kk
      · rw [if_neg hd] at kk
        rw [decide_eq_false hd]
        refine iteF ⟨_, rfl, ma, _, dx, _, _, u, rfl, m1, c1, c2, m2.kind_none, rfl, _, rfl, ?_⟩
        rw [show decide (V.str (memK (Pay.sym tg)) = V.str (Str.ofString "link")) = false from (by decide +kernel : decide (V.str (Str.ofString "symlink") = V.str (Str.ofString "link")) = false)]
        exact iteF (iteF kk)
    | sparse sz ps =>
      rw [show decide (V.str (memK (Pay.sparse sz ps)) = V.str (Str.ofString "directory")) = false from (by decide +kernel : decide (V.str (Str.ofString "sparse") = V.str (Str.ofString "directory")) = false)]
      refine iteF ⟨_, rfl, rfl, _, rfl, ?_⟩
      rw [show decide (V.str (kdS (kd (lkp S.L nmp))) = V.str (Str.ofString "directory")) = decide (kd (lkp S.L nmp) = .dir) from dec_kd _ .dir]
      have kk := k _ (Same.refl _)
      unfold wordAt at kk
      simp only at kk
      by_cases hd : kd (lkp S.L nmp) = .dir
      · rw [if_pos hd] at kk
        rw [decide_eq_true hd]
        exact iteT kk
      · rw [if_neg hd] at kk
        rw [decide_eq_false hd]
        refine iteF ⟨_, rfl, ma, _, dx, _, _, u, rfl, m1, c1, c2, m2.kind_none, rfl, _, rfl, ?_⟩
        rw [show decide (V.str (memK (Pay.sparse sz ps)) = V.str (Str.ofString "link")) = false from (by decide +kernel : decide (V.str (Str.ofString "sparse") = V.str (Str.ofString "link")) = false)]
        exact iteF (iteF kk)
end K89
set_option Elab.async false
set_option linter.all false
set_option maxRecDepth 100000
set_option maxHeartbeats 4000000
/-! K89.P14: refusal, put_at, put_member. -/
namespace K89
open PySem PySem.Spec PyProof.Rows L2
variable {P : Program} {w : World} {K : PySem.W.Frag} {mg : Str → Option Value} {base : Heap}
def isLnk : Pay → Bool
  | .link _ => true
  | _ => false
theorem dec_link (p : Pay) : decide (V.str (memK p) = V.str (Str.ofString "link")) = isLnk p := by
  cases p with
  | link t => exact decide_eq_true rfl
  | file ns => exact (by decide +kernel : decide (V.str (Str.ofString "file") = V.str (Str.ofString "link")) = false)
  | dir => exact (by decide +kernel : decide (V.str (Str.ofString "directory") = V.str (Str.ofString "link")) = false)
  | sym tg => exact (by decide +kernel : decide (V.str (Str.ofString "symlink") = V.str (Str.ofString "link")) = false)
  | sparse sz ps => exact (by decide +kernel : decide (V.str (Str.ofString "sparse") = V.str (Str.ofString "link")) = false)
/-- member.target if member.KIND == 'link' else '' -/
theorem tg_run (T : Txt P K mg) {ν : Nat → Str} {H : Hp} {σ : L2.St} {v : V} {sp : Spec} {Q : VK} (i : Nat) (hσ : σ[i]? = some (some v)) (hM : MemAt K ν H v sp) (k : Q (.str (tgOf ν sp.pay)) H) :
    tIf (tTest (tOp rEq (tCon K (tVar i) "KIND") (tC (.str "link")))) (tFld K (tVar i) "target") (tC (.str "")) σ H Q := by
  obtain ⟨ma, dx, kv, fs, rfl, m1, m2⟩ := hM
  obtain ⟨c1, ⟨u, c2⟩, c3⟩ := mem_cls T sp.pay
  refine ⟨_, hσ, ma, _, dx, _, _, u, rfl, m1, c1, c2, m2.kind_none, rfl, _, rfl, ?_⟩
  rw [dec_link]
  obtain ⟨nmp, m, t, pay⟩ := sp
  cases m2 with
  | link => 
    exact iteT ⟨_, hσ, ma, _, dx, _, _, rfl, m1, c1, c3 _ (by decide), rfl, k⟩
  | file => exact iteF k
  | dir => exact iteF k
  | sym => exact iteF k
  | sparse _ _ => exact iteF k
theorem MemAt.fld (T : Txt P K mg) {ν : Nat → Str} {H : Hp} {v : V} {sp : Spec} (hM : MemAt K ν H v sp) {Q : VK} {σ : L2.St} {i : Nat} (hσ : σ[i]? = some (some v)) :
    (Q (.str (nm ν sp.name)) H → tFld K (tVar i) "name" σ H Q) ∧ (Q (.int sp.m) H → tFld K (tVar i) "mode" σ H Q) ∧ (Q (.int sp.t) H → tFld K (tVar i) "time" σ H Q) := by
  obtain ⟨ma, dx, kv, fs, rfl, m1, m2⟩ := hM
  obtain ⟨c1, ⟨u, c2⟩, c3⟩ := mem_cls T sp.pay
  exact ⟨fun k => ⟨_, hσ, ma, _, dx, _, _, rfl, m1, c1, c3 _ (by decide), rfl, k⟩, fun k => ⟨_, hσ, ma, _, dx, _, _, rfl, m1, c1, c3 _ (by decide), rfl, k⟩, fun k => ⟨_, hσ, ma, _, dx, _, _, rfl, m1, c1, c3 _ (by decide), rfl, k⟩⟩
def spRefusal (K : PySem.W.Frag) : Sp := fun vs H Q _ => ∃ ν a S v sp, HouseS K ν H a S ∧ MemAt K ν H v sp ∧ SpOk sp ∧ vs = [.ref a, v] ∧ ∀ H', Same H H' → Q (.str (word S.L sp)) H'
theorem all_map {α : Type} (l : List α) (f : α → Bool) : (l.map f).all id = l.all f := by
  induction l with
  | nil => rfl
  | cons x r ih => rw [List.map_cons, List.all_cons, List.all_cons, ih]; rfl
theorem g_refusal (T : Txt P K mg) : Dg P w K mg base "refusal" 4 (spRefusal K) := by
  refine T.h_refusal.mk sc_refusal (fun _ _ _ _ _ _ us hl => match us, hl with | [_, _], _ => rfl) (fun vs H Q E h => ?_) (fun f cdv A outer s H vs Q E hr h => ?_)
  · obtain ⟨ν, a, S, v, sp, _, _, _, rfl, _⟩ := h; rfl
  · obtain ⟨ν, a, S, v, sp, hS, hM, hok, rfl, k⟩ := h
    obtain ⟨N, key, hdx, sd, fd, rw, kvs, kfs, h1, h2, h3, h4, h5⟩ := id hS
    refine ⟨_, pss_cons (ps_if (pt_not (pt_val (pe_g (g_is_path T) hr (pa_cons (pe_fld (pv 1) (by rfl)) pa_nil)))) (pss_one (ps_ret pe_str)) pss_nil)
      (pss_cons (ps_if (pt_not (pt_val (pe_callB (cr_all rfl) (by rfl) T.f_all (by decide +kernel) (pa_cons
          (pe_lc (own := [("path", 2)]) (g := gName 2) (tt := tYes) rfl sc_refusal.nd (pi_list (pe_g (g_above T) hr (pa_cons (pe_fld (pv 1) (by rfl)) pa_nil))) (blkOk_by (N := N_refusal) (sc := defScope s_refusal) (by decide +kernel))
            (fun _ _ _ _ _ => pg_name (i := 2) sc_refusal.nd rfl (Or.inl rfl)) (fun _ _ _ _ _ => pts_nil) (fun _ _ _ _ _ => pe_cmpR (r := rIn K false) op_in_seq (pe_m (pv 0) T.c_House (g_House_kind_at T) hr (pa_cons (pv 2) pa_nil)) (pe_tup (pa_cons pe_str (pa_cons pe_str pa_nil))) (by rfl))) pa_nil)))) (pss_one (ps_ret pe_str)) pss_nil)
        (pss_one (ps_ret (pe_g (g_refusal_at T) hr (pa_cons (pv 0) (pa_cons (pe_fld (pv 1) (by rfl)) (pa_cons (pv 1) (pa_cons (pe_ifExp (pt_cmpR op_eq (pe_con (pv 1) (by rfl)) pe_str rfl) (pe_fld (pv 1) (by rfl)) pe_str) pa_nil)))))))), ?_⟩
    refine (hM.fld T (i := 1) rfl).1 ⟨ν, sp.name, N, hok.name, rfl, fun H1 s1 => ⟨_, rfl, iteF ?_⟩⟩
    refine ((hM.mono s1).fld T (i := 1) rfl).1 ⟨ν, sp.name, N, hok.name, rfl, fun l H2 s2 hl0 hl => ?_⟩
    have s2 := s1.trans s2
    have hpl := hok.name.le
    have hal : (abv sp.name).length ≤ 4 := by simp [abv]; omega
    refine ⟨l, rfl, ⟨_, SqL.of hl⟩, fun D hD => ?_⟩
    refine lc_pure (L2.walk_list (K := K) (a := l) (xs := (abv sp.name).map fun q => V.str (nm ν q))) ((abv sp.name).map fun q => V.bl (decide (kd (lkp S.L q) = .absent) || decide (kd (lkp S.L q) = .dir))) (by simp) (sizeB (by simp; omega)) hD (fun H3 s3 => s3.seq (SqL.of hl)) (fun i x H3 H' Pz hi s3 y hP => ?_) fun H3 s3 hL3 => ?_
    · obtain ⟨rfl, hx⟩ := y
      rw [List.length_map] at hi
      rw [List.getElem?_map, List.getElem?_eq_getElem hi] at hx
      have hx := (Option.some.inj hx).symm
      subst hx
      have hq := abv_ok hok.name (List.getElem_mem hi)
      refine ⟨rfl, _, rfl, _, _, _, rfl, s3 _ _ (s2 _ _ h1), rfl, _, rfl, ν, a, S, _, hS.mono (s2.trans s3), hq, rfl, sizeB' (Nat.le_of_ble_eq_true rfl), fun q hq0 => ⟨q, _, rfl, .inr (SqT.of upd_same), rfl, rfl, ?_⟩⟩
      rw [show inV (V.str (kdS (kd (lkp S.L (abv sp.name)[i])))) [V.str (Str.ofString "absent"), V.str (Str.ofString "directory")] = _ from in_kinds _ .absent .dir]
      refine hP _ _ (same_new hq0) ?_
      rw [List.getElem?_map, List.getElem?_eq_getElem hi]
      rfl
    · refine ⟨D, (abv sp.name).map fun q => (decide (kd (lkp S.L q) = .absent) || decide (kd (lkp S.L q) = .dir)), rfl, SqL.of (by rw [hL3, List.map_map]; rfl), _, rfl, ?_⟩
      rw [all_map]
      have s3 := s2.trans s3
      have hw := word_eq S.L sp
      cases hc : clearA S.L sp.name with
      | false =>
        rw [hc, if_pos rfl] at hw
        have hc : ((abv sp.name).all fun q => decide (kd (lkp S.L q) = .absent) || decide (kd (lkp S.L q) = .dir)) = false := hc
        rw [hc]
        refine iteT ?_
        have := k _ s3
        rw [hw] at this
        exact this
      | true =>
        rw [hc, if_neg (by simp)] at hw
        have hc : ((abv sp.name).all fun q => decide (kd (lkp S.L q) = .absent) || decide (kd (lkp S.L q) = .dir)) = true := hc
        rw [hc]
        refine iteF ?_
        refine ⟨_, rfl, ((hM.mono s3).fld T (i := 1) rfl).1 ⟨_, rfl, tg_run T 1 rfl (hM.mono s3) ⟨ν, a, S, v, sp, hS.mono s3, hM.mono s3, hok, rfl, fun H4 s4 => ?_⟩⟩⟩
        have := k _ (s3.trans s4)
        rw [hw] at this
        exact this
end K89
set_option Elab.async false
set_option linter.all false
set_option maxRecDepth 100000
set_option maxHeartbeats 4000000
/-! K89.P15: put_at, put_member. -/
namespace K89
open PySem PySem.Spec PyProof.Rows L2
variable {P : Program} {w : World} {K : PySem.W.Frag} {mg : Str → Option Value} {base : Heap}
def spPutAt (K : PySem.W.Frag) : Sp := fun vs H Q _ => ∃ ν a sd fd S v sp, HM K ν H a sd fd S ∧ MemAt K ν (hid H [sd, fd]) v sp ∧ SpOk sp ∧ word S.L sp = "" ∧ S.L.length ≤ 900 ∧ S.F.length ≤ 900 ∧ vs = [.ref a, .str (nm ν sp.name), v, .str (tgOf ν sp.pay)] ∧
  ∀ H', Same (hid H [sd, fd]) (hid H' [sd, fd]) → HM K ν H' a sd fd (step S sp) → Q .non H'
theorem mkA_drop (L : AL) (q : Pth) (r : List Pth) : mkA L (q :: r) = mkA (if (lkp L q).isSome then L else putp L q (.dir 493 0)) r := rfl
theorem dec_absent (o : Option Th) : decide (V.str (kdS (kd o)) = V.str (Str.ofString "absent")) = !o.isSome := by
  rw [show decide (V.str (kdS (kd o)) = V.str (Str.ofString "absent")) = _ from dec_kd _ .absent]
  cases o with
  | none => rfl
  | some x => cases x <;> rfl
theorem sqT_fresh {H : Hp} {l : List Addr} {b : Addr} {xs : List V} (hb : H b = none) (h : ∀ c ∈ l, ∃ o, H c = some o) : SqT K (hid (upd H b (.tup xs)) l) b xs :=
  SqT.of (hid_at upd_same fun z => by obtain ⟨o, e⟩ := h b z; rw [hb] at e; cases e)
theorem HM.dom {ν : Nat → Str} {H : Hp} {a sd fd : Addr} {S : Hs} (h : HM K ν H a sd fd S) : ∀ c ∈ [sd, fd], ∃ o, H c = some o := by
  obtain ⟨N, key, ne, dx, rw, kvs, kfs, h1, h2, h3, h4, h5⟩ := h
  intro c hc
  simp only [List.mem_cons, List.not_mem_nil, or_false] at hc
  rcases hc with rfl | rfl
  · exact ⟨_, h2⟩
  · exact ⟨_, h4⟩
theorem g_put_at (T : Txt P K mg) : Dg P w K mg base "put_at" 3 (spPutAt K) := by
  refine T.h_put_at.mk sc_put_at (fun _ _ _ _ _ _ us hl => match us, hl with | [_, _, _, _], _ => rfl) (fun vs H Q E h => ?_) (fun f cdv A outer s H vs Q E hr h => ?_)
  · obtain ⟨ν, a, sd, fd, S, v, sp, _, _, _, _, _, _, rfl, _⟩ := h; rfl
  · obtain ⟨ν, a, sd, fd, S, v, sp, hM, hv, hok, hw, z1, z2, rfl, k⟩ := h
    have N := hM.nn
    refine ⟨_, pss_cons (ps_for PassesOwn.never rfl (pi_list (pe_g (g_above T) hr (pa_cons (pv 1) pa_nil))) (pg_name (i := 4) sc_put_at.nd rfl (Or.inl rfl))
        (pss_one (ps_if (pt_cmpR op_eq (pe_m (pv 0) T.c_House (g_House_kind_at T) hr (pa_cons (pv 4) pa_nil)) pe_str rfl)
          (pss_one (ps_expr (pe_m (pv 0) T.c_House (g_House_set_thing T) hr (pa_cons (pv 4) (pa_cons (pe_glob (v := .ref (cl K "MADE")) (by rfl) T.c_MADE rfl) pa_nil))))) pss_nil)))
      (pss_one (ps_match (pe_con (pv 2) (by rfl))
        (pmc_str (pss_one (ps_expr (pe_m (pv 0) T.c_House (g_House_set_thing T) hr (pa_cons (pv 1) (pa_cons (pe_tup (pa_cons pe_str (pa_cons (pe_fld (pv 2) (by rfl)) (pa_cons (pe_fld (pv 2) (by rfl)) pa_nil)))) pa_nil)))))
        (pmc_str (pss_one (ps_expr (pe_m (pv 0) T.c_House (g_House_set_thing T) hr (pa_cons (pv 1) (pa_cons (pe_tup (pa_cons pe_str (pa_cons (pe_fld (pv 2) (by rfl)) (pa_cons (pe_fld (pv 2) (by rfl)) (pa_cons (pe_fld (pv 2) (by rfl)) pa_nil))))) pa_nil)))))
        (pmc_str (pss_one (ps_expr (pe_m (pv 0) T.c_House (g_House_share T) hr (pa_cons (pv 1) (pa_cons (pv 3) pa_nil)))))
        (pmc_any (pss_one (ps_expr (pe_m (pv 0) T.c_House (g_House_set_thing T) hr (pa_cons (pv 1) (pa_cons (pe_tup (pa_cons pe_str (pa_cons (pe_alt (pe_m0 (pv 2) T.m_File.cls (g_File_content T) hr) (pe_m0 (pv 2) T.m_Sparse.cls (g_Sparse_content T) hr)) (pa_cons (pe_fld (pv 2) (by rfl)) (pa_cons (pe_fld (pv 2) (by rfl)) pa_nil))))) pa_nil))))) (rest := []))))))), ?_⟩
    refine ⟨_, rfl, ν, sp.name, N, hok.name, rfl, fun l H1 s1 hl0 hl => ?_⟩
    have hpl := hok.name.le
    have hal : (abv sp.name).length ≤ 3 := by simp [abv]; omega
    have hlm : l ∉ [sd, fd] := fun z => by obtain ⟨o, e⟩ := hM.dom l z; rw [hl0] at e; cases e
    refine ⟨l, rfl, ⟨_, SqL.of hl⟩, ?_⟩
    refine for_it (L2.walk_list (K := K) (a := l) (xs := (abv sp.name).map fun q => V.str (nm ν q)))
      (fun i σ H' => ∃ u L', σ = [some (.ref a), some (.str (nm ν sp.name)), some v, some (.str (tgOf ν sp.pay)), u] ∧ Same (hid H1 [sd, fd]) (hid H' [sd, fd]) ∧ HM K ν H' a sd fd ⟨L', S.F⟩ ∧ mkA L' ((abv sp.name).drop i) = mkA S.L (abv sp.name) ∧ L'.length ≤ S.L.length + i) ?_ ?_ ?_ ?_
    · exact ⟨_, S.L, rfl, Same.refl _, hM.mono s1, rfl, Nat.le_refl _⟩
    · rintro i σ H' hi ⟨u, L', rfl, s2, _⟩
      exact SqL.of (hid_sub _ _ (s2 _ _ (hid_at hl hlm)))
    · rintro i x σ H' H'' hi ⟨u, L', rfl, s2, hM2, he, hz⟩ ⟨rfl, hx⟩
      rw [List.length_map] at hi
      rw [List.getElem?_map, List.getElem?_eq_getElem hi] at hx
      have hx := (Option.some.inj hx).symm
      subst hx
      have hq := abv_ok hok.name (List.getElem_mem hi)
      rw [List.drop_eq_getElem_cons hi, mkA_drop] at he
      have hS2 := hM2.st
      obtain ⟨_, _, dx, rw, kvs, kfs, h1, _⟩ := hM2.at_
      obtain ⟨_, _, _, dx, rw, kvs, kfs, h1, _⟩ := id hM2
      refine ⟨_, rfl, a, dx, _, rfl, h1, rfl, _, rfl, ν, a, ⟨L', S.F⟩, _, hS2, hq, rfl, rfl, _, rfl, ?_⟩
      rw [dec_absent]
      show if (!(lkp L' (abv sp.name)[i]).isSome) = true then _ else _
      cases hc : (lkp L' (abv sp.name)[i]).isSome with
      | true =>
        rw [hc, if_pos rfl] at he
        exact iteF ⟨_, L', rfl, s2, hM2, he, by omega⟩
      | false =>
        rw [hc, if_neg (by simp)] at he
        refine iteT ⟨_, rfl, a, dx, _, rfl, h1, rfl, _, rfl, ν, a, sd, fd, ⟨L', S.F⟩, _, _, _, hM2, hq, .th (x := .dir 493 0) (fun n e => by cases e) (T.t_MADE _), by show L'.length ≤ _; omega, by show S.F.length ≤ _; omega, rfl, fun H3 s3 hM3 => ?_⟩
        refine ⟨_, _, rfl, s2.trans s3, hM3, he, ?_⟩
        have := length_putp L' (abv sp.name)[i] (.dir 493 0)
        rw [hc] at this
        simp only [Bool.false_eq_true, if_false] at this
        show (putp L' (abv sp.name)[i] (.dir 493 0)).length ≤ _
        omega
    · rintro σ H' ⟨u, L', rfl, s2, hM2, he, hz⟩
      rw [List.length_map, List.drop_length] at he
      have he : L' = mkA S.L (abv sp.name) := he
      subst he
      rw [List.length_map] at hz
      have s0 : Same (hid H [sd, fd]) (hid H' [sd, fd]) := (hid_same s1).trans s2
      have hv2 : MemAt K ν H' v sp := (hv.mono s0).mono hid_sub
      have hdom := hM2.dom
      obtain ⟨_, _, _, hdx, rw, kvs, kfs, h1, _⟩ := id hM2
      have hname := hok.name
      have hpay := hok.pay
      obtain ⟨ma, dx, kv, fs, rfl, m1, m2⟩ := id hv2
      obtain ⟨c1, ⟨uu, c2⟩, c3⟩ := mem_cls T sp.pay
      refine ⟨_, rfl, ma, _, dx, _, _, uu, rfl, m1, c1, c2, m2.kind_none, ?_⟩
      obtain ⟨nmp, m, t, pay⟩ := sp
      cases m2 with
      | dir =>
        refine ⟨(Str.ofString "directory"), rfl, ?_⟩
        rw [if_pos rfl]
        refine ⟨_, rfl, a, hdx, _, rfl, h1, rfl, _, rfl, ?_⟩
        refine ⟨_, rfl, ma, _, dx, _, _, rfl, m1, c1, c3 _ (by decide), rfl, _, rfl, ma, _, dx, _, _, rfl, m1, c1, c3 _ (by decide), rfl, sizeB' (Nat.le_of_ble_eq_true rfl), fun b hb => ?_⟩
        refine ⟨ν, a, sd, fd, _, _, nmp, b, hM2.mono (same_new hb), hname, .th (x := .dir m t) (fun n e => by cases e) (sqT_fresh hb hdom), by show (mkA _ _).length ≤ _; omega, by show S.F.length ≤ _; omega, rfl, fun H3 s3 hM3 => k H3 (s0.trans ((hid_new hb).trans s3)) hM3⟩
      | @sym tg =>
        refine ⟨(Str.ofString "symlink"), rfl, ?_⟩
        rw [if_neg (by decide +kernel)]
        refine ⟨(Str.ofString "symlink"), rfl, ?_⟩
        rw [if_pos rfl]
        refine ⟨_, rfl, a, hdx, _, rfl, h1, rfl, _, rfl, ⟨_, rfl, ma, _, dx, _, _, rfl, m1, c1, c3 _ (by decide), rfl, ?_⟩⟩
        refine ⟨_, rfl, ma, _, dx, _, _, rfl, m1, c1, c3 _ (by decide), rfl, _, rfl, ma, _, dx, _, _, rfl, m1, c1, c3 _ (by decide), rfl, sizeB' (Nat.le_of_ble_eq_true rfl), fun b hb => ?_⟩
        refine ⟨ν, a, sd, fd, _, _, nmp, b, hM2.mono (same_new hb), hname, .th (x := .sym tg m t) (fun n e => by cases e) (sqT_fresh hb hdom), by show (mkA _ _).length ≤ _; omega, by show S.F.length ≤ _; omega, rfl, fun H3 s3 hM3 => k H3 (s0.trans ((hid_new hb).trans s3)) hM3⟩
      | @link tp =>
        refine ⟨(Str.ofString "link"), rfl, ?_⟩
        rw [if_neg (by decide +kernel)]
        refine ⟨(Str.ofString "link"), rfl, ?_⟩
        rw [if_neg (by decide +kernel)]
        refine ⟨(Str.ofString "link"), rfl, ?_⟩
        rw [if_pos rfl]
        obtain ⟨n, hn⟩ := word_link (sp := ⟨nmp, m, t, .link tp⟩) rfl hw
        have hn2 : lkp (mkA S.L (abv nmp)) tp = some (.file n) := by rw [lkp_mkA, hn]; rfl
        refine ⟨_, rfl, a, hdx, _, rfl, h1, rfl, _, rfl, _, rfl, ν, a, sd, fd, _, nmp, tp, _, hM2, hname, hpay, hn2, by show (mkA _ _).length ≤ _; omega, rfl, fun H3 s3 hM3 => k H3 (s0.trans s3) ?_⟩
        have : step S ⟨nmp, m, t, .link tp⟩ = ⟨putp (mkA S.L (abv nmp)) nmp (.file n), S.F⟩ := by
          show Hs.mk (putp _ _ ((lkp (mkA S.L (abv nmp)) tp).getD (.file 0))) _ = _
          rw [hn2]; rfl
        rw [this]
        exact hM3
      | @file ns =>
        refine ⟨(Str.ofString "file"), rfl, ?_⟩
        rw [if_neg (by decide +kernel)]
        refine ⟨(Str.ofString "file"), rfl, ?_⟩
        rw [if_neg (by decide +kernel)]
        refine ⟨(Str.ofString "file"), rfl, ?_⟩
        rw [if_neg (by decide +kernel)]
        refine ⟨_, rfl, a, hdx, _, rfl, h1, rfl, _, rfl, .inl ⟨_, rfl, ma, dx, _, rfl, m1, rfl, ma, dx, _, _, m1, rfl, rfl, ?_⟩⟩
        refine ⟨_, rfl, ma, _, dx, _, _, rfl, m1, c1, c3 _ (by decide), rfl, _, rfl, ma, _, dx, _, _, rfl, m1, c1, c3 _ (by decide), rfl, sizeB' (Nat.le_of_ble_eq_true rfl), fun b hb => ?_⟩
        refine ⟨ν, a, sd, fd, _, _, nmp, b, hM2.mono (same_new hb), hname, .file (f := ⟨bA ns, m, t⟩) (sqT_fresh hb hdom), by show (mkA _ _).length ≤ _; omega, by show S.F.length ≤ _; omega, rfl, fun H3 s3 hM3 => k H3 (s0.trans ((hid_new hb).trans s3)) hM3⟩
      | @sparse sz ps q prs hq hp =>
        refine ⟨(Str.ofString "sparse"), rfl, ?_⟩
        rw [if_neg (by decide +kernel)]
        refine ⟨(Str.ofString "sparse"), rfl, ?_⟩
        rw [if_neg (by decide +kernel)]
        refine ⟨(Str.ofString "sparse"), rfl, ?_⟩
        rw [if_neg (by decide +kernel)]
        refine ⟨_, rfl, a, hdx, _, rfl, h1, rfl, _, rfl, .inr ⟨_, rfl, ma, dx, _, rfl, m1, rfl, ma, dx, _, q, prs, ps, sz, m1, rfl, rfl, hq, hp, hpay.2.2, hpay.1, hpay.2.1, rfl, ?_⟩⟩
        refine ⟨_, rfl, ma, _, dx, _, _, rfl, m1, c1, c3 _ (by decide), rfl, _, rfl, ma, _, dx, _, _, rfl, m1, c1, c3 _ (by decide), rfl, sizeB' (Nat.le_of_ble_eq_true rfl), fun b hb => ?_⟩
        refine ⟨ν, a, sd, fd, _, _, nmp, b, hM2.mono (same_new hb), hname, .file (f := ⟨content (.sparse sz ps), m, t⟩) (sqT_fresh hb hdom), by show (mkA _ _).length ≤ _; omega, by show S.F.length ≤ _; omega, rfl, fun H3 s3 hM3 => k H3 (s0.trans ((hid_new hb).trans s3)) hM3⟩
end K89
set_option Elab.async false
set_option linter.all false
set_option maxRecDepth 100000
set_option maxHeartbeats 4000000
/-! K89.P16: put_member, unpack_one, unpacked. -/
namespace K89
open PySem PySem.Spec PyProof.Rows L2
variable {P : Program} {w : World} {K : PySem.W.Frag} {mg : Str → Option Value} {base : Heap}
abbrev rC (K : PySem.W.Frag) : Addr := cl K "Refused"
theorem HM.ins {ν : Nat → Str} {H : Hp} {a sd fd : Addr} {S : Hs} (h : HM K ν H a sd fd S) : ∃ dx rw, H a = some (.ins (hC K) dx (hF sd fd rw)) := by
  obtain ⟨N, key, ne, dx, rw, kvs, kfs, h1, _⟩ := h
  exact ⟨dx, rw, h1⟩
def spPutMem (K : PySem.W.Frag) : Sp := fun vs H Q _ => ∃ ν a sd fd S v sp, HM K ν H a sd fd S ∧ MemAt K ν (hid H [sd, fd]) v sp ∧ SpOk sp ∧ word S.L sp = "" ∧ S.L.length ≤ 900 ∧ S.F.length ≤ 900 ∧ vs = [.ref a, v] ∧
  ∀ H', Same (hid H [sd, fd]) (hid H' [sd, fd]) → HM K ν H' a sd fd (step S sp) → Q .non H'
theorem g_put_member (T : Txt P K mg) : Dg P w K mg base "put_member" 4 (spPutMem K) := by
  refine T.h_put_member.mk sc_put_member (fun _ _ _ _ _ _ us hl => match us, hl with | [_, _], _ => rfl) (fun vs H Q E h => ?_) (fun f cdv A outer s H vs Q E hr h => ?_)
  · obtain ⟨ν, a, sd, fd, S, v, sp, _, _, _, _, _, _, rfl, _⟩ := h; rfl
  · obtain ⟨ν, a, sd, fd, S, v, sp, hM, hv, hok, hw, z1, z2, rfl, k⟩ := h
    refine ⟨_, pss_one (ps_expr (pe_g (g_put_at T) hr (pa_cons (pv 0) (pa_cons (pe_fld (pv 1) (by rfl)) (pa_cons (pv 1) (pa_cons (pe_ifExp (pt_cmpR op_eq (pe_con (pv 1) (by rfl)) pe_str rfl) (pe_fld (pv 1) (by rfl)) pe_str) pa_nil)))))), ?_⟩
    have hv2 := hv.mono hid_sub
    obtain ⟨ma, dx, kv, fs, rfl, m1, m2⟩ := id hv2
    obtain ⟨c1, ⟨uu, c2⟩, c3⟩ := mem_cls T sp.pay
    refine ⟨_, rfl, _, rfl, ma, _, dx, _, _, rfl, m1, c1, c3 _ (by decide), rfl, _, rfl, tg_run T 1 rfl hv2 ⟨ν, a, sd, fd, S, _, sp, hM, hv, hok, hw, z1, z2, rfl, k⟩⟩
/-! ### Refused -/
def spRefI (K : PySem.W.Frag) : SpK := fun vs zs H Q _ => ∃ x i z, vs = [.ref x, .int i, .str z] ∧ zs = [] ∧ H x = some (exo x (rC K) none) ∧
  ∀ d H', H d = none → d ≠ x → H' x = some (exo x (rC K) (some d)) → H' d = some (exd d [("word", .str z), ("index", .int i)]) → (∀ b, b ≠ x → b ≠ d → H' b = H b) → Q .non H'
theorem ss_Refused : SupScope N_Refused_init p_Refused_init d_Refused_init.scope := ⟨rfl, rfl, rfl, by decide +kernel, rfl, by decide +kernel, by decide +kernel, by decide +kernel, rfl, rfl⟩
theorem r_init (T : Txt P K mg) : ∃ f, PySem.W.findIn K (.ref (rC K)) "__init__" = some (some (.ref f)) ∧ PySem.W.typeIn K (.ref f) = some (.type "function") ∧ FnR P w K mg base CX0 1 f (fun vs H Q E => spRefI K vs [] H Q E) := by
  obtain ⟨f, cda, cc, h1, h2, F⟩ := T.r_i
  refine ⟨f, h1, h2, ?_⟩
  have G : FnK P w K mg base CX0 1 f [] (spRefI K) := F.fnK ss_Refused 3 (fun kV doc pm an ct us ws h1 h2 => match us, ws, h1, h2 with | [_, _, _], [], _, _ => rfl) rfl (fun vs zs H Q E h => ?_) (fun A outer s H vs zs Q E hz hr h => ?_)
  · intro A outer s H us vs Q E hr e0 r h
    exact G A outer s H us [] vs [] Q E hr e0 r .nil rfl h
  · obtain ⟨x, i, z, rfl, _⟩ := h; rfl
  · obtain ⟨x, i, z, rfl, rfl, hx, k⟩ := h
    refine ⟨_, PSsa.nox (pssa_cons (psa_superX F.k T.r_o T.r_s T.r_m (pa_cons pe_str pa_nil)) (pssa_of (pss_cons (ps_first (C := rC K) (pv 0) (pv 1)) (pss_one (ps_next (C := rC K) (pv 0) (pv 2)))))), ?_⟩
    refine ⟨x, rfl, hx, Nat.le_of_ble_eq_true rfl, hx, ?_⟩
    refine ⟨_, rfl, _, rfl, x, rfl, T.r_o.bears (T.r_na _ (by decide)), hx, fun d hd hdx => ?_⟩
    refine ⟨_, rfl, _, rfl, x, rfl, T.r_o.bears (T.r_na _ (by decide)), d, _, upd_same, by rw [upd_ne hdx, upd_same], Nat.le_of_ble_eq_true rfl, ?_⟩
    exact k d _ hd hdx (by rw [upd_ne hdx.symm, upd_same]) upd_same fun b b1 b2 => by rw [upd_ne b2, upd_ne b1, upd_ne b2]
def rfs (i : Int) (z : Str) : List (Str × V) := [("word", .str z), ("index", .int i)]
/-! ### unpack_one -/
def spUnOne (K : PySem.W.Frag) : Sp := fun vs H Q E => ∃ ν a sd fd S v sp i, HM K ν H a sd fd S ∧ MemAt K ν (hid H [sd, fd]) v sp ∧ SpOk sp ∧ S.L.length ≤ 900 ∧ S.F.length ≤ 900 ∧ vs = [.ref a, .int i, v] ∧
  (word S.L sp = "" → ∀ H', Same (hid H [sd, fd]) (hid H' [sd, fd]) → HM K ν H' a sd fd (step S sp) → Q .non H') ∧
  (¬ word S.L sp = "" → ∀ d H', Same H H' → H' d = some (.xd (rfs i (word S.L sp))) → E (.ref (rC K)) (some d) H')
theorem g_unpack_one (T : Txt P K mg) : DgX P w K mg base (L2.CX P w) "unpack_one" 5 (spUnOne K) := by
  obtain ⟨fi, r1, r2, Fi⟩ := r_init (P := P) (w := w) (base := base) T
  refine T.h_unpack_one.mkX sc_unpack_one (fun _ _ _ _ _ _ us hl => match us, hl with | [_, _, _], _ => rfl) (fun vs H Q E h => ?_) (fun f cdv A outer s H vs Q E hr h => ?_)
  · obtain ⟨ν, a, sd, fd, S, v, sp, i, _, _, _, _, _, rfl, _⟩ := h; rfl
  · obtain ⟨ν, a, sd, fd, S, v, sp, i, hM, hv, hok, z1, z2, rfl, k1, k2⟩ := h
    refine ⟨_, pss_cons (pset 3 sc_unpack_one.nd (pe_g (g_refusal T) hr (pa_cons (pv 0) (pa_cons (pv 2) pa_nil))))
      (pss_cons (ps_if (pt_cmpR op_ne (pv 3) pe_str rfl) (pss_one (ps_raise rfl (takes_of rfl rfl rfl rfl) (pmk_oexR T.r_o r1 r2 Fi hr T.r_g (pa_cons (pv 1) (pa_cons (pv 3) pa_nil))))) pss_nil)
        (pss_one (ps_expr (pe_g (g_put_member T) hr (pa_cons (pv 0) (pa_cons (pv 2) pa_nil)))))), ?_⟩
    refine ⟨_, rfl, _, rfl, ν, a, S, v, sp, hM.st, hv.mono hid_sub, hok, rfl, fun H1 s1 => ?_⟩
    refine ⟨_, rfl, rfl, _, rfl, ?_⟩
    by_cases hw : word S.L sp = ""
    · rw [decide_eq_true (show V.str (word S.L sp) = V.str (Str.ofString "") by rw [hw])]
      refine iteF ⟨_, rfl, _, rfl, ν, a, sd, fd, S, v, sp, hM.mono s1, hv.mono (hid_same s1), hok, hw, z1, z2, rfl, fun H2 s2 h2 => k1 hw H2 ((hid_same s1).trans s2) h2⟩
    · rw [decide_eq_false (show ¬ V.str (word S.L sp) = V.str (Str.ofString "") from fun z => hw (V.str.inj z))]
      refine iteT ⟨_, rfl, _, rfl, Nat.le_of_ble_eq_true rfl, fun x hx => ⟨x, i, word S.L sp, rfl, rfl, upd_same, fun d H2 hd hdx g1 g2 g3 => ⟨rfl, d, _, ?_, g2, g1, ?_⟩⟩⟩
      · rw [upd_ne hdx] at hd; exact hd
      · refine k2 hw d _ (fun b o hb => ?_) upd_same
        have hb1 := s1 _ _ hb
        have hbx : b ≠ x := ne_of_none hb1 hx
        have hbd : b ≠ d := ne_of_none hb1 (by rw [upd_ne hdx] at hd; exact hd)
        rw [upd_ne hbd]
        show (if b = x then none else H2 b) = some o
        rw [if_neg hbx, g3 b hbx hbd, upd_ne hbx]
        exact hb1
end K89
set_option Elab.async false
set_option linter.all false
set_option maxRecDepth 100000
set_option maxHeartbeats 4000000
/-! K89.P17: unpacked. -/
namespace K89
open PySem PySem.Spec PyProof.Rows L2
variable {P : Program} {w : World} {K : PySem.W.Frag} {mg : Str → Option Value} {base : Heap}
def RunTo (K : PySem.W.Frag) (ν : Nat → Str) (H : Hp) (Q : VK) (E : XK) : Except (Nat × Str) Hs → Prop
  | .ok S' => ∀ a' H', Same H H' → HouseAt K ν H' a' S' → S'.L.length ≤ 1000 → Q (.ref a') H'
  | .error e => ∀ d H', Same H H' → H' d = some (.xd (rfs (e.1 : Int) e.2)) → E (.ref (rC K)) (some d) H'
def spUnpacked (K : PySem.W.Frag) : Sp := fun vs H Q E => ∃ ν a S l mvs sps, HouseAt K ν H a S ∧ SqL K H l mvs ∧ Paired (MemAt K ν H) mvs sps ∧ (∀ sp ∈ sps, SpOk sp) ∧ S.L.length ≤ 300 ∧ S.F.length ≤ 300 ∧ sps.length ≤ 20 ∧ vs = [.ref a, .ref l] ∧ RunTo K ν H Q E (run S 0 sps)
theorem RunTo.mono {ν : Nat → Str} {H H' : Hp} {Q : VK} {E : XK} {r : Except (Nat × Str) Hs} (h : RunTo K ν H Q E r) (s : Same H H') : RunTo K ν H' Q E r := by
  cases r with
  | ok S => exact fun a' H2 s2 => h a' H2 (s.trans s2)
  | error e => exact fun d H2 s2 => h d H2 (s.trans s2)
theorem g_unpacked (T : Txt P K mg) : DgX P w K mg base (L2.CX P w) "unpacked" 6 (spUnpacked K) := by
  refine T.h_unpacked.mkX sc_unpacked (fun _ _ _ _ _ _ us hl => match us, hl with | [_, _], _ => rfl) (fun vs H Q E h => ?_) (fun f cdv A outer s H vs Q E hr h => ?_)
  · obtain ⟨ν, a, S, l, mvs, sps, _, _, _, _, _, _, _, rfl, _⟩ := h; rfl
  · obtain ⟨ν, a, S, l, mvs, sps, hS, hl, hm, hok, z1, z2, z3, rfl, k⟩ := h
    have hlen : mvs.length = sps.length := Paired.length hm
    obtain ⟨N, W, hdx, hsd, hfd, hrw, hkvs, hkfs, h1, h2, h3, h4, h5, h6⟩ := id hS
    refine ⟨_, pss_cons (pset 2 sc_unpacked.nd (pe_m0 (pv 0) T.c_House (g_House_copied T) hr))
      (pss_cons (ps_for (passes_of rfl) rfl (pi_enum (by rfl) T.f_enumerate (pa_cons (pv 1) pa_nil)) (pg_tup rfl (pgs_cons (pg_name (i := 3) sc_unpacked.nd rfl (Or.inl rfl)) (pgs_cons (pg_name (i := 4) sc_unpacked.nd rfl (Or.inl rfl)) pgs_nil)))
        (pss_one (ps_expr (pe_gX (g_unpack_one T) hr (E := E) (passes_call (takes_of rfl rfl rfl rfl) (fun _ _ _ _ h => h)) (pa_cons (pv 2) (pa_cons (pv 3) (pa_cons (pv 4) pa_nil)))))))
        (pss_one (ps_ret (pe_m0 (pv 2) T.c_House (g_House_copied T) hr)))), ?_⟩
    refine ⟨_, rfl, a, hdx, _, rfl, h1, rfl, ν, a, S, hS.st, W, by omega, rfl, fun am sd fd H1 s1 ham hsd0 hfd0 hA hM => ?_⟩
    have nsf : ∀ b ∈ [sd, fd], H b = none := by
      intro b hb
      simp only [List.mem_cons, List.not_mem_nil, or_false] at hb
      rcases hb with rfl | rfl
      · exact hsd0
      · exact hfd0
    refine ⟨_, rfl, l, mvs, rfl, s1.seq hl, ?_⟩
    refine for_it (L2.walk_enum (K := K) (a := l) (xs := mvs))
      (fun i σ H' => ∃ u v Si, σ = [some (.ref a), some (.ref l), some (.ref am), u, v] ∧ Same H (hid H' [sd, fd]) ∧ HM K ν H' am sd fd Si ∧ WF Si ∧ run Si i (sps.drop i) = run S 0 sps ∧ Si.L.length ≤ S.L.length + 4 * i ∧ Si.F.length ≤ S.F.length + i) ?_ ?_ ?_ ?_
    · exact ⟨_, _, S, rfl, hid_in s1 nsf, hM, W, rfl, by omega, by omega⟩
    · rintro i σ H' hi ⟨u, v, Si, rfl, s2, _⟩
      exact (s2.trans hid_sub).seq hl
    · rintro i x σ H' H'' hi ⟨u, v, Si, rfl, s2, hM2, W2, hrun, y1, y2⟩ ⟨Tq, x1, x2, rfl, hTq, rfl, e1, e2⟩
      cases e1
      have hi' : i < sps.length := by rw [← hlen]; exact hi
      obtain ⟨sp, he, hv⟩ := L2.paired_get hm e2
      have hspm : sp ∈ sps := List.mem_of_getElem? he
      rw [List.getElem?_eq_getElem hi'] at he
      have he := Option.some.inj he
      rw [List.drop_eq_getElem_cons hi', he] at hrun
      have sN : Same H' (upd H' Tq (.tup [.int (i : Int), x2])) := same_new hTq
      have sH : Same H (hid (upd H' Tq (.tup [.int (i : Int), x2])) [sd, fd]) := s2.trans (hid_same sN)
      have hrun : (if word Si.L sp = "" then run (step Si sp) (i + 1) (sps.drop (i + 1)) else .error (i, word Si.L sp)) = run S 0 sps := hrun
      refine ⟨Tq, _, rfl, SqT.of upd_same, rfl, _, _, rfl, _, _, rfl, rfl, ?_⟩
      refine ⟨_, rfl, _, rfl, _, rfl, ν, am, sd, fd, Si, x2, sp, i, hM2.mono sN, hv.mono sH, hok sp hspm, by omega, by omega, rfl, fun hw H3 s3 hM3 => ?_, fun hw d H3 s3 e3 => ?_⟩
      · rw [if_pos hw] at hrun
        have l1 := length_step Si sp (hok sp hspm).name
        have l2 := length_stepF Si sp
        exact ⟨_, _, step Si sp, rfl, sH.trans s3, hM3, W2.step (hok sp hspm) hw, hrun, by omega, by omega⟩
      · rw [if_neg hw] at hrun
        rw [← hrun] at k
        exact k d H3 ((sH.trans hid_sub).trans s3) e3
    · rintro σ H' ⟨u, v, Si, rfl, s2, hM2, W2, hrun, y1, y2⟩
      rw [hlen, List.drop_length] at hrun
      have hrun : Except.ok Si = run S 0 sps := hrun
      rw [← hrun] at k
      rw [hlen] at y1 y2
      obtain ⟨dxm, rwm, g1⟩ := hM2.ins
      refine ⟨_, rfl, am, dxm, _, rfl, g1, rfl, ν, am, Si, hM2.st, W2, by omega, rfl, fun a2 _ _ H3 s3 _ _ _ hA3 _ => ?_⟩
      exact k a2 H3 ((s2.trans hid_sub).trans s3) hA3 (by omega)
end K89
set_option Elab.async false
set_option linter.all false
set_option maxRecDepth 100000
set_option maxHeartbeats 4000000
/-! K89.P18: is_thing, is_entry; entries in the heap. -/
namespace K89
open PySem PySem.Spec PyProof.Rows L2
variable {P : Program} {w : World} {K : PySem.W.Frag} {mg : Str → Option Value} {base : Heap}
def enV (ν : Nat → Str) : En → List V
  | .th x => thV x
  | .file f => fdV f
  | .link q => [.str "link", .str (nm ν q)]
def EnOk : En → Prop
  | .th x => (∀ n, x ≠ .file n) ∧ ThOk 0 x
  | .file f => FDOk f
  | .link q => POk q
def EnAt (K : PySem.W.Frag) (ν : Nat → Str) (H : Hp) : V → Pth × En → Prop := fun v e => ∃ q t, v = .ref q ∧ SqT K H q [.str (nm ν e.1), .ref t] ∧ SqT K H t (enV ν e.2)
theorem EnAt.mono {ν : Nat → Str} {H H' : Hp} {v : V} {e : Pth × En} (h : EnAt K ν H v e) (s : Same H H') : EnAt K ν H' v e := by
  obtain ⟨q, t, h1, h2, h3⟩ := h
  exact ⟨q, t, h1, s.tup h2, s.tup h3⟩
def spIsThing (K : PySem.W.Frag) : Sp := fun vs H Q _ => ∃ ν t e, Nm ν ∧ SqT K H t (enV ν e) ∧ EnOk e ∧ vs = [.ref t] ∧ ∀ H', Same H H' → Q (.bl true) H'
theorem g_is_thing (T : Txt P K mg) : Dg P w K mg base "is_thing" 4 (spIsThing K) := by
  obtain ⟨tM, hM⟩ := T.c_MOST_DATA
  refine T.h_is_thing.mk sc_is_thing (fun _ _ _ _ _ _ us hl => match us, hl with | [_], _ => rfl) (fun vs H Q E h => ?_) (fun f cdv A outer s H vs Q E hr h => ?_)
  · obtain ⟨ν, t, e, _, _, _, rfl, _⟩ := h; rfl
  · obtain ⟨ν, t, e, N, ht, ho, rfl, k⟩ := h
    refine ⟨_, pss_cons (ps_if (PW.pt (pw_or (pt_not (pt_val (pe_callB call_isi (by rfl) T.f_isinstance (by decide +kernel) (pa_cons (pv 0) (pa_cons (pe_bltn (v := .ty "tuple") (by rfl) T.f_tuple (by decide +kernel) rfl) pa_nil)))))
        (pw_or (pt_cmpR op_eq (pe_callB call_len_seq (by rfl) T.f_len PySem.boot_len (pa_cons (pv 0) pa_nil)) pe_int rfl)
          (pw_or1 (pt_not (pt_val (pe_callB call_isi (by rfl) T.f_isinstance (by decide +kernel) (pa_cons (pe_ix ix_seq (pv 0) pe_int (fun _ _ => rfl)) (pa_cons (pe_bltn (v := .ty "str") (by rfl) T.f_str (by decide +kernel) rfl) pa_nil))))))))) (pss_one (ps_ret pe_bl)) pss_nil)
      (pss_one (ps_match (pv 0)
        (pmc_seq sc_is_thing.nd rfl (.cons (i := 1) rfl rfl (.cons (i := 2) rfl rfl (.cons (i := 3) rfl rfl .nil))) (pss_one (ps_ret (pe_and (pe_callB call_isi (by rfl) T.f_isinstance (by decide +kernel) (pa_cons (pv 1) (pa_cons (pe_bltn (v := .ty "bytes") (by rfl) T.f_bytes (by decide +kernel) rfl) pa_nil)))
            (pe_and (pe_cmpR op_le (pe_callB call_len (by rfl) T.f_len PySem.boot_len (pa_cons (pv 1) pa_nil)) (pe_glob (v := .int 4096) (by rfl) hM ⟨_, rfl⟩) rfl) (pe_one (pe_g (g_are_stamps T) hr (pa_cons (pv 2) (pa_cons (pv 3) pa_nil))))))))
        (pmc_seq sc_is_thing.nd rfl (.cons (i := 2) rfl rfl (.cons (i := 3) rfl rfl .nil)) (pss_one (ps_ret (pe_g (g_are_stamps T) hr (pa_cons (pv 2) (pa_cons (pv 3) pa_nil)))))
        (pmc_seq sc_is_thing.nd rfl (.cons (i := 4) rfl rfl (.cons (i := 2) rfl rfl (.cons (i := 3) rfl rfl .nil))) (pss_one (ps_ret (pe_and (pe_g (g_is_name T) hr (pa_cons (pv 4) pa_nil)) (pe_one (pe_g (g_are_stamps T) hr (pa_cons (pv 2) (pa_cons (pv 3) pa_nil)))))))
        (pmc_seq sc_is_thing.nd rfl (.cons (i := 5) rfl rfl .nil) (pss_one (ps_ret (pe_g (g_is_path T) hr (pa_cons (pv 5) pa_nil))))
        (pmc_any (pss_one (ps_ret pe_bl)) (rest := [])))))))), ?_⟩
    obtain ⟨z, xs, ez⟩ : ∃ z xs, enV ν e = .str z :: xs := by
      cases e with
      | th x => obtain ⟨r, er⟩ := thV_hd x; exact ⟨_, r, er⟩
      | file f => exact ⟨_, _, rfl⟩
      | link q => exact ⟨_, _, rfl⟩
    have ht1 : SqT K H t (.str z :: xs) := by rw [← ez]; exact ht
    refine ⟨_, rfl, _, _, _, _, _, rfl, .ty _, tyx_tup ht, kit_ty (r := true) (by decide +kernel), _, rfl, iteF ?_⟩
    refine ⟨_, rfl, t, _, rfl, .inr ht1, rfl, _, rfl, ?_⟩
    rw [decide_eq_false (show ¬ V.int (((V.str z :: xs).length : Nat) : Int) = V.int 0 from fun e => by have := V.int.inj e; simp at this; omega)]
    refine iteF ⟨_, rfl, .inr (.inl ⟨_, _, _, _, rfl, rfl, ht1, atI0, _, _, _, _, _, rfl, .ty _, .base (.str z), kit_ty (r := true) (by decide +kernel), _, rfl, iteF ?_⟩)⟩
    clear ht1 ez
    refine ⟨_, rfl, ?_⟩
    cases e with
    | file f =>
      refine ⟨t, "file", _, rfl, ht, ?_⟩
      rw [if_pos ⟨rfl, rfl⟩]
      have := ho.data
      refine ⟨_, rfl, _, _, _, _, _, rfl, .ty _, .byt f.data, kit_ty (r := true) (by decide +kernel), _, rfl, iteT ⟨_, rfl, _, f.data.size, rfl, ⟨sizeB' (by omega), rfl⟩, _, _, rfl, rfl, _, rfl, ?_⟩⟩
      rw [decide_eq_true (show (f.data.size : Int) ≤ 4096 by omega)]
      exact iteT ⟨_, rfl, _, rfl, f.m, f.t, rfl, ho.m, ho.t, k _ (Same.refl _)⟩
    | th x =>
      cases x with
      | file n => exact absurd rfl (ho.1 n)
      | dir m ti =>
        refine ⟨t, "directory", _, rfl, ht, ?_⟩
        rw [if_neg (fun h => by cases h.1)]
        refine ⟨t, "directory", _, rfl, ht, ?_⟩
        rw [if_pos ⟨rfl, rfl⟩]
        exact ⟨_, rfl, _, rfl, m, ti, rfl, ho.2.1, ho.2.2, k _ (Same.refl _)⟩
      | sym tg m ti =>
        refine ⟨t, "symlink", _, rfl, ht, ?_⟩
        rw [if_neg (fun h => absurd h.2 (by decide +kernel))]
        refine ⟨t, "symlink", _, rfl, ht, ?_⟩
        rw [if_neg (fun h => by cases h.1)]
        refine ⟨t, "symlink", _, rfl, ht, ?_⟩
        rw [if_pos ⟨rfl, rfl⟩]
        refine ⟨_, rfl, tg, rfl, ho.2.1, fun H1 s1 => ⟨_, rfl, iteT ⟨_, rfl, _, rfl, m, ti, rfl, ho.2.2.1, ho.2.2.2, k _ s1⟩⟩⟩
    | link q =>
      refine ⟨t, "link", _, rfl, ht, ?_⟩
      rw [if_neg (fun h => by cases h.1)]
      refine ⟨t, "link", _, rfl, ht, ?_⟩
      rw [if_neg (fun h => by cases h.1)]
      refine ⟨t, "link", _, rfl, ht, ?_⟩
      rw [if_neg (fun h => by cases h.1)]
      refine ⟨t, "link", _, rfl, ht, ?_⟩
      rw [if_pos ⟨rfl, rfl⟩]
      exact ⟨_, rfl, ν, q, N, ho, rfl, k⟩
def spIsEntry (K : PySem.W.Frag) : Sp := fun vs H Q _ => ∃ ν v e, Nm ν ∧ POk e.1 ∧ EnOk e.2 ∧ EnAt K ν H v e ∧ vs = [v] ∧ ∀ H', Same H H' → Q (.bl true) H'
theorem g_is_entry (T : Txt P K mg) : Dg P w K mg base "is_entry" 5 (spIsEntry K) := by
  refine T.h_is_entry.mk sc_is_entry (fun _ _ _ _ _ _ us hl => match us, hl with | [_], _ => rfl) (fun vs H Q E h => ?_) (fun f cdv A outer s H vs Q E hr h => ?_)
  · obtain ⟨ν, v, e, _, _, _, _, rfl, _⟩ := h; rfl
  · obtain ⟨ν, v, e, N, hp, ho, ⟨q, t, rfl, h2, h3⟩, rfl, k⟩ := h
    refine ⟨_, pss_one (ps_ret (pe_and (pe_callB call_isi (by rfl) T.f_isinstance (by decide +kernel) (pa_cons (pv 0) (pa_cons (pe_bltn (v := .ty "tuple") (by rfl) T.f_tuple (by decide +kernel) rfl) pa_nil)))
      (pe_and (pe_cmpR op_eq (pe_callB call_len_seq (by rfl) T.f_len PySem.boot_len (pa_cons (pv 0) pa_nil)) pe_int rfl)
        (pe_and (pe_g (g_is_path T) hr (pa_cons (pe_ix ix_seq (pv 0) pe_int (fun _ _ => rfl)) pa_nil)) (pe_one (pe_g (g_is_thing T) hr (pa_cons (pe_ix ix_seq (pv 0) pe_int (fun _ _ => rfl)) pa_nil))))))), ?_⟩
    refine ⟨_, rfl, _, _, _, _, _, rfl, .ty _, tyx_tup h2, kit_ty (r := true) (by decide +kernel), _, rfl, iteT ?_⟩
    refine ⟨_, rfl, q, _, rfl, .inr h2, rfl, _, rfl, iteT ?_⟩
    refine ⟨_, rfl, .inr (.inl ⟨_, _, _, _, rfl, rfl, h2, rfl, ν, e.1, N, hp, rfl, fun H1 s1 => ⟨_, rfl, iteT ?_⟩⟩)⟩
    exact ⟨_, rfl, .inr (.inl ⟨_, _, _, _, rfl, rfl, s1.tup h2, rfl, ν, t, e.2, N, s1.tup h3, ho, rfl, fun H2 s2 => k _ (s1.trans s2)⟩)⟩
end K89
set_option Elab.async false
set_option linter.all false
set_option maxRecDepth 100000
set_option maxHeartbeats 4000000
/-! K89.P19: are_of_one_house. -/
namespace K89
open PySem PySem.Spec PyProof.Rows L2
variable {P : Program} {w : World} {K : PySem.W.Frag} {mg : Str → Option Value} {base : Heap}
theorem valV_none' {kvs : List (Key × V)} {k : Key} (h : k ∉ kvs.map (·.1)) : valV kvs k = none := by
  have e := valV_any k kvs
  cases hv : valV kvs k with
  | none => rfl
  | some v =>
    rw [hv] at e
    obtain ⟨kv, h1, h2⟩ := List.any_eq_true.mp e
    exact absurd (List.mem_map.mpr ⟨kv, h1, of_decide_eq_true h2⟩) h
theorem mergeK_app : ∀ (more acc : List (Key × V)), ((acc ++ more).map (·.1)).Nodup → mergeK acc more = acc ++ more
  | [], acc, _ => by simp [mergeK]
  | kv :: r, acc, h => by
    have hk : kv.1 ∉ acc.map (·.1) := by
      rw [List.map_append, List.map_cons, List.nodup_append] at h
      intro z
      exact h.2.2 _ z _ List.mem_cons_self rfl
    show mergeK (putK acc kv.1 kv.2) r = _
    rw [putK_new _ (valV_none' hk)]
    have e : acc ++ [(kv.1, kv.2)] ++ r = acc ++ kv :: r := by simp
    rw [mergeK_app r _ (by rw [e]; exact h), e]
/-- what the dict of entries holds -/
def ThgAt (K : PySem.W.Frag) (ν : Nat → Str) (H : Hp) (kvs : List (Key × V)) (E : List (Pth × En)) : Prop := Paired (fun (kv : Key × V) (e : Pth × En) => kv.1 = .inr (nm ν e.1) ∧ ∃ t, kv.2 = .ref t ∧ SqT K H t (enV ν e.2)) kvs E
theorem ents_kvs {ν : Nat → Str} {H : Hp} {evs : List V} {E : List (Pth × En)} (h : Paired (EnAt K ν H) evs E) : ∃ (pls : List Addr) (kvs : List (Key × V)), evs = pls.map V.ref ∧ Paired (fun p kv => SqT K H p [kV kv.1, kv.2]) pls kvs ∧ ThgAt K ν H kvs E := by
  induction h with
  | nil => exact ⟨[], [], rfl, .nil, .nil⟩
  | cons r t ih =>
    obtain ⟨pls, kvs, h1, h2, h3⟩ := ih
    obtain ⟨q, t, rfl, g2, g3⟩ := r
    exact ⟨q :: pls, (.inr (nm ν _), .ref t) :: kvs, by rw [h1]; rfl, .cons g2 h2, .cons ⟨rfl, t, rfl, g3⟩ h3⟩
theorem ThgAt.keys {ν : Nat → Str} {H : Hp} {kvs : List (Key × V)} {E : List (Pth × En)} (h : ThgAt K ν H kvs E) : kvs.map (·.1) = (E.map (·.1)).map fun p => Sum.inr (nm ν p) := by
  unfold ThgAt at h
  induction h with
  | nil => rfl
  | cons r t ih => rw [List.map_cons, List.map_cons, List.map_cons, ih, r.1]
theorem ThgAt.val {ν : Nat → Str} {H : Hp} {kvs : List (Key × V)} {E : List (Pth × En)} (N : Nm ν) (h : ThgAt K ν H kvs E) (hk : ∀ e ∈ E, POk e.1) (hn : (E.map (·.1)).Nodup) {e : Pth × En} (he : e ∈ E) :
    ∃ t, valV kvs (.inr (nm ν e.1)) = some (.ref t) ∧ SqT K H t (enV ν e.2) := by
  unfold ThgAt at h
  induction h with
  | nil => cases he
  | @cons kv e0 ks E r t ih =>
    obtain ⟨r1, t1, r2, r3⟩ := r
    rw [List.map_cons, List.nodup_cons] at hn
    rcases List.mem_cons.mp he with rfl | he'
    · exact ⟨t1, by rw [valV_pos r1, r2], r3⟩
    · have hne : ¬ kv.1 = .inr (nm ν e.1) := by
        intro z
        rw [r1] at z
        have := nm_inj N (hk _ List.mem_cons_self) (hk _ he) (Sum.inr.inj z)
        exact hn.1 (List.mem_map.mpr ⟨e, he', this.symm⟩)
      rw [valV_neg hne]
      exact ih (fun e he => hk e (List.mem_cons_of_mem _ he)) hn.2 he'
theorem inj_nodup {α β : Type} {f : α → β} : ∀ {l : List α}, (∀ a ∈ l, ∀ b ∈ l, f a = f b → a = b) → l.Nodup → (l.map f).Nodup
  | [], _, _ => by simp
  | x :: r, h, hn => by
    rw [List.nodup_cons] at hn
    rw [List.map_cons, List.nodup_cons]
    refine ⟨fun z => ?_, inj_nodup (fun a ha b hb => h a (List.mem_cons_of_mem _ ha) b (List.mem_cons_of_mem _ hb)) hn.2⟩
    obtain ⟨y, hy, e⟩ := List.mem_map.mp z
    rw [h y (List.mem_cons_of_mem _ hy) x List.mem_cons_self e] at hy
    exact hn.1 hy
section
variable {T : Hs} {ps : List Pth}
theorem ents_fst : (ents T ps).map (·.1) = ps := by
  unfold ents
  rw [List.map_map]
  exact List.map_id' _
theorem ents_mem {p : Pth} (h : p ∈ ps) : (p, enOf T ps p) ∈ ents T ps := List.mem_map.mpr ⟨p, h, rfl⟩
theorem Ord.ok {p : Pth} (O : Ord T ps) (W : WF T) (h : p ∈ ps) : POk p := W.key p (lkp_keys.mp ((O.mem p).mp h))
theorem en_link {p q : Pth} (O : Ord T ps) (hp : p ∈ ps) (h : enOf T ps p = .link q) : q ∈ ps ∧ ∃ f, enOf T ps q = .file f := by
  obtain ⟨x, hx⟩ := Option.isSome_iff_exists.mp ((O.mem p).mp hp)
  cases x with
  | file n =>
    obtain ⟨r, h1, h2, h3, h4⟩ := enOf_file O hx
    rw [h4] at h
    by_cases e : r = p
    · rw [if_pos e] at h; cases h
    · rw [if_neg e] at h
      cases h
      obtain ⟨r2, g1, g2, g3, g4⟩ := enOf_file O h2
      rw [h1] at g1
      cases g1
      exact ⟨h3, _, by rw [g4, if_pos rfl]⟩
  | dir m t => rw [enOf_other hx (fun n z => by cases z)] at h; cases h
  | sym tg m t => rw [enOf_other hx (fun n z => by cases z)] at h; cases h
theorem en_ok {p : Pth} (O : Ord T ps) (W : WF T) (hF : ∀ f ∈ T.F, FDOk f) (hp : p ∈ ps) : EnOk (enOf T ps p) := by
  obtain ⟨x, hx⟩ := Option.isSome_iff_exists.mp ((O.mem p).mp hp)
  have ht := W.th _ _ hx
  cases x with
  | file n =>
    obtain ⟨r, h1, h2, h3, h4⟩ := enOf_file O hx
    rw [h4]
    by_cases e : r = p
    · rw [if_pos e]
      have hn : n < T.F.length := ht
      show FDOk _
      rw [List.getElem?_eq_getElem hn]
      exact hF _ (List.getElem_mem hn)
    · rw [if_neg e]
      exact O.ok W h3
  | dir m t => rw [enOf_other hx (fun n z => by cases z)]; exact ⟨fun n z => (by cases z), ht⟩
  | sym tg m t => rw [enOf_other hx (fun n z => by cases z)]; exact ⟨fun n z => (by cases z), ht⟩
theorem en_up {p q : Pth} (O : Ord T ps) (W : WF T) (hp : p ∈ ps) (hq : q ∈ abv p) : q ∈ ps ∧ ∃ m t, enOf T ps q = .th (.dir m t) := by
  obtain ⟨x, hx⟩ := Option.isSome_iff_exists.mp ((O.mem p).mp hp)
  obtain ⟨m, t, h⟩ := kd_dir (W.up p x hx q hq)
  exact ⟨(O.mem q).mpr (by rw [h]; rfl), m, t, enOf_other h (fun n z => by cases z)⟩
end
def spOneHouse (K : PySem.W.Frag) : Sp := fun vs H Q _ => ∃ ν T ps l evs, Nm ν ∧ WF T ∧ Ord T ps ∧ ps.length ≤ 300 ∧ SqL K H l evs ∧ Paired (EnAt K ν H) evs (ents T ps) ∧ vs = [.ref l] ∧ ∀ H', Same H H' → Q (.bl true) H'
theorem g_one_house (Tx : Txt P K mg) : Dg P w K mg base "are_of_one_house" 2 (spOneHouse K) := by
  refine Tx.h_are_of_one_house.mk sc_are_of_one_house (fun _ _ _ _ _ _ us hl => match us, hl with | [_], _ => rfl) (fun vs H Q E h => ?_) (fun f cdv A outer s H vs Q E hr h => ?_)
  · obtain ⟨ν, T, ps, l, evs, _, _, _, _, _, _, rfl, _⟩ := h; rfl
  · obtain ⟨ν, T, ps, l, evs, N, W, O, hz, hl, he, rfl, k⟩ := h
    obtain ⟨pls, kvs, e1, e2, e3⟩ := ents_kvs he
    have hlen : evs.length = ps.length := by rw [Paired.length he]; simp [ents]
    have hkl : kvs.length = ps.length := by rw [Paired.length e3]; simp [ents]
    have hEk : ∀ e ∈ ents T ps, POk e.1 := fun e he => by obtain ⟨p, hp, rfl⟩ := List.mem_map.mp he; exact O.ok W hp
    have hEn : ((ents T ps).map (·.1)).Nodup := by rw [ents_fst]; exact O.nd
    have hnd : (kvs.map (·.1)).Nodup := by
      rw [ThgAt.keys e3, ents_fst]
      exact inj_nodup (fun a ha b hb z => nm_inj N (O.ok W ha) (O.ok W hb) (Sum.inr.inj z)) O.nd
    have hmg : mergeK [] kvs = kvs := mergeK_app kvs [] (by simpa using hnd)
    have hget : ∀ {p}, p ∈ ps → ∃ t, valV kvs (.inr (nm ν p)) = some (.ref t) ∧ SqT K H t (enV ν (enOf T ps p)) := fun hp => ThgAt.val N e3 hEk hEn (ents_mem hp)
    refine ⟨_, pss_cons (pset 1 sc_are_of_one_house.nd (pe_callTy (call_dictP rfl) (by rfl) Tx.f_dict (by decide +kernel) (pa_cons (pv 0) pa_nil)))
      (pss_cons (ps_if (pt_cmpR op_ne (pe_callB call_lenD (by rfl) Tx.f_len PySem.boot_len (pa_cons (pv 1) pa_nil)) (pe_callB call_len_seq (by rfl) Tx.f_len PySem.boot_len (pa_cons (pv 0) pa_nil)) rfl) (pss_one (ps_ret pe_bl)) pss_nil)
        (pss_cons (ps_for PassesOwn.never rfl (pi_list (pv 0)) (pg_tup rfl (pgs_cons (pg_name (i := 2) sc_are_of_one_house.nd rfl (Or.inl rfl)) (pgs_cons (pg_name (i := 3) sc_are_of_one_house.nd rfl (Or.inl rfl)) pgs_nil)))
          (pss_cons (ps_if (pt_not (pt_val (pe_callB (cr_all rfl) (by rfl) Tx.f_all (by decide +kernel) (pa_cons
              (pe_lc (own := [("other", 4)]) (g := gName 4) (tt := tYes) rfl sc_are_of_one_house.nd (pi_list (pe_g (g_above Tx) hr (pa_cons (pv 2) pa_nil))) (blkOk_by (N := N_are_of_one_house) (sc := defScope s_are_of_one_house) (by decide +kernel))
                (fun _ _ _ _ _ => pg_name (i := 4) sc_are_of_one_house.nd rfl (Or.inl rfl)) (fun _ _ _ _ _ => pts_nil)
                (fun _ _ _ _ _ => pe_cmpR op_eq (pe_ix (r := rIx K) ix_seq (pe_dget2 (room1 hr) (pv 1) (pv 4) (pe_tup (pa_cons pe_str pa_nil)) ⟨rfl, rfl, rfl, rfl⟩) pe_int (fun _ _ => rfl)) pe_str (by rfl))) pa_nil)))) (pss_one (ps_ret pe_bl)) pss_nil)
            (pss_one (ps_if (PW.pt (pw_and (pt_cmpR op_eq (pe_ix ix_seq (pv 3) pe_int (fun _ _ => rfl)) pe_str rfl)
              (pw_and1 (pt_cmpR op_ne (pe_ix ix_seq (pe_dget2 (room1 hr) (pv 1) (pe_ix ix_seq (pv 3) pe_int (fun _ _ => rfl)) (pe_tup (pa_cons pe_str pa_nil)) ⟨rfl, rfl, rfl, rfl⟩) pe_int (fun _ _ => rfl)) pe_str rfl)))) (pss_one (ps_ret pe_bl)) pss_nil))))
          (pss_one (ps_ret pe_bl)))), ?_⟩
    subst e1
    refine ⟨_, rfl, l, pls, kvs, rfl, hl, e2, fun d hd => ?_⟩
    rw [hmg]
    have s0 : Same H (upd H d (.dK kvs)) := same_new hd
    generalize hH0 : upd H d (.dK kvs) = H0 at s0
    have hd0 : H0 d = some (.dK kvs) := by rw [← hH0]; exact upd_same
    refine ⟨_, rfl, d, kvs, rfl, hd0, _, rfl, l, _, rfl, .inl (s0.seq hl), rfl, _, rfl, ?_⟩
    rw [decide_eq_true (show V.int (kvs.length : Int) = V.int ((pls.map V.ref).length : Int) by rw [hkl, hlen])]
    refine iteF ⟨_, rfl, l, rfl, ⟨_, s0.seq hl⟩, ?_⟩
    refine for_it (L2.walk_list (K := K) (a := l) (xs := pls.map V.ref)) (fun i σ H' => ∃ u v, σ = [some (.ref l), some (.ref d), u, v, none] ∧ Same H0 H') ?_ ?_ ?_ ?_
    · exact ⟨_, _, rfl, Same.refl _⟩
    · rintro i σ H' hi ⟨u, v, rfl, s1⟩
      exact (s0.trans s1).seq hl
    · rintro i x σ H' H'' hi ⟨u, v, rfl, s1⟩ ⟨rfl, hx⟩
      rw [hlen] at hi
      obtain ⟨e, hee, q, t, rfl, g2, g3⟩ := L2.paired_get he hx
      have s2 := s0.trans s1
      have hpi : ps[i] ∈ ps := List.getElem_mem hi
      have hE : e = (ps[i], enOf T ps ps[i]) := by
        unfold ents at hee
        rw [List.getElem?_map, List.getElem?_eq_getElem hi] at hee
        exact (Option.some.inj hee).symm
      subst hE
      have pk := O.ok W hpi
      refine ⟨q, _, rfl, s2.tup g2, rfl, _, _, rfl, _, _, rfl, rfl, ?_⟩
      refine ⟨_, rfl, ν, ps[i], N, pk, rfl, fun la H1 s3 hla0 hla => ?_⟩
      have hal : (abv ps[i]).length ≤ 4 := by have := pk.le; simp [abv]; omega
      have s4 := s2.trans s3
      have hd1 : H1 d = some (.dK kvs) := s3 _ _ (s1 _ _ hd0)
      refine ⟨la, rfl, ⟨_, SqL.of hla⟩, fun D hD => ?_⟩
      refine lc_pure (L2.walk_list (K := K) (a := la) (xs := (abv ps[i]).map fun q => V.str (nm ν q))) (List.replicate (abv ps[i]).length (V.bl true)) (by simp) (sizeB (by simp; omega)) hD (fun H3 s5 => s5.seq (SqL.of hla)) (fun j x H3 H4 Pz hj s5 y hP => ?_) fun H3 s5 hL3 => ?_
      · obtain ⟨rfl, hx⟩ := y
        rw [List.length_map] at hj
        rw [List.getElem?_map, List.getElem?_eq_getElem hj] at hx
        have hx := (Option.some.inj hx).symm
        subst hx
        obtain ⟨u1, m1, t1, u2⟩ := en_up O W hpi (List.getElem_mem hj)
        obtain ⟨tq, v1, v2⟩ := hget u1
        rw [u2] at v2
        refine ⟨rfl, _, rfl, d, rfl, .inl ⟨kvs, .inl (s5 _ _ hd1)⟩, _, rfl, sizeB' (Nat.le_of_ble_eq_true rfl), fun b hb => ⟨_, DGet.of (k := .inr _) (same_new hb _ _ (s5 _ _ hd1)) rfl v1, .inr (.inl ⟨tq, _, _, _, rfl, rfl, ((s4.trans s5).trans (same_new hb)).tup v2, atI0, rfl, ?_⟩)⟩⟩
        exact hP _ _ (same_new hb) (rep_get _ hj)
      · refine ⟨D, List.replicate (abv ps[i]).length true, rfl, SqL.of (by rw [hL3, List.map_replicate]), _, rfl, ?_⟩
        rw [rep_all]
        have s6 := s4.trans s5
        have hd3 : H3 d = some (.dK kvs) := s5 _ _ hd1
        have g3' := s6.tup g3
        obtain ⟨z, xs, ez⟩ : ∃ z xs, enV ν (enOf T ps ps[i]) = .str z :: xs := by
          cases enOf T ps ps[i] with
          | th x => obtain ⟨r, er⟩ := thV_hd x; exact ⟨_, r, er⟩
          | file f => exact ⟨_, _, rfl⟩
          | link q => exact ⟨_, _, rfl⟩
        have fin : Same H0 H3 := s1.trans (s3.trans s5)
        refine iteF ⟨_, rfl, .inr (.inl ⟨t, _, _, _, rfl, rfl, g3', (by rw [ez]; exact atI0), rfl, _, rfl, ?_⟩)⟩
        cases hen : enOf T ps ps[i] with
        | th x =>
          rw [hen] at ez
          have hne : ¬ V.str z = V.str (Str.ofString "link") := by
            intro zz
            have zz := V.str.inj zz
            subst zz
            cases x <;> (have := (List.cons.inj ez).1; exact absurd (V.str.inj this) (by decide +kernel))
          rw [decide_eq_false hne]
          exact iteF (iteF ⟨_, _, rfl, fin⟩)
        | file f =>
          rw [hen] at ez
          have hne : ¬ V.str z = V.str (Str.ofString "link") := by
            intro zz
            have zz := V.str.inj zz
            subst zz
            have := (List.cons.inj ez).1
            exact absurd (V.str.inj this) (by decide +kernel)
          rw [decide_eq_false hne]
          exact iteF (iteF ⟨_, _, rfl, fin⟩)
        | link qq =>
          rw [hen] at ez
          obtain ⟨u1, ff, u2⟩ := en_link O hpi hen
          obtain ⟨tq, v1, v2⟩ := hget u1
          rw [u2] at v2
          have hz : z = Str.ofString "link" := (V.str.inj (List.cons.inj ez).1).symm
          subst hz
          rw [decide_eq_true rfl]
          rw [hen] at g3'
          refine iteT ⟨_, rfl, d, rfl, .inl ⟨kvs, .inl hd3⟩, _, rfl, .inr (.inl ⟨t, _, _, _, rfl, rfl, g3', rfl, sizeB' (Nat.le_of_ble_eq_true rfl), fun b hb => ⟨_, DGet.of (k := .inr _) (same_new hb _ _ hd3) rfl v1, .inr (.inl ⟨tq, _, _, _, rfl, rfl, (s6.trans (same_new hb)).tup v2, atI0, rfl, _, rfl, ?_⟩)⟩⟩)⟩
          exact iteF ⟨_, _, rfl, fin.trans (same_new hb)⟩
    · rintro σ H' ⟨u, v, rfl, s1⟩
      exact k _ (s0.trans s1)
end K89
set_option Elab.async false
set_option linter.all false
set_option maxRecDepth 100000
set_option maxHeartbeats 4000000
/-! K89.P20: House.of. -/
namespace K89
open PySem PySem.Spec PyProof.Rows L2
variable {P : Program} {w : World} {K : PySem.W.Frag} {mg : Str → Option Value} {base : Heap}
theorem StandAt.hide {ν : Nat → Str} {H : Hp} {kvs : List (Key × V)} {L : AL} {l : List Addr} (h : StandAt K ν H kvs L) (n : ∀ b ∈ l, ∃ o, H b = some o ∧ plainO o = true) : StandAt K ν (hid H l) kvs L :=
  Paired.mapP h fun kv e ⟨h1, q, h2, h3⟩ => ⟨h1, q, h2, SqT.hide h3 n⟩
theorem FilesAt.hide {H : Hp} {kfs : List (Key × V)} {F : List FD} {l : List Addr} (h : FilesAt K H kfs F) (n : ∀ b ∈ l, ∃ o, H b = some o ∧ plainO o = true) : FilesAt K (hid H l) kfs F :=
  ⟨h.1, fun i f e => (h.2 i f e).imp fun q z => ⟨z.1, SqT.hide z.2 n⟩⟩
theorem one1_L (S : Hs) (e : Pth × En) : (one1 S e).L.length ≤ S.L.length + 1 ∧ (one1 S e).F.length ≤ S.F.length + 1 := by
  unfold one1
  cases e.2 with
  | th x => exact ⟨by show (putp _ _ _).length ≤ _; rw [length_putp]; split <;> omega, Nat.le_succ _⟩
  | file f => exact ⟨by show (putp _ _ _).length ≤ _; rw [length_putp]; split <;> omega, by simp⟩
  | link q => exact ⟨Nat.le_succ _, Nat.le_succ _⟩
theorem one2_L (S : Hs) (e : Pth × En) : (one2 S e).L.length ≤ S.L.length + 1 ∧ (one2 S e).F.length ≤ S.F.length + 1 := by
  unfold one2
  cases e.2 with
  | th x => exact ⟨Nat.le_succ _, Nat.le_succ _⟩
  | file f => exact ⟨Nat.le_succ _, Nat.le_succ _⟩
  | link q => exact ⟨by show (putp _ _ _).length ≤ _; rw [length_putp]; split <;> omega, Nat.le_succ _⟩
def spOf (K : PySem.W.Frag) : Sp := fun vs H Q _ => ∃ ν T ps l evs, Nm ν ∧ WF T ∧ Ord T ps ∧ (∀ f ∈ T.F, FDOk f) ∧ ps.length ≤ 300 ∧ SqL K H l evs ∧ Paired (EnAt K ν H) evs (ents T ps) ∧ vs = [.ref (hC K), .ref l] ∧
  ∀ a' H', Same H H' → HouseAt K ν H' a' (houseOf (ents T ps)) → (houseOf (ents T ps)).L.length ≤ 600 → (houseOf (ents T ps)).F.length ≤ 600 → Q (.ref a') H'
theorem g_House_of (Tx : Txt P K mg) : ∃ mc p g, ClX.CRead K (hC K) mc ∧ ClX.CMet K (hC K) mc "of" p g ∧ FnR P w K mg base CX0 6 g (spOf K) := by
  obtain ⟨mc, p, g, fd, h1, h2, F⟩ := Tx.of_House
  obtain ⟨fi, M, Fi⟩ := make_House (P := P) (w := w) (base := base) Tx
  refine ⟨mc, p, g, h1, h2, fnR_of (d := d_House_of) (CX := CX0) F sc_House_of (fun _ _ _ _ _ _ us hl => match us, hl with | [_, _], _ => rfl) (fun vs H Q E h => ?_) (fun cdv A outer s H vs Q E hr h => ?_)⟩
  · obtain ⟨ν, T, ps, l, evs, _, _, _, _, _, _, _, rfl, _⟩ := h; rfl
  · obtain ⟨ν, T, ps, l, evs, N, W, O, hF, hz, hl, he, rfl, k⟩ := h
    have hlen : evs.length = ps.length := by rw [Paired.length he]; simp [ents]
    have hEl : (ents T ps).length = ps.length := by simp [ents]
    have hgi : ∀ {i x}, evs[i]? = some x → ∃ (hi : i < ps.length), EnAt K ν H x (ps[i], enOf T ps ps[i]) := by
      intro i x hx
      have hi : i < ps.length := by rw [← hlen]; exact (List.getElem?_eq_some_iff.mp hx).1
      obtain ⟨e, hee, hr⟩ := L2.paired_get he hx
      unfold ents at hee
      rw [List.getElem?_map, List.getElem?_eq_getElem hi] at hee
      have hee := Option.some.inj hee
      subst hee
      exact ⟨hi, hr⟩
    have htake : ∀ {i} (hi : i < ps.length), (ents T ps).take (i + 1) = (ents T ps).take i ++ [(ps[i], enOf T ps ps[i])] := by
      intro i hi
      rw [List.take_add_one]
      unfold ents
      rw [List.getElem?_map, List.getElem?_eq_getElem hi]
      rfl
    have tail : ∃ t, PSs (cxOf CX0 P w K mg base N_House_of d_House_of.qual d_House_of.scope g cdv A outer s H E).nox (defBody s_House_of) t ∧ t { nx := fun _ H' => Q .non H', rt := Q } (L2.start N_House_of [.ref (hC K), .ref l]) H := by
      refine ⟨_, pss_cons (ps_if (PW.pt (pw_or (pt_not (pt_val (pe_callB call_isiT (by rfl) Tx.f_isinstance (by decide +kernel) (pa_cons (pv 1) (pa_cons (pe_tup (pa_cons (pe_bltn (v := .ty "list") (by rfl) Tx.f_list (by decide +kernel) rfl) (pa_cons (pe_bltn (v := .ty "tuple") (by rfl) Tx.f_tuple (by decide +kernel) rfl) pa_nil))) pa_nil)))))
          (pw_or1 (pt_not (pt_val (pe_callB (cr_all rfl) (by rfl) Tx.f_all (by decide +kernel) (pa_cons (pe_lc (own := [("entry", 5)]) (g := gName 5) (tt := tYes) rfl sc_House_of.nd (pi_list (pv 1)) (blkOk_by (N := N_House_of) (sc := defScope s_House_of) (by decide +kernel))
            (fun _ _ _ _ _ => pg_name (i := 5) sc_House_of.nd rfl (Or.inl rfl)) (fun _ _ _ _ _ => pts_nil) (fun _ _ _ _ _ => pe_g (g_is_entry Tx) hr (pa_cons (pv 5) pa_nil))) pa_nil))))))) pss_never pss_nil)
        (pss_cons (ps_if (pt_not (pt_val (pe_g (g_one_house Tx) hr (pa_cons (pv 1) pa_nil)))) pss_never pss_nil)
          (pss_cons (pset 2 sc_House_of.nd (pe_clsL M Fi hr (i := 0) rfl (Or.inl rfl)))
            (pss_cons (ps_for PassesOwn.never rfl (pi_list (pv 1)) (pg_tup rfl (pgs_cons (pg_name (i := 3) sc_House_of.nd rfl (Or.inl rfl)) (pgs_cons (pg_name (i := 4) sc_House_of.nd rfl (Or.inl rfl)) pgs_nil)))
                (pss_one (ps_if (pt_cmpR op_ne (pe_ix ix_seq (pv 4) pe_int (fun _ _ => rfl)) pe_str rfl) (pss_one (ps_expr (pe_m (pv 2) Tx.c_House (g_House_set_thing Tx) hr (pa_cons (pv 3) (pa_cons (pv 4) pa_nil))))) pss_nil)))
              (pss_cons (ps_for PassesOwn.never rfl (pi_list (pv 1)) (pg_tup rfl (pgs_cons (pg_name (i := 3) sc_House_of.nd rfl (Or.inl rfl)) (pgs_cons (pg_name (i := 4) sc_House_of.nd rfl (Or.inl rfl)) pgs_nil)))
                  (pss_one (ps_if (pt_cmpR op_eq (pe_ix ix_seq (pv 4) pe_int (fun _ _ => rfl)) pe_str rfl) (pss_one (ps_expr (pe_m (pv 2) Tx.c_House (g_House_share Tx) hr (pa_cons (pv 3) (pa_cons (pe_ix ix_seq (pv 4) pe_int (fun _ _ => rfl)) pa_nil))))) pss_nil)))
                (pss_cons (ps_expr (pe_m0 (pv 2) Tx.c_House (g_House_settle Tx) hr)) (pss_one (ps_ret (pv 2)))))))), ?_⟩
      refine ⟨_, rfl, sizeB' (Nat.le_of_ble_eq_true rfl), fun tp htp => ?_⟩
      have s1 : Same H (upd H tp (.tup [.ty "list", .ty "tuple"])) := same_new htp
      refine ⟨_, tp, _, _, _, true, rfl, upd_same, .cons (.ty _) (.cons (.ty _) .nil), tyx_list (s1.seq hl), kitAny_cons (b := true) (r := true) (kit_ty (by decide +kernel)) (fun e => nomatch e) (fun _ => rfl), _, rfl, iteF ?_⟩
      refine ⟨_, rfl, l, rfl, ⟨_, s1.seq hl⟩, fun D hD => ?_⟩
      refine lc_pure (L2.walk_list (K := K) (a := l) (xs := evs)) (List.replicate evs.length (V.bl true)) (by simp) (sizeB (by omega)) hD (fun H2 s2 => s2.seq (s1.seq hl)) (fun i x H2 H' Pz hi s2 y hP => ?_) fun H2 s2 hL2 => ?_
      · obtain ⟨rfl, hx⟩ := y
        obtain ⟨hi', hx'⟩ := hgi hx
        have hpi : ps[i] ∈ ps := List.getElem_mem hi'
        exact ⟨rfl, _, rfl, ν, x, (ps[i], enOf T ps ps[i]), N, O.ok W hpi, en_ok O W hF hpi, hx'.mono (s1.trans s2), rfl, fun H3 s3 => hP _ _ s3 (rep_get _ hi)⟩
      · refine ⟨D, List.replicate evs.length true, rfl, SqL.of (by rw [hL2, List.map_replicate]), _, rfl, ?_⟩
        rw [rep_all]
        have s2 := s1.trans s2
        refine iteF ⟨_, rfl, ν, T, ps, l, evs, N, W, O, hz, s2.seq hl, Paired.mapP he (fun v e h => h.mono s2), rfl, fun H3 s3 => ⟨_, rfl, iteF ?_⟩⟩
        have s3 := s2.trans s3
        refine ⟨rfl, fun x dx' hx hdx hne => ⟨x, dx', rfl, upd_same, fun sd fd rw0 H4 e1 e2 e3 ne0 s4 g1 g2 g3 g4 => ⟨rfl, ?_⟩⟩⟩
        have hx0 : H x = none := s3.free hx
        have hE : Same H3 (upd (upd H3 dx' (.own x)) x (.ins (hC K) dx' [])) := Same.trans (same_new hdx) (same_new (by rw [upd_ne hne.symm]; exact hx))
        have s5 : Same H3 H4 := (hid_in (l := [x]) hE (fun b hb => by rw [List.mem_singleton.mp hb]; exact hx)).trans (s4.trans hid_sub)
        have hsd : H3 sd = none := hE.free e1
        have hfd : H3 fd = none := hE.free e2
        have s6 : Same H (hid H4 [sd, fd]) := hid_in (s3.trans s5) (fun b hb => by
          simp only [List.mem_cons, List.not_mem_nil, or_false] at hb
          rcases hb with rfl | rfl
          · exact s3.free hsd
          · exact s3.free hfd)
        have hM0 : HM K ν H4 x sd fd ⟨[], []⟩ := ⟨N, fun p hp => (by cases hp), ne0, dx', rw0, [], [], g1, g2, .nil, g3, ⟨rfl, fun i f e => by simp at e⟩⟩
        refine ⟨_, rfl, l, rfl, ⟨_, (s6.trans hid_sub).seq hl⟩, ?_⟩
        refine for_it (L2.walk_list (K := K) (a := l) (xs := evs))
          (fun i σ H' => ∃ u v, σ = [some (.ref (hC K)), some (.ref l), some (.ref x), u, v, none] ∧ Same H (hid H' [sd, fd]) ∧ HM K ν H' x sd fd (((ents T ps).take i).foldl one1 ⟨[], []⟩) ∧ (((ents T ps).take i).foldl one1 ⟨[], []⟩).L.length ≤ i ∧ (((ents T ps).take i).foldl one1 ⟨[], []⟩).F.length ≤ i) ?_ ?_ ?_ ?_
        · exact ⟨_, _, rfl, s6, hM0, Nat.le_refl _, Nat.le_refl _⟩
        · rintro i σ H' hi ⟨u, v, rfl, t1, _⟩
          exact (t1.trans hid_sub).seq hl
        · rintro i y σ H' H'' hi ⟨u, v, rfl, t1, hM, z1, z2⟩ ⟨rfl, hy⟩
          obtain ⟨hi', q, t, rfl, q2, q3⟩ := hgi hy
          have hpi : ps[i] ∈ ps := List.getElem_mem hi'
          have pk := O.ok W hpi
          have ok := en_ok O W hF hpi
          have q2' := t1.tup q2
          have q3' := t1.tup q3
          rw [htake hi', List.foldl_append, List.foldl_cons, List.foldl_nil]
          generalize ((ents T ps).take i).foldl one1 ⟨[], []⟩ = Si at hM z1 z2
          obtain ⟨dxm, rwm, hx1⟩ := hM.ins
          obtain ⟨bl1, bl2⟩ := one1_L Si (ps[i], enOf T ps ps[i])
          refine ⟨q, _, rfl, hid_sub.tup q2', rfl, _, _, rfl, _, _, rfl, rfl, ?_⟩
          show ∃ _, _
          cases hen : enOf T ps ps[i] with
          | th xx =>
            rw [hen] at q3' ok bl1 bl2
            obtain ⟨r, er⟩ := thV_hd xx
            refine ⟨_, rfl, .inr (.inl ⟨t, _, _, _, rfl, rfl, hid_sub.tup q3', (by show atI (thV xx) 0 = _; rw [er]; exact atI0), rfl, _, rfl, ?_⟩)⟩
            have hne : ¬ V.str (kdS (kd (some xx))) = V.str (Str.ofString "link") := by
              intro zz
              have zz := V.str.inj zz
              cases xx <;> exact absurd zz (show ¬ _ from (by first | exact (by decide +kernel : ¬ (Str.ofString "file") = Str.ofString "link") | exact (by decide +kernel : ¬ (Str.ofString "directory") = Str.ofString "link") | exact (by decide +kernel : ¬ (Str.ofString "symlink") = Str.ofString "link")))
            rw [decide_eq_false hne]
            refine iteT ⟨_, rfl, x, dxm, _, rfl, hx1, rfl, _, rfl, _, rfl, ν, x, sd, fd, Si, _, ps[i], t, hM, pk, .th ok.1 q3', by omega, by omega, rfl, fun H5 t5 hM5 => ⟨_, _, rfl, t1.trans t5, hM5, by omega, by omega⟩⟩
          | file ff =>
            rw [hen] at q3' bl1 bl2
            refine ⟨_, rfl, .inr (.inl ⟨t, _, _, _, rfl, rfl, hid_sub.tup q3', atI0, rfl, _, rfl, ?_⟩)⟩
            rw [decide_eq_false (show ¬ V.str (Str.ofString "file") = V.str (Str.ofString "link") from fun zz => absurd (V.str.inj zz) (by decide +kernel))]
            refine iteT ⟨_, rfl, x, dxm, _, rfl, hx1, rfl, _, rfl, _, rfl, ν, x, sd, fd, Si, _, ps[i], t, hM, pk, .file q3', by omega, by omega, rfl, fun H5 t5 hM5 => ⟨_, _, rfl, t1.trans t5, hM5, by omega, by omega⟩⟩
          | link qq =>
            rw [hen] at q3'
            refine ⟨_, rfl, .inr (.inl ⟨t, _, _, _, rfl, rfl, hid_sub.tup q3', atI0, rfl, _, rfl, ?_⟩)⟩
            rw [decide_eq_true rfl]
            exact iteF ⟨_, _, rfl, t1, hM, by show Si.L.length ≤ _; omega, by show Si.F.length ≤ _; omega⟩
        · rintro σ H' ⟨u, v, rfl, t1, hM, z1, z2⟩
          rw [List.take_of_length_le (by omega)] at hM z1 z2
          refine ⟨_, rfl, l, rfl, ⟨_, (t1.trans hid_sub).seq hl⟩, ?_⟩
          refine for_it (L2.walk_list (K := K) (a := l) (xs := evs))
            (fun i σ H' => ∃ u v, σ = [some (.ref (hC K)), some (.ref l), some (.ref x), u, v, none] ∧ Same H (hid H' [sd, fd]) ∧ HM K ν H' x sd fd (((ents T ps).take i).foldl one2 ((ents T ps).foldl one1 ⟨[], []⟩)) ∧ (((ents T ps).take i).foldl one2 ((ents T ps).foldl one1 ⟨[], []⟩)).L.length ≤ 300 + i ∧ (((ents T ps).take i).foldl one2 ((ents T ps).foldl one1 ⟨[], []⟩)).F.length ≤ 300 + i) ?_ ?_ ?_ ?_
          · exact ⟨_, _, rfl, t1, hM, Nat.le_trans z1 (by omega), Nat.le_trans z2 (by omega)⟩
          · rintro i σ H' hi ⟨u, v, rfl, t1, _⟩
            exact (t1.trans hid_sub).seq hl
          · rintro i y σ H' H'' hi ⟨u, v, rfl, t1, hM, z1, z2⟩ ⟨rfl, hy⟩
            obtain ⟨hi', q, t, rfl, q2, q3⟩ := hgi hy
            have hpi : ps[i] ∈ ps := List.getElem_mem hi'
            have pk := O.ok W hpi
            have q2' := t1.tup q2
            have q3' := t1.tup q3
            have P2 := pass2_all W O i (by omega)
            rw [htake hi', List.foldl_append, List.foldl_cons, List.foldl_nil]
            generalize ((ents T ps).take i).foldl one2 ((ents T ps).foldl one1 ⟨[], []⟩) = Si at hM z1 z2 P2
            obtain ⟨dxm, rwm, hx1⟩ := hM.ins
            obtain ⟨bl1, bl2⟩ := one2_L Si (ps[i], enOf T ps ps[i])
            refine ⟨q, _, rfl, hid_sub.tup q2', rfl, _, _, rfl, _, _, rfl, rfl, ?_⟩
            show ∃ _, _
            cases hen : enOf T ps ps[i] with
            | th xx =>
              rw [hen] at q3'
              obtain ⟨r, er⟩ := thV_hd xx
              refine ⟨_, rfl, .inr (.inl ⟨t, _, _, _, rfl, rfl, hid_sub.tup q3', (by show atI (thV xx) 0 = _; rw [er]; exact atI0), rfl, _, rfl, ?_⟩)⟩
              have hne : ¬ V.str (kdS (kd (some xx))) = V.str (Str.ofString "link") := by
                intro zz
                have zz := V.str.inj zz
                cases xx <;> exact absurd zz (show ¬ _ from (by first | exact (by decide +kernel : ¬ (Str.ofString "file") = Str.ofString "link") | exact (by decide +kernel : ¬ (Str.ofString "directory") = Str.ofString "link") | exact (by decide +kernel : ¬ (Str.ofString "symlink") = Str.ofString "link")))
              rw [decide_eq_false hne]
              exact iteF ⟨_, _, rfl, t1, hM, by show Si.L.length ≤ _; omega, by show Si.F.length ≤ _; omega⟩
            | file ff =>
              rw [hen] at q3'
              refine ⟨_, rfl, .inr (.inl ⟨t, _, _, _, rfl, rfl, hid_sub.tup q3', atI0, rfl, _, rfl, ?_⟩)⟩
              rw [decide_eq_false (show ¬ V.str (Str.ofString "file") = V.str (Str.ofString "link") from fun zz => absurd (V.str.inj zz) (by decide +kernel))]
              exact iteF ⟨_, _, rfl, t1, hM, by show Si.L.length ≤ _; omega, by show Si.F.length ≤ _; omega⟩
            | link qq =>
              rw [hen] at q3' bl1 bl2
              obtain ⟨u1, ff, u2⟩ := en_link O hpi hen
              obtain ⟨xx, hxx⟩ := Option.isSome_iff_exists.mp ((P2.key qq).mpr ⟨u1, .inr (by rw [u2]; rfl)⟩)
              refine ⟨_, rfl, .inr (.inl ⟨t, _, _, _, rfl, rfl, hid_sub.tup q3', atI0, rfl, _, rfl, ?_⟩)⟩
              rw [decide_eq_true rfl]
              refine iteT ⟨_, rfl, x, dxm, _, rfl, hx1, rfl, _, rfl, _, rfl, .inr (.inl ⟨t, _, _, _, rfl, rfl, hid_sub.tup q3', rfl, ν, x, sd, fd, Si, ps[i], qq, xx, hM, pk, O.ok W u1, hxx, by omega, rfl, fun H5 t5 hM5 => ⟨_, _, rfl, t1.trans t5, ?_, by omega, by omega⟩⟩)⟩
              show HM K ν H5 x sd fd (one2 Si (ps[i], .link qq))
              unfold one2
              show HM K ν H5 x sd fd ⟨putp Si.L ps[i] ((lkp Si.L qq).getD (.file 0)), Si.F⟩
              rw [hxx]
              exact hM5
          · rintro σ H' ⟨u, v, rfl, t1, hM, z1, z2⟩
            rw [List.take_of_length_le (by omega)] at hM z1 z2
            obtain ⟨I, W2⟩ := houseOf_iso W O
            have hM : HM K ν H' x sd fd (houseOf (ents T ps)) := hM
            have z1 : (houseOf (ents T ps)).L.length ≤ 300 + evs.length := z1
            have z2 : (houseOf (ents T ps)).F.length ≤ 300 + evs.length := z2
            obtain ⟨_, key, nsf, dxm, rwm, kvs, kfs, y1, y2, y3, y4, y5⟩ := id hM
            have hpl : ∀ b ∈ [x], ∃ o, H' b = some o ∧ plainO o = true := fun b hb => by rw [List.mem_singleton.mp hb]; exact ⟨_, y1, rfl⟩
            have hxn : x ∉ [sd, fd] := hM.an
            simp only [List.mem_cons, List.not_mem_nil, or_false, not_or] at hxn
            refine ⟨_, rfl, x, dxm, _, rfl, y1, rfl, ν, x, houseOf (ents T ps), dxm, sd, fd, rwm, kvs, kfs, N, W2, by omega, y1, y2, y3.mono hid_sub, y4, y5.mono hid_sub, rfl, fun rw2 H6 r0 r1 r2 r3 => ?_⟩
            refine ⟨_, rfl, k x H6 (Same.trans (hid_in (t1.trans hid_sub) (fun b hb => by rw [List.mem_singleton.mp hb]; exact hx0)) (r1.trans hid_sub)) ⟨N, W2, dxm, sd, fd, rw2, kvs, kfs, r2, ?_, ?_, ?_, ?_, r3.mono hid_sub⟩ (by omega) (by omega)⟩
            · exact (hid_some (r1 _ _ (hid_at y2 (by simpa using Ne.symm hxn.1)))).1
            · exact ((y3.mono hid_sub).hide hpl).mono (r1.trans hid_sub)
            · exact (hid_some (r1 _ _ (hid_at y4 (by simpa using Ne.symm hxn.2)))).1
            · exact ((y5.mono hid_sub).hide hpl).mono (r1.trans hid_sub)
    obtain ⟨t, h1, h2⟩ := tail
    exact ⟨t, h1.nox, h2⟩
end K89
set_option Elab.async false
set_option linter.all false
set_option maxRecDepth 100000
set_option maxHeartbeats 4000000
/-! K89.Q1: the source of draws. -/
namespace K89
open PySem PySem.Spec PyProof.Rows L2
variable {P : Program} {w : World} {K : PySem.W.Frag} {mg : Str → Option Value} {base : Heap}
/-- a source behind at most n draws -/
def SrcAt (H : Hp) (a : Addr) (n : Nat) : Prop := ∃ g m t : Int, H a = some (.lst [.int g, .int m, .int t]) ∧ 0 ≤ m ∧ m < 2305843009213693951 ∧ 0 ≤ t ∧ t ≤ n
theorem SrcAt.mono {H H' : Hp} {a : Addr} {n : Nat} (h : SrcAt H a n) (s : Same H H') : SrcAt H' a n := by
  obtain ⟨g, m, t, h1, h2⟩ := h
  exact ⟨g, m, t, s _ _ h1, h2⟩
theorem SrcAt.le {H : Hp} {a : Addr} {n k : Nat} (h : SrcAt H a n) (e : n ≤ k) : SrcAt H a k := by
  obtain ⟨g, m, t, h1, h2, h3, h4, h5⟩ := h
  exact ⟨g, m, t, h1, h2, h3, h4, by omega⟩
theorem SrcAt.dom {H : Hp} {a : Addr} {n : Nat} (h : SrcAt H a n) : ∃ o, H a = some o ∧ plainO o = true := by
  obtain ⟨g, m, t, h1, _⟩ := h
  exact ⟨_, h1, rfl⟩
theorem pos1 : (0 : Int) < 2305843009213693951 := by decide
def spSource (K : PySem.W.Frag) : Sp := fun vs H Q _ => ∃ (sc : Addr) (ns : List Int) (at_ : Int), SqL K H sc (ns.map V.int) ∧ ns.length ≤ 1000 ∧ 0 ≤ at_ ∧ at_ ≤ 1000 ∧ vs = [.ref sc, .int at_] ∧ ∀ a H', Same H H' → H a = none → SrcAt H' a 0 → Q (.ref a) H'
theorem g_law_source (T : Txt P K mg) : Dg P w K mg base "_law_source" 1 (spSource K) := by
  refine T.h_law_source.mk sc_law_source (fun _ _ _ _ _ _ us hl => match us, hl with | [_, _], _ => rfl) (fun vs H Q E h => ?_) (fun f cdv A outer s H vs Q E hr h => ?_)
  · obtain ⟨sc, ns, at_, _, _, _, _, rfl, _⟩ := h; rfl
  · obtain ⟨sc, ns, at_, hs, hz, h0, h1, rfl, k⟩ := h
    refine ⟨_, C8.pss_cut (pset 2 sc_law_source.nd (pe_ifExp (pt_cmpR op_lt (pv 1) (pe_callB call_len_seq (by rfl) T.f_len PySem.boot_len (pa_cons (pv 0) pa_nil)) rfl) (pe_ix ix_seq (pv 0) (pv 1) (fun _ _ => rfl)) pe_int))
      (C8.pss_cut (pset 3 sc_law_source.nd (pe_ifExp (pt_cmpR op_ge (pe_callB call_abs (by rfl) T.f_abs (by decide +kernel) (pa_cons (pv 2) pa_nil)) (pe_op op_pow pe_int pe_int) rfl) (pe_callB call_abs (by rfl) T.f_abs (by decide +kernel) (pa_cons (pv 2) pa_nil)) pe_int))
        (pss_cons (pset 4 sc_law_source.nd (pe_add (pe_add (pe_add (pe_op op_mod (pe_callTy call_int1 (by rfl) T.f_int (by decide +kernel) (pa_cons (pv 2) pa_nil)) pe_int) (pe_op op_mul (pe_op op_mul pe_int (pv 1)) (pv 1))) (pe_op op_mul pe_int (pv 1))) pe_int))
          (pss_one (ps_ret (pe_lst (pa_cons (pv 3) (pa_cons (pe_op op_mod (pe_callTy call_int1 (by rfl) T.f_int (by decide +kernel) (pa_cons (pv 4) pa_nil)) pe_int) (pa_cons pe_int pa_nil)))))))), ?_⟩
    refine ⟨fun σ H' => H' = H ∧ ∃ c : Int, σ = [some (.ref sc), some (.int at_), some (.int c), none, none], ?_, ?_⟩
    · refine ⟨_, rfl, _, rfl, sc, _, rfl, .inl hs, _, _, rfl, rfl, _, rfl, ?_⟩
      by_cases hlt : at_ < ((ns.map V.int).length : Int)
      · rw [decide_eq_true hlt]
        obtain ⟨j, rfl⟩ : ∃ j : Nat, at_ = (j : Int) := ⟨at_.toNat, by omega⟩
        have hj : j < ns.length := by rw [List.length_map] at hlt; omega
        refine iteT ⟨_, rfl, _, rfl, .inl ⟨sc, _, _, _, rfl, rfl, hs, atI_nat (v := .int ns[j]) ?_, rfl, _, rfl⟩⟩
        rw [List.getElem?_map, List.getElem?_eq_getElem hj]; rfl
      · rw [decide_eq_false hlt]
        exact iteF ⟨rfl, 0, rfl⟩
    · rintro σ H' ⟨rfl, c, rfl⟩
      refine ⟨fun σ H2 => H2 = H' ∧ ∃ g : Int, σ = [some (.ref sc), some (.int at_), some (.int c), some (.int g), none], ?_, ?_⟩
      · refine ⟨_, rfl, c, rfl, _, _, rfl, rfl, ⟨by decide, by decide, by decide⟩, _, _, rfl, rfl, _, rfl, ?_⟩
        generalize decide ((10 : Int) ^ (18 : Int).toNat ≤ (if c < 0 then -c else c)) = b
        cases b with
        | true => exact iteT ⟨_, rfl, c, rfl, rfl, _, rfl⟩
        | false => exact iteF ⟨rfl, 0, rfl⟩
      · rintro σ H2 ⟨rfl, g, rfl⟩
        refine ⟨_, rfl, .inl ⟨c, rfl, _, _, rfl, rfl, pos1, ?_⟩⟩
        refine ⟨_, rfl, _, _, rfl, rfl, .inl (by omega), _, rfl, _, _, rfl, rfl, .inr (by omega), _, _, rfl, rfl, _, rfl, _, _, rfl, rfl, .inl (by omega), _, _, rfl, rfl, _, _, rfl, rfl, ?_⟩
        refine ⟨_, rfl, _, rfl, .inl ⟨_, rfl, _, _, rfl, rfl, pos1, sizeB' (Nat.le_of_ble_eq_true rfl), fun a ha => ?_⟩⟩
        exact k a _ (same_new ha) ha ⟨g, _, 0, upd_same, Int.emod_nonneg _ (by decide), Int.emod_lt_of_pos _ (by decide), Int.le_refl _, Int.le_refl _⟩
/-! ### a draw -/
abbrev primesV : List V := [.int 2147483647, .int 2147483629, .int 2147483587, .int 2147483579, .int 2147483563, .int 2147483549, .int 2147483543]
theorem pos7 : (0 : Int) < 7 := by decide
theorem ne7 : (7 : Int) ≠ 0 := by decide
theorem prim {i : Int} (h0 : 0 ≤ i) (h1 : i < 7) : ∃ q : Int, atI primesV i = some (.int q) ∧ 0 < q ∧ q ≤ 2147483647 := by
  have : i = 0 ∨ i = 1 ∨ i = 2 ∨ i = 3 ∨ i = 4 ∨ i = 5 ∨ i = 6 := by omega
  rcases this with rfl | rfl | rfl | rfl | rfl | rfl | rfl <;> exact ⟨_, rfl, by decide, by decide⟩

def spDraw : Sp := fun vs H Q _ => ∃ (a : Addr) (n : Nat) (many : Int), SrcAt H a n ∧ n ≤ 1000000 ∧ 0 < many ∧ many < 1000000 ∧ vs = [.ref a, .int many] ∧ ∀ d H', 0 ≤ d → d < many → SrcAt H' a (n + 1) → Same (hid H [a]) (hid H' [a]) → Q (.int d) H'
theorem g_law_draw (T : Txt P K mg) : Dg P w K mg base "_law_draw" 1 spDraw := by
  refine T.h_law_draw.mk sc_law_draw (fun _ _ _ _ _ _ us hl => match us, hl with | [_, _], _ => rfl) (fun vs H Q E h => ?_) (fun f cdv A outer s H vs Q E hr h => ?_)
  · obtain ⟨a, n, many, _, _, _, _, rfl, _⟩ := h; rfl
  · obtain ⟨a, n, many, ⟨g, m, t, ha, m0, m1, t0, t1⟩, hn, hm0, hm1, rfl, k⟩ := h
    have hI := @call_int1
    refine ⟨_, pss_cons (ps_if (pt_cmpR op_gt (pe_ix ix_seq (pv 0) pe_int (fun _ _ => rfl)) pe_int rfl)
        (pss_cons (pset 2 sc_law_draw.nd (pe_op op_mod (pe_callTy call_int1 (by rfl) T.f_int (by decide +kernel) (pa_cons (pe_ix ix_seq (pv 0) pe_int (fun _ _ => rfl)) pa_nil)) (pv 1)))
          (pss_cons (ps_asg (pe_op op_fdiv (pe_ix ix_seq (pv 0) pe_int (fun _ _ => rfl)) (pv 1)) (pg_sub (pv 0) pe_int set_list)) (pss_one (ps_ret (pv 2))))) pss_nil)
      (pss_cons (pset 3 sc_law_draw.nd (pe_tup (pa_cons pe_int (pa_cons pe_int (pa_cons pe_int (pa_cons pe_int (pa_cons pe_int (pa_cons pe_int (pa_cons pe_int pa_nil)))))))))
        (pss_cons (ps_asg (pe_add (pe_ix ix_seq (pv 0) pe_int (fun _ _ => rfl)) pe_int) (pg_sub (pv 0) pe_int set_list))
          (pss_cons (pset 4 sc_law_draw.nd (pe_ix ix_seq (pv 0) pe_int (fun _ _ => rfl)))
            (pss_cons (pset 5 sc_law_draw.nd (pe_add (pe_op op_mul (pe_add (pe_ix ix_seq (pv 0) pe_int (fun _ _ => rfl)) (pe_op op_mul pe_int (pv 4))) (pe_add (pe_op op_mul pe_int (pv 4)) pe_int)) (pe_op op_mul (pe_op op_mul pe_int (pv 4)) (pv 4))))
              (C8.pss_cut (pset 6 sc_law_draw.nd (pe_op op_mod (pe_callTy call_int1 (by rfl) T.f_int (by decide +kernel) (pa_cons (pe_op op_powW (pv 5) pe_int) pa_nil)) (pe_ix ix_seq (pv 3) (pe_op op_mod (pe_callTy call_int1 (by rfl) T.f_int (by decide +kernel) (pa_cons (pv 4) pa_nil)) pe_int) (fun _ _ => rfl))))
                (C8.pss_cut (pset 6 sc_law_draw.nd (pe_op op_mod (pe_callTy call_int1 (by rfl) T.f_int (by decide +kernel) (pa_cons (pe_op op_mul (pv 6) (pe_add (pe_add (pe_op op_fdiv (pv 6) pe_int) (pe_op op_mul pe_int (pv 4))) pe_int)) pa_nil)) (pe_ix ix_seq (pv 3) (pe_op op_mod (pe_callTy call_int1 (by rfl) T.f_int (by decide +kernel) (pa_cons (pe_add (pv 4) pe_int) pa_nil)) pe_int) (fun _ _ => rfl))))
                  (pss_one (ps_ret (pe_op op_mod (pe_callTy call_int1 (by rfl) T.f_int (by decide +kernel) (pa_cons (pe_op op_fdiv (pv 6) pe_int) pa_nil)) (pv 1)))))))))), ?_⟩
    have hsq : SqL K H a [.int g, .int m, .int t] := SqL.of ha
    refine ⟨_, rfl, .inl ⟨a, _, _, _, rfl, rfl, hsq, atI0, _, _, rfl, rfl, _, rfl, ?_⟩⟩
    by_cases hg : (0 : Int) < g
    · rw [decide_eq_true hg]
      refine iteT ⟨_, rfl, .inl ⟨a, _, _, _, rfl, rfl, hsq, atI0, .inl ⟨g, rfl, _, rfl, _, _, rfl, rfl, hm0, ?_⟩⟩⟩
      refine ⟨_, rfl, .inl ⟨a, _, _, _, rfl, rfl, hsq, atI0, _, rfl, _, _, rfl, rfl, ⟨hm0, by omega⟩, _, rfl, a, _, _, 0, rfl, rfl, ha, rfl, _, rfl, ?_⟩⟩
      exact k _ _ (Int.emod_nonneg _ (by omega)) (Int.emod_lt_of_pos _ hm0) ⟨_, m, t, upd_same, m0, m1, t0, by omega⟩ (by rw [hid_upd (by simp)]; exact Same.refl _)
    · rw [decide_eq_false hg]
      refine iteF ⟨sizeB' (Nat.le_of_ble_eq_true rfl), fun p hp => ?_⟩
      have nap := ne_of_none ha hp
      have ha1 : upd H p (.tup [.int 2147483647, .int 2147483629, .int 2147483587, .int 2147483579, .int 2147483563, .int 2147483549, .int 2147483543]) a = some (.lst [.int g, .int m, .int t]) := by rw [upd_ne nap]; exact ha
      have sN : Same (hid H [a]) (hid (upd H p (.tup [.int 2147483647, .int 2147483629, .int 2147483587, .int 2147483579, .int 2147483563, .int 2147483549, .int 2147483543])) [a]) := hid_new hp
      have hP : upd H p (.tup [.int 2147483647, .int 2147483629, .int 2147483587, .int 2147483579, .int 2147483563, .int 2147483549, .int 2147483543]) p = some (.tup [.int 2147483647, .int 2147483629, .int 2147483587, .int 2147483579, .int 2147483563, .int 2147483549, .int 2147483543]) := upd_same
      generalize upd H p (.tup [.int 2147483647, .int 2147483629, .int 2147483587, .int 2147483579, .int 2147483563, .int 2147483549, .int 2147483543]) = H1 at ha1 sN hP
      refine ⟨_, rfl, .inl ⟨a, _, _, _, rfl, rfl, SqL.of ha1, rfl, _, _, rfl, rfl, _, rfl, a, _, _, 2, rfl, rfl, ha1, rfl, ?_⟩⟩
      have hP2 : upd H1 a (.lst [.int g, .int m, .int (t + 1)]) p = some (.tup [.int 2147483647, .int 2147483629, .int 2147483587, .int 2147483579, .int 2147483563, .int 2147483549, .int 2147483543]) := by rw [upd_ne nap.symm]; exact hP
      have ha2 : upd H1 a (.lst [.int g, .int m, .int (t + 1)]) a = some (.lst [.int g, .int m, .int (t + 1)]) := upd_same
      have s2 : Same (hid H [a]) (hid (upd H1 a (.lst [.int g, .int m, .int (t + 1)])) [a]) := by rw [hid_upd (by simp)]; exact sN
      show (tSeq _ _) _ _ (upd H1 a (.lst [.int g, .int m, .int (t + 1)]))
      generalize upd H1 a (.lst [.int g, .int m, .int (t + 1)]) = H2 at ha2 s2 hP2
      refine ⟨_, rfl, .inl ⟨a, _, _, _, rfl, rfl, SqL.of ha2, rfl, ?_⟩⟩
      have hT : 0 ≤ t + 1 ∧ t + 1 ≤ 1000001 := by omega
      have hk : ∀ d H', 0 ≤ d → d < many → H' = H2 → Q (.int d) H' := fun d H' q0 q1 e => by
        rw [e]
        exact k d H2 q0 q1 ⟨g, m, t + 1, ha2, m0, m1, hT.1, by omega⟩ s2
      clear k ha ha1 hP sN hsq
      generalize t + 1 = T at *
      refine ⟨_, rfl, .inl ⟨a, _, _, _, rfl, rfl, SqL.of ha2, rfl, _, rfl, _, _, rfl, rfl, .inl (by omega), _, _, rfl, rfl, _, rfl, _, _, rfl, rfl, .inl (by omega), _, _, rfl, rfl, _, _, rfl, rfl, .inr (by omega), _, rfl, _, _, rfl, rfl, .inl (by omega), _, rfl, _, _, rfl, rfl, .inr (by omega), _, _, rfl, rfl, ?_⟩⟩
      refine ⟨fun σ H' => H' = H2 ∧ ∃ b f : Int, 0 ≤ f ∧ f < 2147483647 ∧ σ = [some (.ref a), some (.int many), none, some (.ref p), some (.int T), some (.int b), some (.int f)], ?_, ?_⟩
      · refine ⟨_, rfl, _, _, rfl, rfl, ⟨by decide, ?_⟩, .inl ⟨_, rfl, _, rfl, _, rfl, .inl ⟨_, rfl, _, _, rfl, rfl, pos7, .inr (.inl ?_)⟩⟩⟩
        · have hb : Builtin.Int.intBits ((m + 50021 * T) * (2 * T + 3) + 6151 * T * T) ≤ 200 := by
            refine PyProof.Rows.intBits_le ?_
            have h1 : 0 ≤ (m + 50021 * T) * (2 * T + 3) := Int.mul_nonneg (by omega) (by omega)
            have h2 : (m + 50021 * T) * (2 * T + 3) ≤ 2305843100000000000 * 2000010 := Int.mul_le_mul (by omega) (by omega) (by omega) (by decide)
            have h3 : 0 ≤ 6151 * T * T := Int.mul_nonneg (by omega) (by omega)
            have h4 : 6151 * T * T ≤ 6151006152 * 1000010 := Int.mul_le_mul (by omega) (by omega) (by omega) (by decide)
            have h5 : (2305843100000000000 : Int) * 2000010 + 6151006152 * 1000010 < 2 ^ 200 := by decide
            omega
          have hc : ((Builtin.Int.intBits ((m + 50021 * T) * (2 * T + 3) + 6151 * T * T) : Nat) : Int) * 3 ≤ 2 ^ 27 := by
            have : ((2 : Int) ^ 27) = 134217728 := by decide
            omega
          exact hc
        · obtain ⟨q, e1, e2, e3⟩ := prim (Int.emod_nonneg T ne7) (Int.emod_lt_of_pos T pos7)
          exact ⟨p, _, _, _, rfl, rfl, SqT.of hP2, e1, _, _, rfl, rfl, e2, rfl, _, _, Int.emod_nonneg _ (by omega), Int.lt_of_lt_of_le (Int.emod_lt_of_pos _ e2) e3, rfl⟩
      · rintro σ H' ⟨rfl, b, f1, f10, f11, rfl⟩
        refine ⟨fun σ H2 => H2 = H' ∧ ∃ f : Int, 0 ≤ f ∧ σ = [some (.ref a), some (.int many), none, some (.ref p), some (.int T), some (.int b), some (.int f)], ?_, ?_⟩
        · have hdiv : 0 ≤ f1 / 4091 ∧ f1 / 4091 ≤ f1 := ⟨by omega, by omega⟩
          refine ⟨_, rfl, _, rfl, _, _, rfl, rfl, ⟨by decide, by decide⟩, _, rfl, _, _, rfl, rfl, .inl (by omega), _, _, rfl, rfl, _, _, rfl, rfl, _, _, rfl, rfl, .inl (by omega), .inl ⟨_, rfl, _, rfl, _, rfl, _, _, rfl, rfl, .inl ⟨_, rfl, _, _, rfl, rfl, pos7, .inr (.inl ?_)⟩⟩⟩
          obtain ⟨q, e1, e2, e3⟩ := prim (Int.emod_nonneg (T + 2) ne7) (Int.emod_lt_of_pos (T + 2) pos7)
          exact ⟨p, _, _, _, rfl, rfl, SqT.of hP2, e1, _, _, rfl, rfl, e2, rfl, _, Int.emod_nonneg _ (by omega), rfl⟩
        · rintro σ H2 ⟨rfl, f, f0, rfl⟩
          exact ⟨_, rfl, _, _, rfl, rfl, ⟨by decide, by decide⟩, .inl ⟨_, rfl, _, rfl, _, _, rfl, rfl, hm0, hk _ _ (Int.emod_nonneg _ (by omega)) (Int.emod_lt_of_pos _ hm0) rfl⟩⟩
end K89
set_option Elab.async false
set_option linter.all false
set_option maxRecDepth 100000
set_option maxHeartbeats 4000000
/-! K89.Q2: stamps, numbers, path. -/
namespace K89
open PySem PySem.Spec PyProof.Rows L2
variable {P : Program} {w : World} {K : PySem.W.Frag} {mg : Str → Option Value} {base : Heap}
/-- one of a short list -/
theorem pick {xs : List V} {d : Int} (h0 : 0 ≤ d) (h1 : d < xs.length) : ∃ x, x ∈ xs ∧ atI xs d = some x := by
  obtain ⟨j, rfl⟩ : ∃ j : Nat, d = (j : Int) := ⟨d.toNat, by omega⟩
  have hj : j < xs.length := by omega
  exact ⟨xs[j], List.getElem_mem hj, atI_nat (List.getElem?_eq_getElem hj)⟩
theorem src_new {H : Hp} {a p : Addr} {n : Nat} {o : HO} (h : SrcAt H a n) (hp : H p = none) : SrcAt (upd H p o) a n := h.mono (same_new hp)
theorem SrcAt.ne {H : Hp} {a p : Addr} {n : Nat} (h : SrcAt H a n) (hp : H p = none) : p ≠ a := by
  obtain ⟨o, e, _⟩ := h.dom
  exact (ne_of_none e hp).symm
/-- what a call that only draws and makes leaves -/
structure Drew (a : Addr) (k : Nat) (H H' : Hp) : Prop where
  same : Same (hid H [a]) (hid H' [a])
  src : SrcAt H' a k
theorem Drew.trans {a : Addr} {k k' : Nat} {H H1 H2 : Hp} (x : Drew a k H H1) (y : Drew a k' H1 H2) : Drew a k' H H2 := ⟨x.same.trans y.same, y.src⟩
theorem Drew.le {a : Addr} {k k' : Nat} {H H' : Hp} (x : Drew a k H H') (e : k ≤ k') : Drew a k' H H' := ⟨x.same, x.src.le e⟩
theorem Drew.new {a : Addr} {k : Nat} {H H1 : Hp} {p : Addr} {o : HO} (x : Drew a k H H1) (hp : H1 p = none) : Drew a k H (upd H1 p o) := ⟨x.same.trans (hid_new hp), src_new x.src hp⟩
theorem Drew.at {a : Addr} {k : Nat} {H H' : Hp} {b : Addr} {o : HO} (x : Drew a k H H') (h : H b = some o) (n : b ≠ a) : H' b = some o := (hid_some (x.same _ _ (hid_at h (by simpa using n)))).1
theorem Drew.tup {a : Addr} {k : Nat} {H H' : Hp} {b : Addr} {xs : List V} (x : Drew a k H H') (h : SqT K H b xs) (s : ∃ o, H a = some o ∧ plainO o = true) : SqT K H' b xs :=
  hid_sub.tup (x.same.tup (SqT.hide h fun c hc => by rw [List.mem_singleton.mp hc]; exact s))
def spStamps (K : PySem.W.Frag) : Sp := fun vs H Q _ => ∃ (a : Addr) (n : Nat), SrcAt H a n ∧ n ≤ 900000 ∧ vs = [.ref a] ∧ ∀ q m t H', ModeOk m → TimeOk t → H q = none → H' q = some (.tup [.int m, .int t]) → Drew a (n + 2) H H' → Q (.ref q) H'
theorem g_law_stamps (T : Txt P K mg) : Dg P w K mg base "_law_stamps" 2 (spStamps K) := by
  refine T.h_law_stamps.mk sc_law_stamps (fun _ _ _ _ _ _ us hl => match us, hl with | [_], _ => rfl) (fun vs H Q E h => ?_) (fun f cdv A outer s H vs Q E hr h => ?_)
  · obtain ⟨a, n, _, _, rfl, _⟩ := h; rfl
  · obtain ⟨a, n, hs, hn, rfl, k⟩ := h
    refine ⟨_, pss_one (ps_ret (pe_tup (pa_cons (pe_ix ix_seq (pe_lst (pa_cons pe_int (pa_cons pe_int (pa_cons pe_int (pa_cons pe_int pa_nil))))) (pe_g (g_law_draw T) hr (pa_cons (pv 0) (pa_cons pe_int pa_nil))) (fun _ _ => rfl))
      (pa_cons (pe_ix ix_seq (pe_lst (pa_cons pe_int (pa_cons pe_int (pa_cons pe_int pa_nil)))) (pe_g (g_law_draw T) hr (pa_cons (pv 0) (pa_cons pe_int pa_nil))) (fun _ _ => rfl)) pa_nil)))), ?_⟩
    refine ⟨sizeB' (Nat.le_of_ble_eq_true rfl), fun p1 hp1 => ?_⟩
    have d0 : Drew a n H (upd H p1 (.lst [.int 420, .int 493, .int 0, .int 4095])) := ⟨hid_new hp1, src_new hs hp1⟩
    have n1 := hs.ne hp1
    refine ⟨_, rfl, a, n, 4, d0.src, by omega, by decide, by decide, rfl, fun i H1 i0 i1 hs1 t1 => ?_⟩
    have D1 : Drew a (n + 1) H H1 := d0.trans ⟨t1, hs1⟩
    have e1 : H1 p1 = some (.lst [.int 420, .int 493, .int 0, .int 4095]) := (Drew.mk t1 hs1).at upd_same n1
    obtain ⟨x, hx, ex⟩ := pick (xs := [.int 420, .int 493, .int 0, .int 4095]) i0 i1
    refine .inl ⟨p1, _, i, x, rfl, rfl, SqL.of e1, ex, sizeB' (Nat.le_of_ble_eq_true rfl), fun p2 hp2 => ?_⟩
    have D2 := D1.new (o := .lst [.int 0, .int 7, .int 8589934591]) hp2
    have n2 := D1.src.ne hp2
    refine ⟨_, rfl, a, n + 1, 3, D2.src, by omega, by decide, by decide, rfl, fun j H2 j0 j1 hs2 t2 => ?_⟩
    have D3 : Drew a (n + 1 + 1) H H2 := D2.trans ⟨t2, hs2⟩
    have e2 : H2 p2 = some (.lst [.int 0, .int 7, .int 8589934591]) := (Drew.mk t2 hs2).at upd_same n2
    obtain ⟨y, hy, ey⟩ := pick (xs := [.int 0, .int 7, .int 8589934591]) j0 j1
    refine .inl ⟨p2, _, j, y, rfl, rfl, SqL.of e2, ey, sizeB' (Nat.le_of_ble_eq_true rfl), fun q hq => ?_⟩
    have hm : ∃ m, x = .int m ∧ ModeOk m := by
      simp only [List.mem_cons, List.not_mem_nil, or_false] at hx
      rcases hx with rfl | rfl | rfl | rfl <;> exact ⟨_, rfl, by decide, by decide⟩
    have ht : ∃ t, y = .int t ∧ TimeOk t := by
      simp only [List.mem_cons, List.not_mem_nil, or_false] at hy
      rcases hy with rfl | rfl | rfl <;> exact ⟨_, rfl, by decide, by decide⟩
    obtain ⟨m, rfl, hm⟩ := hm
    obtain ⟨t, rfl, ht⟩ := ht
    have hq0 : H q = none := by
      have nq := D3.src.ne hq
      cases e : H q with
      | none => rfl
      | some o => rw [D3.at e nq] at hq; cases hq
    exact k q m t _ hm ht hq0 upd_same (D3.new hq)
def spNums (K : PySem.W.Frag) : Sp := fun vs H Q _ => ∃ (a : Addr) (n : Nat), SrcAt H a n ∧ n ≤ 900000 ∧ vs = [.ref a] ∧ ∀ l (ns : List Int) H', BytesOk ns → ns.length ≤ 600 → H l = none → H' l = some (.lst (ns.map V.int)) → Drew a (n + 700) H H' → Q (.ref l) H'
theorem ints_of {C : Int → Prop} : ∀ {acc : List V}, (∀ (i : Nat) y, acc[i]? = some y → ∃ z, y = .int z ∧ C z) → ∃ ns : List Int, acc = ns.map V.int ∧ ∀ z ∈ ns, C z
  | [], _ => ⟨[], rfl, fun z hz => by cases hz⟩
  | y :: r, h => by
    obtain ⟨z, rfl, hz⟩ := h 0 y rfl
    obtain ⟨ns, rfl, hn⟩ := ints_of (acc := r) fun i y e => h (i + 1) y e
    exact ⟨z :: ns, rfl, fun x hx => by rcases List.mem_cons.mp hx with rfl | hx; exact hz; exact hn x hx⟩
theorem none_of {a : Addr} {k : Nat} {H H' : Hp} {q : Addr} (D : Drew a k H H') (hq : H' q = none) : H q = none := by
  have nq := D.src.ne hq
  cases e : H q with
  | none => rfl
  | some o => rw [D.at e nq] at hq; cases hq
theorem g_law_numbers (T : Txt P K mg) : Dg P w K mg base "_law_numbers" 2 (spNums K) := by
  refine T.h_law_numbers.mk sc_law_numbers (fun _ _ _ _ _ _ us hl => match us, hl with | [_], _ => rfl) (fun vs H Q E h => ?_) (fun f cdv A outer s H vs Q E hr h => ?_)
  · obtain ⟨a, n, _, _, rfl, _⟩ := h; rfl
  · obtain ⟨a, n, hs, hn, rfl, k⟩ := h
    refine ⟨_, pss_cons (pset 1 sc_law_numbers.nd (pe_ix ix_seq (pe_lst (pa_cons pe_int (pa_cons pe_int (pa_cons pe_int (pa_cons pe_int (pa_cons pe_int (pa_cons pe_int pa_nil))))))) (pe_g (g_law_draw T) hr (pa_cons (pv 0) (pa_cons pe_int pa_nil))) (fun _ _ => rfl)))
      (pss_one (ps_ret (pe_lc (own := [("_law_turn", 2)]) (g := gName 2) (tt := tYes) rfl sc_law_numbers.nd (pi_range1 (by rfl) T.f_range (pa_cons (pv 1) pa_nil)) (blkOk_by (N := N_law_numbers) (sc := defScope s_law_numbers) (by decide +kernel))
        (fun _ _ _ _ _ => pg_name (i := 2) sc_law_numbers.nd rfl (Or.inl rfl)) (fun _ _ _ _ _ => pts_nil)
        (fun _ _ _ _ _ => pe_ix (r := rIx K) ix_seq (pe_lst (pa_cons pe_int (pa_cons pe_int (pa_cons pe_int (pa_cons pe_int pa_nil))))) (pe_g (g_law_draw T) hr (pa_cons (pv 0) (pa_cons pe_int pa_nil))) (fun _ _ => rfl))))), ?_⟩
    refine ⟨sizeB' (Nat.le_of_ble_eq_true rfl), fun p1 hp1 => ?_⟩
    have d0 : Drew a n H (upd H p1 (.lst [.int 0, .int 1, .int 2, .int 3, .int 5, .int 600])) := ⟨hid_new hp1, src_new hs hp1⟩
    have n1 := hs.ne hp1
    refine ⟨_, rfl, a, n, 6, d0.src, by omega, by decide, by decide, rfl, fun i H1 i0 i1 hs1 t1 => ?_⟩
    have D1 : Drew a (n + 1) H H1 := d0.trans ⟨t1, hs1⟩
    have e1 : H1 p1 = some (.lst [.int 0, .int 1, .int 2, .int 3, .int 5, .int 600]) := (Drew.mk t1 hs1).at upd_same n1
    obtain ⟨x, hx, ex⟩ := pick (xs := [.int 0, .int 1, .int 2, .int 3, .int 5, .int 600]) i0 i1
    obtain ⟨c, rfl, c0, c1⟩ : ∃ c : Nat, x = .int (c : Int) ∧ 0 ≤ c ∧ c ≤ 600 := by
      simp only [List.mem_cons, List.not_mem_nil, or_false] at hx
      rcases hx with rfl | rfl | rfl | rfl | rfl | rfl
      · exact ⟨0, rfl, by decide, by decide⟩
      · exact ⟨1, rfl, by decide, by decide⟩
      · exact ⟨2, rfl, by decide, by decide⟩
      · exact ⟨3, rfl, by decide, by decide⟩
      · exact ⟨5, rfl, by decide, by decide⟩
      · exact ⟨600, rfl, by decide, by decide⟩
    refine .inl ⟨p1, _, i, _, rfl, rfl, SqL.of e1, ex, ?_⟩
    refine ⟨_, rfl, _, rfl, by omega, by omega, fun D hD => ?_⟩
    have hDa := D1.src.ne hD
    refine lc_new (L2.walk_range (lo := 0) (n := c)) [a] (fun i H' => SrcAt H' a (n + 1 + i)) (fun i y G => ∃ z, y = V.int z ∧ 0 ≤ z ∧ z ≤ 255) (fun _ _ _ _ _ h => h) (sizeB (by omega)) hD (by simpa using hDa) D1.src (fun i H' acc h => ?_) (fun _ _ _ _ => trivial) (fun i x H2 H' Pz hi s2 hI hac y hP => ?_) fun H2 acc s2 hI e2 e3 e4 => ?_
    · obtain ⟨g, m, t, h1, h2⟩ := h
      exact ⟨g, m, t, by rw [upd_ne hDa.symm]; exact h1, h2⟩
    · obtain ⟨rfl, rfl⟩ := y
      refine ⟨rfl, sizeB' (Nat.le_of_ble_eq_true rfl), fun p2 hp2 => ?_⟩
      have d1 : Drew a (n + 1 + i) H' (upd H' p2 (.lst [.int 0, .int 1, .int 65, .int 255])) := ⟨hid_new hp2, src_new hI hp2⟩
      have n2 := hI.ne hp2
      refine ⟨_, rfl, a, n + 1 + i, 4, d1.src, by omega, by decide, by decide, rfl, fun j H3 j0 j1 hs3 t3 => ?_⟩
      have D3 : Drew a (n + 1 + i + 1) H' H3 := d1.trans ⟨t3, hs3⟩
      have e3 : H3 p2 = some (.lst [.int 0, .int 1, .int 65, .int 255]) := (Drew.mk t3 hs3).at upd_same n2
      obtain ⟨y, hy, ey⟩ := pick (xs := [.int 0, .int 1, .int 65, .int 255]) j0 j1
      refine .inl ⟨p2, _, j, y, rfl, rfl, SqL.of e3, ey, hP y H3 D3.same (by rw [show n + 1 + (i + 1) = n + 1 + i + 1 by omega]; exact D3.src) ?_⟩
      simp only [List.mem_cons, List.not_mem_nil, or_false] at hy
      rcases hy with rfl | rfl | rfl | rfl <;> exact ⟨_, rfl, by decide, by decide⟩
    · obtain ⟨ns, rfl, hb⟩ := ints_of e4
      rw [List.length_map] at e3
      have D2 : Drew a (n + 700) H H2 := ⟨D1.same.trans s2, hI.le (by omega)⟩
      exact k D ns H2 ⟨by omega, hb⟩ (by omega) (none_of D1 hD) e2 D2
end K89
set_option Elab.async false
set_option linter.all false
set_option maxRecDepth 100000
set_option maxHeartbeats 4000000
/-! K89.Q3: a path, pieces. -/
namespace K89
open PySem PySem.Spec PyProof.Rows L2
variable {P : Program} {w : World} {K : PySem.W.Frag} {mg : Str → Option Value} {base : Heap}
theorem Drew.upd {a D : Addr} {k : Nat} {H H1 : Hp} {o : HO} (x : Drew a k H H1) (hD : H D = none) (hDa : D ≠ a) : Drew a k H (L2.upd H1 D o) := by
  refine ⟨fun b u hb => ?_, ?_⟩
  · obtain ⟨h1, h2⟩ := hid_some (x.same _ _ hb)
    exact hid_at (by rw [upd_ne (ne_of_none (hid_some hb).1 hD)]; exact h1) h2
  · obtain ⟨g, m, t, h1, h2⟩ := x.src
    exact ⟨g, m, t, by rw [upd_ne hDa.symm]; exact h1, h2⟩
theorem mem_drop_last {α : Type} {x : α} : ∀ {l : List α}, x ∈ l.dropLast → x ∈ l
  | [], h => by simp at h
  | [y], h => by simp at h
  | y :: z :: r, h => by
    rw [List.dropLast_cons₂] at h
    rcases List.mem_cons.mp h with rfl | h
    · exact List.mem_cons_self
    · exact List.mem_cons_of_mem _ (mem_drop_last h)
theorem wd6 : repS (Str.ofString "q") 101 = wd 6 := by decide +kernel
theorem words_of {C : Nat → Prop} : ∀ {acc : List V}, (∀ (i : Nat) y, acc[i]? = some y → ∃ j, y = .str (wd j) ∧ C j) → ∃ p : List Nat, acc = (p.map wd).map V.str ∧ ∀ j ∈ p, C j
  | [], _ => ⟨[], rfl, fun z hz => by cases hz⟩
  | y :: r, h => by
    obtain ⟨z, rfl, hz⟩ := h 0 y rfl
    obtain ⟨ns, rfl, hn⟩ := words_of (acc := r) fun i y e => h (i + 1) y e
    exact ⟨z :: ns, rfl, fun x hx => by rcases List.mem_cons.mp hx with rfl | hx; exact hz; exact hn x hx⟩
def spPath (K : PySem.W.Frag) : Sp := fun vs H Q _ => ∃ (a : Addr) (n : Nat), SrcAt H a n ∧ n ≤ 900000 ∧ vs = [.ref a] ∧ ∀ p H', POk p → Drew a (n + 10) H H' → Q (.str (nm wd p)) H'
theorem g_law_path (T : Txt P K mg) : Dg P w K mg base "_law_path" 2 (spPath K) := by
  refine T.h_law_path.mk sc_law_path (fun _ _ _ _ _ _ us hl => match us, hl with | [_], _ => rfl) (fun vs H Q E h => ?_) (fun f cdv A outer s H vs Q E hr h => ?_)
  · obtain ⟨a, n, _, _, rfl, _⟩ := h; rfl
  · obtain ⟨a, n, hs, hn, rfl, k⟩ := h
    refine ⟨_, pss_cons (ps_setLc (i := 1) (own := [("_law_turn", 2)]) (g := gName 2) (tt := tYes) rfl sc_law_path.nd rfl rfl (sw_true rfl rfl rfl rfl) (pi_range1 (by rfl) T.f_range (pa_cons (pe_add pe_int (pe_g (g_law_draw T) hr (pa_cons (pv 0) (pa_cons pe_int pa_nil)))) pa_nil)) (blkOk_by (N := N_law_path) (sc := defScope s_law_path) (by decide +kernel))
        (fun _ _ _ _ _ => pg_name (i := 2) sc_law_path.nd rfl (Or.inl rfl)) (fun _ _ _ _ _ => pts_nil)
        (fun _ _ _ _ _ => pe_ix (r := rIx K) ix_seq (pe_lst (pa_cons pe_str (pa_cons pe_str (pa_cons pe_str (pa_cons pe_str (pa_cons pe_str (pa_cons pe_str pa_nil))))))) (pe_g (g_law_draw T) hr (pa_cons (pv 0) (pa_cons pe_int pa_nil))) (fun _ _ => rfl)))
      (pss_cons (ps_if (pt_cmpR op_eq (pe_g (g_law_draw T) hr (pa_cons (pv 0) (pa_cons pe_int pa_nil))) pe_int rfl) (pss_one (papp (pv 1) (pe_op op_repS pe_str pe_int))) pss_nil)
        (pss_one (ps_ret (pe_join pe_str (pv 1))))), ?_⟩
    refine ⟨_, rfl, a, n, 3, hs, by omega, by decide, by decide, rfl, fun c H1 c0 c1 hs1 t1 => ?_⟩
    obtain ⟨c, rfl⟩ : ∃ j : Nat, c = (j : Int) := ⟨c.toNat, by omega⟩
    have D1 : Drew a (n + 1) H H1 := ⟨t1, hs1⟩
    refine ⟨_, _, rfl, rfl, _, rfl, by omega, by omega, ?_⟩
    have ec : ((1 : Int) + (c : Int)).toNat = 1 + c := by omega
    rw [ec]
    intro D hD
    have hDa := D1.src.ne hD
    refine lc_new (L2.walk_range (lo := 0) (n := 1 + c)) [a] (fun i H' => SrcAt H' a (n + 1 + i)) (fun i y G => ∃ j, y = V.str (wd j) ∧ j < 6) (fun _ _ _ _ _ h => h) (sizeB (by omega)) hD (by simpa using hDa) D1.src (fun i H' acc h => ?_) (fun _ _ _ _ => trivial) (fun i x H2 H' Pz hi s2 hI hac y hP => ?_) fun H2 acc s2 hI e2 e3 e4 => ?_
    · obtain ⟨g, m, t, h1, h2⟩ := h
      exact ⟨g, m, t, by rw [upd_ne hDa.symm]; exact h1, h2⟩
    · obtain ⟨rfl, rfl⟩ := y
      refine ⟨rfl, sizeB' (Nat.le_of_ble_eq_true rfl), fun p2 hp2 => ?_⟩
      have d1 : Drew a (n + 1 + i) H' (upd H' p2 (.lst [.str "a", .str "b", .str "c", .str "a.b", .str "..c", .str "d-1"])) := ⟨hid_new hp2, src_new hI hp2⟩
      have n2 := hI.ne hp2
      refine ⟨_, rfl, a, n + 1 + i, 6, d1.src, by omega, by decide, by decide, rfl, fun j H3 j0 j1 hs3 t3 => ?_⟩
      have D3 : Drew a (n + 1 + i + 1) H' H3 := d1.trans ⟨t3, hs3⟩
      have e3 : H3 p2 = some (.lst [.str "a", .str "b", .str "c", .str "a.b", .str "..c", .str "d-1"]) := (Drew.mk t3 hs3).at upd_same n2
      obtain ⟨y, hy, ey⟩ := pick (xs := [.str "a", .str "b", .str "c", .str "a.b", .str "..c", .str "d-1"]) j0 j1
      refine .inl ⟨p2, _, j, y, rfl, rfl, SqL.of e3, ey, hP y H3 D3.same (by rw [show n + 1 + (i + 1) = n + 1 + i + 1 by omega]; exact D3.src) ?_⟩
      simp only [List.mem_cons, List.not_mem_nil, or_false] at hy
      rcases hy with rfl | rfl | rfl | rfl | rfl | rfl
      · exact ⟨0, rfl, by decide⟩
      · exact ⟨1, rfl, by decide⟩
      · exact ⟨2, rfl, by decide⟩
      · exact ⟨3, rfl, by decide⟩
      · exact ⟨4, rfl, by decide⟩
      · exact ⟨5, rfl, by decide⟩
    · obtain ⟨p, rfl, hb⟩ := words_of e4
      rw [List.length_map, List.length_map] at e3
      have hc1 : c < 3 := by omega
      have D2 : Drew a (n + 1 + (1 + c)) H H2 := ⟨D1.same.trans s2, hI⟩
      have hpne : p ≠ [] := fun z => by rw [z] at e3; simp at e3; omega
      refine ⟨_, rfl, a, _, 12, D2.src, by omega, by decide, by decide, rfl, fun d H3 d0 d1 hs3 t3 => ⟨rfl, _, rfl, ?_⟩⟩
      have D3 : Drew a (n + 10) H H3 := (D2.trans ⟨t3, hs3⟩).le (by omega)
      have e5 : H3 D = some (.lst ((p.map wd).map V.str)) := (Drew.mk t3 hs3).at e2 hDa
      have fin : ∀ (q : Pth) (H4 : Hp), POk q → H4 D = some (.lst ((q.map wd).map V.str)) → Drew a (n + 10) H H4 → tRet (tM1 (fun x xs H Q => ∃ a p, ∃ ys : List Str, x = .str a ∧ xs = [.ref p] ∧ (SqL K H p (ys.map V.str) ∨ SqT K H p (ys.map V.str)) ∧ (ys.map (·.length)).sum + ys.length * a.length ≤ 16777216 ∧ Q (.str (Txt.join a ys)) H) (tC (.str "/")) (tVar 1)) { nx := fun _ H' => Q .non H', rt := Q } [some (.ref a), some (.ref D), none] H4 := by
        intro q H4 hq e6 D4
        refine ⟨⟨_, rfl⟩, _, rfl, _, D, q.map wd, rfl, rfl, .inl (SqL.of e6), wds_sum wd_nm hq, ?_⟩
        rw [TL.join_eq]
        exact k q H4 hq D4
      by_cases hd : V.int d = V.int 0
      · rw [decide_eq_true hd]
        refine iteT ⟨_, rfl, .inl ⟨rfl, _, SqL.of e5⟩, _, 101, rfl, rfl, by decide, by decide, rfl, D, _, _, rfl, rfl, e5, ?_, ?_⟩
        · rw [List.length_map, List.length_map, sizeLine_eq]; omega
        rw [show ((p.map wd).map V.str) ++ [V.str (repS (Str.ofString "q") 101)] = ((p ++ [6]).map wd).map V.str by rw [wd6]; simp]
        have D4 : Drew a (n + 10) H (L2.upd H3 D (.lst (((p ++ [6]).map wd).map V.str))) := D3.upd (none_of D1 hD) hDa
        exact fin (p ++ [6]) _ ⟨by simp, by rw [List.length_append]; show _ + 1 ≤ 4; omega, fun i hi => by
          rcases List.mem_append.mp hi with h | h
          · have := hb i h; omega
          · rw [List.mem_singleton.mp h]; decide, fun i hi => by rw [List.dropLast_concat] at hi; exact hb i hi⟩ upd_same D4
      · rw [decide_eq_false hd]
        exact iteF (fin p H3 ⟨hpne, by omega, fun i hi => by have := hb i hi; omega, fun i hi => hb i (mem_drop_last hi)⟩ e5 D3)
end K89
set_option Elab.async false
set_option linter.all false
set_option maxRecDepth 100000
set_option maxHeartbeats 4000000
/-! K89.R10: == and != of equal flat tuples and lists, of a list and the empty list. -/
namespace K89
open PySem PySem.Spec PyProof.Rows L2
section
variable {X : Cx}
theorem flat_items {A : Around} {s : Shared} : ∀ {xs : List V} {us ws : List Value}, Vals xs us → Vals xs ws → xs.all flatB = true → ∀ (j : Nat) (h1 : j < us.toArray.size) (h2 : j < ws.toArray.size), SeqAt.EqAt A s us.toArray[j] ws.toArray[j] ((fun _ => true) j)
  | _, _, _, .nil, .nil, _ => fun j h1 _ => absurd h1 (Nat.not_lt_zero j)
  | _, _, _, .cons r t, .cons r' t', f => fun j h1 h2 => by
    rw [List.all_cons, Bool.and_eq_true] at f
    cases j with
    | zero => simpa using eqAt_same r r' f.1
    | succ j =>
      have := flat_items (A := A) (s := s) t t' f.2 j (by simpa using h1) (by simpa using h2)
      simpa using this
theorem rng_all (n : Nat) : ((List.range n).all fun _ => true) = true := List.all_eq_true.mpr fun _ _ => rfl
/-- t != u, two tuples of the same flat items -/
def rNeT (K : PySem.W.Frag) : R2 := fun x y H Q => ∃ a b xs, x = .ref a ∧ y = .ref b ∧ SqT K H a xs ∧ SqT K H b xs ∧ xs.all flatB = true ∧ Q (.bl false) H
theorem op_neT (hu : X.A.units < cLine) : OpR X (compareOp .NotEq) (rNeT X.K) := by
  intro pins s σ H x y v u Q I rx ry h
  obtain ⟨a, b, xs, rfl, rfl, ha, hb, hf, q⟩ := h
  cases (show v = Value.ref a from rx)
  cases (show u = Value.ref b from ry)
  obtain ⟨us, r1, p1, _⟩ := I.tuple ha
  obtain ⟨ws, r2, p2, _⟩ := I.tuple hb
  have hsz : us.toArray.size = ws.toArray.size := by rw [List.size_toArray, List.size_toArray, ← r1.length, ← r2.length]
  refine SeqAt.RcNeAt.tuples (e := fun _ => true) (show s.heap.IsTuple a us.toArray from p1) p2 hu (flat_items r1 r2 hf) X.prog X.w _ _ ?_
  rw [hsz, Nat.min_self, rng_all]
  simp only [beq_self_eq_true, Bool.and_true, Bool.not_true]
  exact ⟨.bl false, H, I, rfl, q⟩
/-- l != k, two lists of the same flat items -/
def rNeL (K : PySem.W.Frag) : R2 := fun x y H Q => ∃ a b xs, x = .ref a ∧ y = .ref b ∧ SqL K H a xs ∧ SqL K H b xs ∧ xs.all flatB = true ∧ Q (.bl false) H
theorem op_neL (hu : X.A.units < cLine) : OpR X (compareOp .NotEq) (rNeL X.K) := by
  intro pins s σ H x y v u Q I rx ry h
  obtain ⟨a, b, xs, rfl, rfl, ha, hb, hf, q⟩ := h
  cases (show v = Value.ref a from rx)
  cases (show u = Value.ref b from ry)
  obtain ⟨us, r1, p1, _⟩ := I.list ha
  obtain ⟨ws, r2, p2, _⟩ := I.list hb
  have hsz : us.toArray.size = ws.toArray.size := by rw [List.size_toArray, List.size_toArray, ← r1.length, ← r2.length]
  refine SeqAt.RcNeAt.lists (e := fun _ => true) p1.isList p2.isList hsz hu (flat_items r1 r2 hf) X.prog X.w _ _ ?_
  rw [rng_all]
  exact ⟨.bl false, H, I, rfl, q⟩
/-- l != [] -/
def rNeN (K : PySem.W.Frag) : R2 := fun x y H Q => ∃ a b xs, x = .ref a ∧ y = .ref b ∧ SqL K H a xs ∧ SqL K H b [] ∧ Q (.bl (!xs.isEmpty)) H
theorem op_neN (hu : X.A.units < cLine) : OpR X (compareOp .NotEq) (rNeN X.K) := by
  intro pins s σ H x y v u Q I rx ry h
  obtain ⟨a, b, xs, rfl, rfl, ha, hb, q⟩ := h
  cases (show v = Value.ref a from rx)
  cases (show u = Value.ref b from ry)
  obtain ⟨us, r1, p1, _⟩ := I.list ha
  obtain ⟨ws, r2, p2, _⟩ := I.list hb
  cases r2
  cases r1 with
  | nil =>
    refine SeqAt.RcNeAt.lists (e := fun _ => true) p1.isList p2.isList rfl hu (fun j h1 _ => absurd h1 (Nat.not_lt_zero j)) X.prog X.w _ _ ?_
    exact ⟨.bl false, H, I, rfl, q⟩
  | cons r t =>
    exact SeqAt.RcNeAt.lists_lengths p1.isList p2.isList (by simp) hu X.prog X.w _ _ ⟨.bl true, H, I, rfl, q⟩
/-- l == [] -/
def rEqN (K : PySem.W.Frag) : R2 := fun x y H Q => ∃ a b xs, x = .ref a ∧ y = .ref b ∧ SqL K H a xs ∧ SqL K H b [] ∧ Q (.bl xs.isEmpty) H
theorem op_eqN (hu : X.A.units < cLine) : OpR X (compareOp .Eq) (rEqN X.K) := by
  intro pins s σ H x y v u Q I rx ry h
  obtain ⟨a, b, xs, rfl, rfl, ha, hb, q⟩ := h
  cases (show v = Value.ref a from rx)
  cases (show u = Value.ref b from ry)
  obtain ⟨us, r1, p1, _⟩ := I.list ha
  obtain ⟨ws, r2, p2, _⟩ := I.list hb
  cases r2
  cases r1 with
  | nil =>
    refine SeqAt.RcAt.lists (e := fun _ => true) p1.isList p2.isList rfl hu (fun j h1 _ => absurd h1 (Nat.not_lt_zero j)) X.prog X.w _ _ ?_
    exact ⟨.bl true, H, I, rfl, q⟩
  | cons r t =>
    exact SeqAt.RcAt.lists_lengths p1.isList p2.isList (by simp) hu X.prog X.w _ _ ⟨.bl false, H, I, rfl, q⟩
end
end K89
set_option Elab.async false
set_option linter.all false
set_option maxRecDepth 100000
set_option maxHeartbeats 4000000
/-! K89.Q4: pieces. -/
namespace K89
open PySem PySem.Spec PyProof.Rows L2
variable {P : Program} {w : World} {K : PySem.W.Frag} {mg : Str → Option Value} {base : Heap}
/-- a piece as the law writes it -/
def PcL (K : PySem.W.Frag) (H : Hp) : V → Nat × List Int → Prop := fun v e => ∃ r dl, v = .ref r ∧ SqT K H r [.int (e.1 : Int), .ref dl] ∧ H dl = some (.lst (e.2.map V.int))
theorem PcL.mono {H H' : Hp} {v : V} {e : Nat × List Int} (h : PcL K H v e) (s : Same H H') : PcL K H' v e := by
  obtain ⟨r, dl, h1, h2, h3⟩ := h
  exact ⟨r, dl, h1, s.tup h2, s _ _ h3⟩
/-- the payload of a sparse member as the law writes it -/
def SpL (K : PySem.W.Frag) (H : Hp) (q : Addr) (sz : Nat) (ps : List (Nat × List Int)) : Prop := ∃ pl prs, SqT K H q [.int (sz : Int), .ref pl] ∧ SqL K H pl prs ∧ Paired (PcL K H) prs ps
theorem SpL.mono {H H' : Hp} {q : Addr} {sz : Nat} {ps : List (Nat × List Int)} (h : SpL K H q sz ps) (s : Same H H') : SpL K H' q sz ps := by
  obtain ⟨pl, prs, h1, h2, h3⟩ := h
  exact ⟨pl, prs, s.tup h1, s.seq h2, Paired.mapP h3 fun v e z => z.mono s⟩
/-- what is new in H' since H -/
def fr (H H' : Hp) : Hp := fun b => if (H b).isSome then none else H' b
theorem fr_at {H H' : Hp} {b : Addr} {o : HO} (h : H b = none) (h' : H' b = some o) : fr H H' b = some o := by unfold fr; rw [h]; exact h'
theorem fr_some {H H' : Hp} {b : Addr} {o : HO} (h : fr H H' b = some o) : H b = none ∧ H' b = some o := by
  unfold fr at h
  cases e : H b with
  | none => rw [e] at h; exact ⟨rfl, h⟩
  | some u => rw [e] at h; cases h
theorem fr_step {H H1 H2 : Hp} {a : Addr} (ha : ∃ o, H a = some o ∧ plainO o = true) (t : Same (hid H1 [a]) (hid H2 [a])) : Same (fr H H1) (fr H H2) := fun b o h => by
  obtain ⟨h1, h2⟩ := fr_some h
  obtain ⟨u, e, _⟩ := ha
  have nb : b ≠ a := fun z => by rw [z, e] at h1; cases h1
  exact fr_at h1 (hid_some (t _ _ (hid_at h2 (by simpa using nb)))).1
theorem fr_sub {H H' : Hp} {l : List Addr} (h : ∀ b ∈ l, ∃ o, H b = some o) : Same (fr H H') (hid H' l) := fun b o hb => by
  obtain ⟨h1, h2⟩ := fr_some hb
  exact hid_at h2 fun z => by obtain ⟨u, e⟩ := h b z; rw [h1] at e; cases e
theorem fr_sub0 {H H' : Hp} : Same (fr H H') H' := fun b o hb => (fr_some hb).2
theorem fr_old {H0 H H' : Hp} (s : ∀ b, H0 b = none ∨ (H b).isSome) : Same (fr H H') (fr H0 H') := fun b o hb => by
  obtain ⟨h1, h2⟩ := fr_some hb
  rcases s b with z | z
  · exact fr_at z h2
  · rw [h1] at z; cases z
theorem frn {a : Addr} {k : Nat} {H H1 : Hp} {p : Addr} {o : HO} (D : Drew a k H H1) (hp : H1 p = none) : fr H (L2.upd H1 p o) p = some o := fr_at (none_of D hp) upd_same
/-- what is new since H1, reached from H by drawing, is new since H -/
theorem Drew.fr {a : Addr} {k : Nat} {H H1 H2 : Hp} (D : Drew a k H H1) (ha : ∃ o, H a = some o ∧ plainO o = true) : Same (K89.fr H1 H2) (K89.fr H H2) := fr_old fun b => by
  cases e : H b with
  | none => exact .inl rfl
  | some o =>
    by_cases z : b = a
    · obtain ⟨u, hu, _⟩ := D.src.dom
      rw [z, hu]; exact .inr rfl
    · rw [D.at e z]; exact .inr rfl
def spPieces (K : PySem.W.Frag) : Sp := fun vs H Q _ => ∃ (a : Addr) (n : Nat), SrcAt H a n ∧ n ≤ 900000 ∧ vs = [.ref a] ∧ ∀ q sz ps H', sz ≤ 4096 → ps.length ≤ 2 → PiecesOk 0 sz ps → H q = none → SpL K (fr H H') q sz ps → Drew a (n + 10) H H' → Q (.ref q) H'
theorem flat_rep (k : Nat) (v : V) : (List.replicate k [v]).flatten = List.replicate k v := by
  induction k with
  | zero => rfl
  | succ k ih => rw [List.replicate_succ, List.flatten_cons, ih]; rfl
theorem last_split {α : Type} : ∀ {l : List α}, l ≠ [] → ∃ ini x, l = ini ++ [x]
  | [], h => absurd rfl h
  | [x], _ => ⟨[], x, rfl⟩
  | x :: y :: r, _ => by
    obtain ⟨ini, z, e⟩ := last_split (l := y :: r) (by simp)
    exact ⟨x :: ini, z, by rw [e]; rfl⟩
theorem fresh_at {H : Hp} {p : Addr} {o : HO} {a : Addr} (h : p ≠ a) : hid (upd H p o) [a] p = some o := hid_at upd_same (by simpa using h)
theorem g_law_pieces (T : Txt P K mg) : Dg P w K mg base "_law_pieces" 2 (spPieces K) := by
  refine T.h_law_pieces.mk sc_law_pieces (fun _ _ _ _ _ _ us hl => match us, hl with | [_], _ => rfl) (fun vs H Q E h => ?_) (fun f cdv A outer s H vs Q E hr h => ?_)
  · obtain ⟨a, n, _, _, rfl, _⟩ := h; rfl
  · obtain ⟨a, n, hs, hn, rfl, k⟩ := h
    have hdom := hs.dom
    refine ⟨_, pss_cons (ps_par (i := 1) (j := 2) rfl sc_law_pieces.nd rfl rfl (by decide) rfl rfl (pa_cons (pe_g (g_law_draw T) hr (pa_cons (pv 0) (pa_cons pe_int pa_nil))) (pa_cons (pe_add pe_int (pe_g (g_law_draw T) hr (pa_cons (pv 0) (pa_cons pe_int pa_nil)))) pa_nil)) rfl)
      (pss_cons (pset 3 sc_law_pieces.nd (pe_slice sl_list (pe_lst (pa_cons (pe_tup (pa_cons (pv 1) (pa_cons (pe_op op_rep (pe_lst (pa_cons pe_int pa_nil)) (pv 2)) pa_nil)))
          (pa_cons (pe_tup (pa_cons (pe_add (pe_add (pe_add (pv 1) (pv 2)) pe_int) (pe_g (g_law_draw T) hr (pa_cons (pv 0) (pa_cons pe_int pa_nil)))) (pa_cons (pe_lst (pa_cons pe_int (pa_cons pe_int pa_nil))) pa_nil))) pa_nil))) po_none (po_some (pe_g (g_law_draw T) hr (pa_cons (pv 0) (pa_cons pe_int pa_nil))))))
        (C8.pss_cut (pset 4 sc_law_pieces.nd (pe_ifExp (pt_cmpR (op_neN hr.units0) (pv 3) (pe_lst pa_nil) rfl)
            (pe_add (pe_ix ix_seq (pe_ix ix_seq (pv 3) (pe_un un_neg pe_int) (fun _ _ => rfl)) pe_int (fun _ _ => rfl)) (pe_callB call_len_seq (by rfl) T.f_len PySem.boot_len (pa_cons (pe_ix ix_seq (pe_ix ix_seq (pv 3) (pe_un un_neg pe_int) (fun _ _ => rfl)) pe_int (fun _ _ => rfl)) pa_nil))) pe_int))
          (pss_one (ps_ret (pe_tup (pa_cons (pe_add (pv 4) (pe_ix ix_seq (pe_lst (pa_cons pe_int (pa_cons pe_int (pa_cons pe_int pa_nil)))) (pe_g (g_law_draw T) hr (pa_cons (pv 0) (pa_cons pe_int pa_nil))) (fun _ _ => rfl))) (pa_cons (pv 3) pa_nil))))))), ?_⟩
    refine ⟨_, rfl, a, n, 4, hs, by omega, by decide, by decide, rfl, fun one H1 a0 a1 hs1 t1 => ?_⟩
    refine ⟨_, rfl, a, n + 1, 3, hs1, by omega, by decide, by decide, rfl, fun two H2 b0 b1 hs2 t2 => ⟨_, _, rfl, rfl, _, _, rfl, ?_⟩⟩
    have D2 : Drew a (n + 1 + 1) H H2 := (Drew.mk t1 hs1).trans ⟨t2, hs2⟩
    obtain ⟨one, rfl⟩ : ∃ j : Nat, one = (j : Int) := ⟨one.toNat, by omega⟩
    obtain ⟨two, rfl⟩ : ∃ j : Nat, two = (j : Int) := ⟨two.toNat, by omega⟩
    -- the two pieces
    refine ⟨_, rfl, sizeB' (Nat.le_of_ble_eq_true rfl), fun q1 hq1 => ⟨_, rfl, q1, _, _, rfl, rfl, upd_same, by omega, by omega, ?_, fun p1 hp1 => ?_⟩⟩
    · show 1 * _ ≤ _
      rw [sizeLine_eq]; omega
    have e1 : (List.replicate ((1 : Int) + (two : Int)).toNat [V.int 7]).flatten = (List.replicate (1 + two) (7 : Int)).map V.int := by
      rw [flat_rep, List.map_replicate]
      have : ((1 : Int) + (two : Int)).toNat = 1 + two := by omega
      rw [this]
    rw [e1]
    have D3 := (D2.new (o := .lst [.int 7]) hq1).new (o := .lst ((List.replicate (1 + two) (7 : Int)).map V.int)) hp1
    have np1 := (D2.new (o := .lst [.int 7]) hq1).src.ne hp1
    have f1 := frn (o := .lst ((List.replicate (1 + two) (7 : Int)).map V.int)) (D2.new (o := .lst [.int 7]) hq1) hp1

    generalize L2.upd (L2.upd H2 q1 (.lst [.int 7])) p1 (.lst ((List.replicate (1 + two) (7 : Int)).map V.int)) = H3 at D3 f1
    refine ⟨sizeB' (Nat.le_of_ble_eq_true rfl), fun r1 hr1 => ?_⟩
    have nr1 := D3.src.ne hr1
    have D4 := D3.new (o := .tup [.int (one : Int), .ref p1]) hr1
    have f2 := frn (o := .tup [.int (one : Int), .ref p1]) D3 hr1
    have f1 := fr_step hdom (hid_new (l := [a]) (o := .tup [.int (one : Int), .ref p1]) hr1) _ _ f1
    generalize L2.upd H3 r1 (.tup [.int (one : Int), .ref p1]) = H4 at D4 f1 f2
    refine ⟨_, rfl, _, rfl, _, _, rfl, rfl, _, _, rfl, rfl, _, rfl, a, n + 1 + 1, 600, D4.src, by omega, by decide, by decide, rfl, fun x H5 x0 x1 hs5 t5 => ⟨_, _, rfl, rfl, sizeB' (Nat.le_of_ble_eq_true rfl), fun p2 hp2 => ?_⟩⟩
    obtain ⟨x, rfl⟩ : ∃ j : Nat, x = (j : Int) := ⟨x.toNat, by omega⟩
    have D5 := D4.trans (Drew.mk t5 hs5)
    have f1 := fr_step hdom t5 _ _ f1
    have f2 := fr_step hdom t5 _ _ f2
    have np2 := D5.src.ne hp2
    have D6 := D5.new (o := .lst [.int 9, .int 0]) hp2
    have f3 := frn (o := .lst [.int 9, .int 0]) D5 hp2
    have f1 := fr_step hdom (hid_new (l := [a]) (o := .lst [.int 9, .int 0]) hp2) _ _ f1
    have f2 := fr_step hdom (hid_new (l := [a]) (o := .lst [.int 9, .int 0]) hp2) _ _ f2
    generalize L2.upd H5 p2 (.lst [.int 9, .int 0]) = H6 at D6 f1 f2 f3
    refine ⟨sizeB' (Nat.le_of_ble_eq_true rfl), fun r2 hr2 => ?_⟩
    have eo : ((one : Int) + (1 + (two : Int)) + 1 + (x : Int)) = ((one + (1 + two) + 1 + x : Nat) : Int) := by omega
    rw [eo]
    have nr2 := D6.src.ne hr2
    have D7 := D6.new (o := .tup [.int ((one + (1 + two) + 1 + x : Nat) : Int), .ref p2]) hr2
    have f4 := frn (o := .tup [.int ((one + (1 + two) + 1 + x : Nat) : Int), .ref p2]) D6 hr2
    have f1 := fr_step hdom (hid_new (l := [a]) (o := .tup [.int ((one + (1 + two) + 1 + x : Nat) : Int), .ref p2]) hr2) _ _ f1
    have f2 := fr_step hdom (hid_new (l := [a]) (o := .tup [.int ((one + (1 + two) + 1 + x : Nat) : Int), .ref p2]) hr2) _ _ f2
    have f3 := fr_step hdom (hid_new (l := [a]) (o := .tup [.int ((one + (1 + two) + 1 + x : Nat) : Int), .ref p2]) hr2) _ _ f3
    generalize L2.upd H6 r2 (.tup [.int ((one + (1 + two) + 1 + x : Nat) : Int), .ref p2]) = H7 at D7 f1 f2 f3 f4
    refine ⟨sizeB' (Nat.le_of_ble_eq_true rfl), fun l1 hl1 => ?_⟩
    have nl1 := D7.src.ne hl1
    have D8 := D7.new (o := .lst [.ref r1, .ref r2]) hl1
    have s8 := hid_new (l := [a]) (o := .lst [.ref r1, .ref r2]) hl1
    have f5 := frn (o := .lst [.ref r1, .ref r2]) D7 hl1
    generalize L2.upd H7 l1 (.lst [.ref r1, .ref r2]) = H8 at D8 s8 f5
    refine ⟨_, rfl, a, n + 1 + 1 + 1, 3, D8.src, by omega, by decide, by decide, rfl, fun d H9 d0 d1 hs9 t9 => ⟨_, rfl, l1, [.ref r1, .ref r2], rfl, SqL.of (fr_some (fr_step hdom t9 _ _ f5)).2, fun l hl => ?_⟩⟩
    obtain ⟨d, rfl⟩ : ∃ j : Nat, d = (j : Int) := ⟨d.toNat, by omega⟩
    rw [cut_take (by show d ≤ 2; omega)]
    have D9 := D8.trans (Drew.mk t9 hs9)
    have nl := D9.src.ne hl
    have hl0 : H l = none := none_of D9 hl
    have D10 := D9.new (o := .lst (([.ref r1, .ref r2] : List V).take d)) hl
    have s10 := (s8.trans t9).trans (hid_new (l := [a]) (o := .lst (([.ref r1, .ref r2] : List V).take d)) hl)
    have f6 := frn (o := .lst (([.ref r1, .ref r2] : List V).take d)) D9 hl
    generalize L2.upd H9 l (.lst (([.ref r1, .ref r2] : List V).take d)) = H10 at D10 s10 f6
    have g1 : PcL K (fr H H10) (.ref r1) (one, List.replicate (1 + two) 7) := ⟨r1, p1, rfl, SqT.of (fr_step hdom s10 _ _ f2), fr_step hdom s10 _ _ f1⟩
    have g2 : PcL K (fr H H10) (.ref r2) (one + (1 + two) + 1 + x, [9, 0]) := ⟨r2, p2, rfl, SqT.of (fr_step hdom s10 _ _ f4), fr_step hdom s10 _ _ f3⟩
    -- the end, and all pieces
    obtain ⟨ps, hps, hpl, hok⟩ : ∃ ps : List (Nat × List Int), Paired (PcL K (fr H H10)) (([.ref r1, .ref r2] : List V).take d) ps ∧ ps.length ≤ 2 ∧
        ∀ e sz : Nat, (ps = [] → e = 0) → (∀ o dd, ps.getLast? = some (o, dd) → e = o + dd.length) → e ≤ sz → PiecesOk 0 sz ps ∧ (∀ o dd, ps.getLast? = some (o, dd) → o + dd.length ≤ 800) := by
      have h7 : ∀ b ∈ List.replicate (1 + two) (7 : Int), 0 ≤ b ∧ b ≤ 255 := fun b hb => by rw [List.eq_of_mem_replicate hb]; omega
      have h9 : ∀ b ∈ ([9, 0] : List Int), 0 ≤ b ∧ b ≤ 255 := fun b hb => by
        simp only [List.mem_cons, List.not_mem_nil, or_false] at hb
        rcases hb with rfl | rfl <;> omega
      have hd : d = 0 ∨ d = 1 ∨ d = 2 := by omega
      rcases hd with rfl | rfl | rfl
      · exact ⟨[], .nil, by simp, fun e sz h1 h2 h3 => ⟨.nil (by omega), fun o dd h => by simp at h⟩⟩
      · refine ⟨[(one, List.replicate (1 + two) 7)], .cons g1 .nil, by simp, fun e sz h1 h2 h3 => ?_⟩
        have he := h2 one (List.replicate (1 + two) 7) rfl
        rw [List.length_replicate] at he
        refine ⟨.cons (Nat.zero_le _) (by rw [List.length_replicate]; omega) h7 (.nil (by rw [List.length_replicate]; omega)), fun o dd h => ?_⟩
        cases h
        rw [List.length_replicate]; omega
      · refine ⟨[(one, List.replicate (1 + two) 7), (one + (1 + two) + 1 + x, [9, 0])], .cons g1 (.cons g2 .nil), by simp, fun e sz h1 h2 h3 => ?_⟩
        have he := h2 (one + (1 + two) + 1 + x) [9, 0] rfl
        have l2 : ([9, 0] : List Int).length = 2 := rfl
        rw [l2] at he
        refine ⟨.cons (Nat.zero_le _) (by rw [List.length_replicate]; omega) h7 (.cons (by rw [List.length_replicate]; omega) (by decide) h9 (.nil (by rw [l2]; omega))), fun o dd h => ?_⟩
        cases h
        rw [l2]; omega
    have hlen := Paired.length hps
    refine ⟨fun σ H' => ∃ e : Nat, σ = [some (.ref a), some (.int (one : Int)), some (.int (1 + (two : Int))), some (.ref l), some (.int (e : Int))] ∧ Drew a (n + 1 + 1 + 1 + 1) H H' ∧ Same (hid H10 [a]) (hid H' [a]) ∧ (ps = [] → e = 0) ∧ (∀ o dd, ps.getLast? = some (o, dd) → e = o + dd.length), ?_, ?_⟩
    · refine ⟨_, rfl, sizeB' (Nat.le_of_ble_eq_true rfl), fun p hp => ⟨l, p, _, rfl, rfl, SqL.of (same_new hp _ _ (fr_some f6).2), SqL.of upd_same, _, rfl, ?_⟩⟩
      have Dp := D10.new (o := .lst []) hp
      have sp := hid_new (l := [a]) (o := .lst []) hp
      have fp : L2.upd H10 p (.lst []) l = some (.lst (([.ref r1, .ref r2] : List V).take d)) := (fr_some (fr_step hdom sp _ _ f6)).2
      generalize L2.upd H10 p (.lst []) = H11 at Dp sp fp
      cases hc : (([.ref r1, .ref r2] : List V).take d) with
      | nil =>
        rw [hc] at hps
        cases hps
        exact iteF ⟨0, rfl, Dp, sp, fun _ => rfl, fun o dd h => by simp at h⟩
      | cons v vs =>
        have hne : ps ≠ [] := fun z => by rw [z, hc] at hlen; simp at hlen
        obtain ⟨ini, lst, hini⟩ : ∃ ini lst, ps = ini ++ [lst] := last_split hne
        obtain ⟨ini', lv, hini'⟩ : ∃ ini' lv, v :: vs = ini' ++ [lv] := last_split (by simp)
        obtain ⟨o, dd⟩ := lst
        have hlast : PcL K (fr H H10) lv (o, dd) := by
          rw [hc, hini, hini'] at hps
          have e1 : ini'.length = ini.length := by
            have := Paired.length hps
            simp at this
            exact this
          have hg : (ini' ++ [lv])[ini'.length]? = some lv := by simp
          obtain ⟨e, he, hr⟩ := L2.paired_get hps hg
          rw [e1] at he
          simp at he
          rw [he]
          exact hr
        obtain ⟨r, dl, rfl, m1, m2⟩ := hlast.mono ((fr_step hdom sp).trans fr_sub0)
        have at1 : atI (v :: vs) (-1) = some (.ref r) := by rw [hini']; exact atI_last _ _
        refine iteT ⟨_, rfl, _, rfl, .inl ⟨l, _, _, _, rfl, rfl, SqL.of (by rw [fp, hc]), at1, .inr (.inl ⟨r, _, _, _, rfl, rfl, m1, rfl, ?_⟩)⟩⟩
        refine ⟨_, rfl, _, rfl, .inl ⟨l, _, _, _, rfl, rfl, SqL.of (by rw [fp, hc]), at1, .inr (.inl ⟨r, _, _, _, rfl, rfl, m1, rfl, dl, _, rfl, .inl (SqL.of m2), _, _, rfl, rfl, ?_⟩)⟩⟩
        refine ⟨o + dd.length, ?_, Dp, sp, fun z => absurd z hne, fun o' dd' h => ?_⟩
        · have : (o : Int) + ((dd.map V.int).length : Int) = ((o + dd.length : Nat) : Int) := by rw [List.length_map]; omega
          show _ = [_, _, _, _, some (V.int ((o + dd.length : Nat) : Int))]
          rw [← this]
          rfl
        · rw [hini] at h
          simp at h
          rw [← h.1, ← h.2]
    · rintro σ H11 ⟨e, rfl, D11, s11, he0, he1⟩
      refine ⟨_, rfl, sizeB' (Nat.le_of_ble_eq_true rfl), fun p hp => ?_⟩
      have Dp := D11.new (o := .lst [.int 0, .int 1, .int 30]) hp
      have sp := s11.trans (hid_new (l := [a]) (o := .lst [.int 0, .int 1, .int 30]) hp)
      have fp := fresh_at (H := H11) (o := .lst [.int 0, .int 1, .int 30]) (D11.src.ne hp)
      generalize L2.upd H11 p (.lst [.int 0, .int 1, .int 30]) = H12 at Dp sp fp
      refine ⟨_, rfl, a, n + 1 + 1 + 1 + 1, 3, Dp.src, by omega, by decide, by decide, rfl, fun y H13 y0 y1 hs13 t13 => ?_⟩
      obtain ⟨z, hz, ez⟩ := pick (xs := [.int 0, .int 1, .int 30]) y0 y1
      obtain ⟨z, rfl, z1⟩ : ∃ c : Nat, z = .int (c : Int) ∧ c ≤ 30 := by
        simp only [List.mem_cons, List.not_mem_nil, or_false] at hz
        rcases hz with rfl | rfl | rfl
        · exact ⟨0, rfl, by decide⟩
        · exact ⟨1, rfl, by decide⟩
        · exact ⟨30, rfl, by decide⟩
      refine .inl ⟨p, _, y, _, rfl, rfl, SqL.of (hid_some (t13 _ _ fp)).1, ez, _, _, rfl, rfl, _, rfl, sizeB' (Nat.le_of_ble_eq_true rfl), fun q hq => ?_⟩
      have D13 := (Dp.trans (Drew.mk t13 hs13))
      have s13 := sp.trans t13
      have ee : (e : Int) + (z : Int) = ((e + z : Nat) : Int) := by omega
      rw [ee]
      obtain ⟨ok1, ok2⟩ := hok e (e + z) he0 he1 (by omega)
      have hsz : e ≤ 800 := by
        cases hp0 : ps.getLast? with
        | none =>
          have : ps = [] := by simpa using hp0
          rw [he0 this]; omega
        | some lst =>
          obtain ⟨o, dd⟩ := lst
          rw [he1 o dd hp0]
          exact ok2 o dd hp0
      have sq := s13.trans (hid_new (l := [a]) (o := .tup [.int ((e + z : Nat) : Int), .ref l]) hq)
      refine k q (e + z) ps _ (by omega) hpl ok1 (none_of D13 hq) ⟨l, _, SqT.of (frn D13 hq), SqL.of (fr_step hdom sq _ _ f6), Paired.mapP hps fun v e h => h.mono (fr_step hdom sq)⟩ ((D13.new hq).le (by omega))
end K89
set_option Elab.async false
set_option linter.all false
set_option maxRecDepth 100000
set_option maxHeartbeats 4000000
/-! K89.Q5: a spec. -/
namespace K89
open PySem PySem.Spec PyProof.Rows L2
variable {P : Program} {w : World} {K : PySem.W.Frag} {mg : Str → Option Value} {base : Heap}
/-- what stands at the tuple of a spec -/
def SpecT (K : PySem.W.Frag) (ν : Nat → Str) (H : Hp) (q : Addr) (sp : Spec) : Prop := match sp.pay with
  | .file ns => ∃ l, SqT K H q [.str "file", .str (nm ν sp.name), .int sp.m, .int sp.t, .ref l] ∧ SqL K H l (ns.map V.int)
  | .dir => SqT K H q [.str "directory", .str (nm ν sp.name), .int sp.m, .int sp.t]
  | .sym tg => SqT K H q [.str "symlink", .str (nm ν sp.name), .int sp.m, .int sp.t, .str tg]
  | .link tp => SqT K H q [.str "link", .str (nm ν sp.name), .int sp.m, .int sp.t, .str (nm ν tp)]
  | .sparse sz ps => ∃ l, SqT K H q [.str "sparse", .str (nm ν sp.name), .int sp.m, .int sp.t, .ref l] ∧ SpL K H l sz ps
def SpecAt (K : PySem.W.Frag) (ν : Nat → Str) (H : Hp) (v : V) (sp : Spec) : Prop := ∃ q, v = .ref q ∧ SpecT K ν H q sp
theorem SpecT.mono {ν : Nat → Str} {H H' : Hp} {q : Addr} {sp : Spec} (h : SpecT K ν H q sp) (s : Same H H') : SpecT K ν H' q sp := by
  obtain ⟨n, m, t, pay⟩ := sp
  cases pay with
  | file ns => obtain ⟨l, h1, h2⟩ := h; exact ⟨l, s.tup h1, s.seq h2⟩
  | dir => exact s.tup h
  | sym tg => exact s.tup h
  | link tp => exact s.tup h
  | sparse sz ps => obtain ⟨l, h1, h2⟩ := h; exact ⟨l, s.tup h1, h2.mono s⟩
theorem SpecAt.mono {ν : Nat → Str} {H H' : Hp} {v : V} {sp : Spec} (h : SpecAt K ν H v sp) (s : Same H H') : SpecAt K ν H' v sp := by
  obtain ⟨q, h1, h2⟩ := h
  exact ⟨q, h1, h2.mono s⟩
def spSpec (K : PySem.W.Frag) : Sp := fun vs H Q _ => ∃ (a : Addr) (n : Nat) (p : Pth) (nl : Addr) (nps : List Pth), SrcAt H a n ∧ n ≤ 800000 ∧ POk p ∧ H nl = some (.lst (nps.map fun p => V.str (nm wd p))) ∧ nps ≠ [] ∧ nps.length ≤ 100 ∧ (∀ q ∈ nps, POk q) ∧
  vs = [.ref a, .str (nm wd p), .ref nl] ∧ ∀ v sp H', SpOk sp → SpecAt K wd (fr H H') v sp → Drew a (n + 800) H H' → Q v H'
theorem x120 : NameOk (repS (Str.ofString "x") 120) := by
  refine ⟨by decide +kernel, by decide +kernel, ?_⟩
  have h : (cds (repS (Str.ofString "x") 120)).all (fun c => decide (c ∈ letters)) = true := by decide +kernel
  exact fun c hc => of_decide_eq_true (List.all_eq_true.mp h c hc)
theorem nameB {z : Str} (h : (decide (1 ≤ z.length) && (decide (z.length ≤ 250) && (cds z).all fun c => decide (c ∈ letters))) = true) : NameOk z := by
  simp only [Bool.and_eq_true, decide_eq_true_eq] at h
  exact ⟨h.1, h.2.1, fun c hc => of_decide_eq_true (List.all_eq_true.mp h.2.2 c hc)⟩
def kinds : List V := [.str "file", .str "file", .str "directory", .str "symlink", .str "link", .str "link", .str "sparse"]
theorem g_law_spec (T : Txt P K mg) : Dg P w K mg base "_law_spec" 3 (spSpec K) := by
  refine T.h_law_spec.mk sc_law_spec (fun _ _ _ _ _ _ us hl => match us, hl with | [_, _, _], _ => rfl) (fun vs H Q E h => ?_) (fun f cdv A outer s H vs Q E hr h => ?_)
  · obtain ⟨a, n, p, nl, nps, _, _, _, _, _, _, _, rfl, _⟩ := h; rfl
  · obtain ⟨a, n, p, nl, nps, hs, hn, hp, hnl, hne, hnz, hnp, rfl, k⟩ := h
    have hdom := hs.dom
    have nna : nl ≠ a := by obtain ⟨g, m, t, h1, _⟩ := hs; intro z; rw [z, h1] at hnl; cases hcc : nps with
      | nil => exact hne hcc
      | cons x r => rw [hcc] at hnl; exact absurd (HO.lst.inj (Option.some.inj hnl)) (fun z => by simp at z)
    refine ⟨_, pss_cons (ps_asg (pe_g (g_law_stamps T) hr (pa_cons (pv 0) pa_nil)) (pg_tup rfl (pgs_cons (pg_name (i := 3) sc_law_spec.nd rfl (Or.inl rfl)) (pgs_cons (pg_name (i := 4) sc_law_spec.nd rfl (Or.inl rfl)) pgs_nil))))
      (C8.pss_cut (pset 5 sc_law_spec.nd (pe_ix ix_seq (pe_lst (pa_cons pe_str (pa_cons pe_str (pa_cons pe_str (pa_cons pe_str (pa_cons pe_str (pa_cons pe_str (pa_cons pe_str pa_nil)))))))) (pe_g (g_law_draw T) hr (pa_cons (pv 0) (pa_cons pe_int pa_nil))) (fun _ _ => rfl)))
        (pss_cons (ps_if (pt_cmpR op_eq (pv 5) pe_str rfl) (pss_one (ps_ret (pe_tup (pa_cons (pv 5) (pa_cons (pv 1) (pa_cons (pv 3) (pa_cons (pv 4) (pa_cons (pe_g (g_law_numbers T) hr (pa_cons (pv 0) pa_nil)) pa_nil)))))))) pss_nil)
          (pss_cons (ps_if (pt_cmpR op_eq (pv 5) pe_str rfl) (pss_one (ps_ret (pe_tup (pa_cons (pv 5) (pa_cons (pv 1) (pa_cons (pv 3) (pa_cons (pv 4) pa_nil))))))) pss_nil)
            (pss_cons (ps_if (pt_cmpR op_eq (pv 5) pe_str rfl) (pss_one (ps_ret (pe_tup (pa_cons (pv 5) (pa_cons (pv 1) (pa_cons (pv 3) (pa_cons (pv 4) (pa_cons (pe_g (g_law_pieces T) hr (pa_cons (pv 0) pa_nil)) pa_nil)))))))) pss_nil)
              (pss_cons (ps_if (pt_cmpR op_eq (pv 5) pe_str rfl) (pss_one (ps_ret (pe_tup (pa_cons (pv 5) (pa_cons (pv 1) (pa_cons (pv 3) (pa_cons (pv 4) (pa_cons (pe_ix ix_seq (pe_lst (pa_cons pe_str (pa_cons pe_str (pa_cons pe_str (pa_cons (pe_op op_repS pe_str pe_int) (pa_cons pe_str pa_nil)))))) (pe_g (g_law_draw T) hr (pa_cons (pv 0) (pa_cons pe_int pa_nil))) (fun _ _ => rfl)) pa_nil)))))))) pss_nil)
                (pss_one (ps_ret (pe_tup (pa_cons (pv 5) (pa_cons (pv 1) (pa_cons (pv 3) (pa_cons (pv 4) (pa_cons (pe_ix ix_seq (pv 2) (pe_g (g_law_draw T) hr (pa_cons (pv 0) (pa_cons (pe_callB call_len_seq (by rfl) T.f_len PySem.boot_len (pa_cons (pv 2) pa_nil)) pa_nil))) (fun _ _ => rfl)) pa_nil))))))))))))), ?_⟩
    refine ⟨_, rfl, a, n, hs, by omega, rfl, fun q m t H1 hm ht hq0 hq D1 => ?_⟩
    refine ⟨q, _, rfl, SqT.of hq, rfl, _, _, rfl, _, _, rfl, rfl, ?_⟩
    refine ⟨fun σ H2 => ∃ z, V.str z ∈ kinds ∧ σ = [some (.ref a), some (.str (nm wd p)), some (.ref nl), some (.int m), some (.int t), some (.str z)] ∧ Drew a (n + 2 + 1) H H2, ?_, ?_⟩
    · refine ⟨sizeB' (Nat.le_of_ble_eq_true rfl), fun p1 hp1 => ?_⟩
      have d1 := D1.new (o := .lst kinds) hp1
      have n1 := D1.src.ne hp1
      refine ⟨_, rfl, a, n + 2, 7, d1.src, by omega, by decide, by decide, rfl, fun i H2 i0 i1 hs2 t2 => ?_⟩
      obtain ⟨x, hx, ex⟩ := pick (xs := kinds) i0 i1
      obtain ⟨z, rfl⟩ : ∃ z, x = .str z := by
        simp only [kinds, List.mem_cons, List.not_mem_nil, or_false] at hx
        rcases hx with rfl | rfl | rfl | rfl | rfl | rfl | rfl <;> exact ⟨_, rfl⟩
      exact .inl ⟨p1, _, i, _, rfl, rfl, SqL.of ((Drew.mk t2 hs2).at (show L2.upd H1 p1 (.lst kinds) p1 = some (.lst kinds) from upd_same) n1), ex, z, hx, rfl, d1.trans ⟨t2, hs2⟩⟩
    · rintro σ H2 ⟨z, hz, rfl, D2⟩
      have fin : ∀ (zz : Str) (x : V) (pay : Pay) (H3 : Hp), Drew a (n + 790) H H3 → SpOk ⟨p, m, t, pay⟩ → (∀ b, H3 b = none → SpecT K wd (fr H (L2.upd H3 b (.tup [.str zz, .str (nm wd p), .int m, .int t, x]))) b ⟨p, m, t, pay⟩) →
          ([V.str zz, .str (nm wd p), .int m, .int t, x] : List V).length ≤ sizeLine ∧ ∀ b, H3 b = none → Q (.ref b) (L2.upd H3 b (.tup [.str zz, .str (nm wd p), .int m, .int t, x])) :=
        fun zz x pay H3 D3 ok hT => ⟨sizeB' (Nat.le_of_ble_eq_true rfl), fun b hb => k (.ref b) ⟨p, m, t, pay⟩ _ ok ⟨b, rfl, hT b hb⟩ ((D3.new hb).le (by omega))⟩
      simp only [kinds, List.mem_cons, List.not_mem_nil, or_false, V.str.injEq] at hz
      have cF : ∀ a b : Str, ¬ a = b → decide (V.str a = V.str b) = false := fun a b h => decide_eq_false fun e => h (V.str.inj e)
      have cT : ∀ a : Str, decide (V.str a = V.str a) = true := fun a => decide_eq_true rfl
      have hz : z = Str.ofString "file" ∨ z = Str.ofString "directory" ∨ z = Str.ofString "symlink" ∨ z = Str.ofString "link" ∨ z = Str.ofString "sparse" := by
        rcases hz with h | h | h | h | h | h | h
        · exact .inl h
        · exact .inl h
        · exact .inr (.inl h)
        · exact .inr (.inr (.inl h))
        · exact .inr (.inr (.inr (.inl h)))
        · exact .inr (.inr (.inr (.inl h)))
        · exact .inr (.inr (.inr (.inr h)))
      rcases hz with rfl | rfl | rfl | rfl | rfl
      · refine ⟨_, rfl, rfl, _, rfl, ?_⟩
        rw [cT]
        refine iteT ⟨_, rfl, _, rfl, _, rfl, _, rfl, _, rfl, a, _, D2.src, by omega, rfl, fun l ns H3 hb hns hl0 hl D3 => ?_⟩
        refine fin _ (.ref l) (.file ns) H3 ((D2.trans D3).le (by omega)) ⟨hp, hm, ht, hb⟩ fun b hb2 => ⟨l, SqT.of (frn (D2.trans D3) hb2), SqL.of (fr_at (none_of D2 hl0) (same_new hb2 _ _ hl))⟩
      · refine ⟨_, rfl, rfl, _, rfl, ?_⟩
        rw [cF _ _ (by decide +kernel)]
        refine iteF ⟨_, rfl, rfl, _, rfl, ?_⟩
        rw [cT]
        refine iteT ⟨_, rfl, _, rfl, _, rfl, _, rfl, sizeB' (Nat.le_of_ble_eq_true rfl), fun b hb => ?_⟩
        exact k (.ref b) ⟨p, m, t, .dir⟩ _ ⟨hp, hm, ht, trivial⟩ ⟨b, rfl, SqT.of (frn D2 hb)⟩ ((D2.new hb).le (by omega))
      · refine ⟨_, rfl, rfl, _, rfl, ?_⟩
        rw [cF _ _ (by decide +kernel)]
        refine iteF ⟨_, rfl, rfl, _, rfl, ?_⟩
        rw [cF _ _ (by decide +kernel)]
        refine iteF ⟨_, rfl, rfl, _, rfl, ?_⟩
        rw [cF _ _ (by decide +kernel)]
        refine iteF ⟨_, rfl, rfl, _, rfl, ?_⟩
        rw [cT]
        refine iteT ⟨_, rfl, _, rfl, _, rfl, _, rfl, _, 120, rfl, rfl, by decide, by decide, rfl, sizeB' (Nat.le_of_ble_eq_true rfl), fun p1 hp1 => ?_⟩
        have d3 := D2.new (o := .lst [.str "a", .str "../b", .str "/", .str (repS (Str.ofString "x") 120), .str "a//."]) hp1
        have n1 := D2.src.ne hp1
        refine ⟨_, rfl, a, n + 2 + 1, 5, d3.src, by omega, by decide, by decide, rfl, fun i H3 i0 i1 hs3 t3 => ?_⟩
        obtain ⟨x, hx, ex⟩ := pick (xs := [.str "a", .str "../b", .str "/", .str (repS (Str.ofString "x") 120), .str "a//."]) i0 i1
        obtain ⟨tg, rfl, htg⟩ : ∃ tg, x = .str tg ∧ NameOk tg := by
          simp only [List.mem_cons, List.not_mem_nil, or_false] at hx
          rcases hx with rfl | rfl | rfl | rfl | rfl
          · exact ⟨_, rfl, nameB (by decide +kernel)⟩
          · exact ⟨_, rfl, nameB (by decide +kernel)⟩
          · exact ⟨_, rfl, nameB (by decide +kernel)⟩
          · exact ⟨_, rfl, x120⟩
          · exact ⟨_, rfl, nameB (by decide +kernel)⟩
        have D3 := d3.trans (Drew.mk t3 hs3)
        refine .inl ⟨p1, _, i, _, rfl, rfl, SqL.of ((Drew.mk t3 hs3).at upd_same n1), ex, ?_⟩
        exact fin _ (.str tg) (.sym tg) H3 (D3.le (by omega)) ⟨hp, hm, ht, htg⟩ fun b hb2 => SqT.of (frn D3 hb2)
      · refine ⟨_, rfl, rfl, _, rfl, ?_⟩
        rw [cF _ _ (by decide +kernel)]
        refine iteF ⟨_, rfl, rfl, _, rfl, ?_⟩
        rw [cF _ _ (by decide +kernel)]
        refine iteF ⟨_, rfl, rfl, _, rfl, ?_⟩
        rw [cF _ _ (by decide +kernel)]
        refine iteF ⟨_, rfl, rfl, _, rfl, ?_⟩
        rw [cF _ _ (by decide +kernel)]
        have e2 : H2 nl = some (.lst (nps.map fun p => V.str (nm wd p))) := D2.at hnl nna
        have hl1 := List.length_pos_iff.mpr hne
        refine iteF ⟨_, rfl, _, rfl, _, rfl, _, rfl, _, rfl, _, rfl, _, rfl, nl, _, rfl, .inl (SqL.of e2), a, n + 2 + 1, _, D2.src, by omega, by rw [List.length_map]; omega, by rw [List.length_map]; omega, rfl, fun i H3 i0 i1 hs3 t3 => ?_⟩
        obtain ⟨x, hx, ex⟩ := pick i0 i1
        obtain ⟨tp, htp, rfl⟩ := List.mem_map.mp hx
        have D3 := D2.trans (Drew.mk t3 hs3)
        refine .inl ⟨nl, _, i, _, rfl, rfl, SqL.of (D3.at hnl nna), ex, ?_⟩
        exact fin _ (.str (nm wd tp)) (.link tp) H3 (D3.le (by omega)) ⟨hp, hm, ht, hnp tp htp⟩ fun b hb2 => SqT.of (frn D3 hb2)
      · refine ⟨_, rfl, rfl, _, rfl, ?_⟩
        rw [cF _ _ (by decide +kernel)]
        refine iteF ⟨_, rfl, rfl, _, rfl, ?_⟩
        rw [cF _ _ (by decide +kernel)]
        refine iteF ⟨_, rfl, rfl, _, rfl, ?_⟩
        rw [cT]
        refine iteT ⟨_, rfl, _, rfl, _, rfl, _, rfl, _, rfl, a, _, D2.src, by omega, rfl, fun l sz ps H3 h1 h2 h3 hl0 hl D3 => ?_⟩
        refine fin _ (.ref l) (.sparse sz ps) H3 ((D2.trans D3).le (by omega)) ⟨hp, hm, ht, h1, h2, h3⟩ fun b hb2 => ⟨l, SqT.of (frn (D2.trans D3) hb2), (hl.mono (D2.fr hdom)).mono (fr_step hdom (hid_new hb2))⟩
end K89
set_option Elab.async false
set_option linter.all false
set_option maxRecDepth 100000
set_option maxHeartbeats 4000000
/-! K89.Q6: specs. -/
namespace K89
open PySem PySem.Spec PyProof.Rows L2
variable {P : Program} {w : World} {K : PySem.W.Frag} {mg : Str → Option Value} {base : Heap}
theorem names_of : ∀ {acc : List V}, (∀ (i : Nat) y, acc[i]? = some y → ∃ p, y = .str (nm wd p) ∧ POk p) → ∃ nps : List Pth, acc = nps.map (fun p => V.str (nm wd p)) ∧ ∀ p ∈ nps, POk p
  | [], _ => ⟨[], rfl, fun z hz => by cases hz⟩
  | y :: r, h => by
    obtain ⟨z, rfl, hz⟩ := h 0 y rfl
    obtain ⟨ns, rfl, hn⟩ := names_of (acc := r) fun i y e => h (i + 1) y e
    exact ⟨z :: ns, rfl, fun x hx => by rcases List.mem_cons.mp hx with rfl | hx; exact hz; exact hn x hx⟩
theorem nm_one (ν : Nat → Str) (i : Nat) : nm ν [i] = ν i := rfl
theorem pok_one {p : Pth} (h : POk p) : POk [p.headD 0] := by
  obtain ⟨x, r, rfl⟩ : ∃ x r, p = x :: r := by
    cases p with
    | nil => exact absurd rfl h.ne
    | cons x r => exact ⟨x, r, rfl⟩
  exact ⟨by simp, Nat.le_of_ble_eq_true rfl, fun i hi => h.lt i (by rw [List.mem_singleton.mp hi]; exact List.mem_cons_self), fun i hi => by simp at hi⟩
def spSpecs (K : PySem.W.Frag) : Sp := fun vs H Q _ => ∃ (a : Addr) (n : Nat) (most : Int), SrcAt H a n ∧ n ≤ 700000 ∧ 0 ≤ most ∧ most ≤ 12 ∧ vs = [.ref a, .int most] ∧
  ∀ l svs sps H', H l = none → H' l = some (.lst svs) → Paired (SpecAt K wd (fr H H')) svs sps → (∀ sp ∈ sps, SpOk sp) → (sps.length : Int) ≤ most → Drew a (n + 20000) H H' → Q (.ref l) H'
theorem g_law_specs (T : Txt P K mg) : Dg P w K mg base "_law_specs" 4 (spSpecs K) := by
  refine T.h_law_specs.mk sc_law_specs (fun _ _ _ _ _ _ us hl => match us, hl with | [_, _], _ => rfl) (fun vs H Q E h => ?_) (fun f cdv A outer s H vs Q E hr h => ?_)
  · obtain ⟨a, n, most, _, _, _, _, rfl, _⟩ := h; rfl
  · obtain ⟨a, n, most, hs, hn, hm0, hm1, rfl, k⟩ := h
    have hdom := hs.dom
    refine ⟨_, pss_cons (ps_setLc (i := 2) (own := [("_law_turn", 4)]) (g := gName 4) (tt := tYes) rfl sc_law_specs.nd rfl rfl (sw_true rfl rfl rfl rfl) (pi_range1 (by rfl) T.f_range (pa_cons (pe_add pe_int (pe_g (g_law_draw T) hr (pa_cons (pv 0) (pa_cons pe_int pa_nil)))) pa_nil)) (blkOk_by (N := N_law_specs) (sc := defScope s_law_specs) (by decide +kernel))
        (fun _ _ _ _ _ => pg_name (i := 4) sc_law_specs.nd rfl (Or.inl rfl)) (fun _ _ _ _ _ => pts_nil)
        (fun _ _ _ _ _ => pe_g (g_law_path T) hr (pa_cons (pv 0) pa_nil)))
      (pss_cons (ps_par (i := 2) (j := 3) rfl sc_law_specs.nd rfl rfl (by decide) rfl rfl (pa_cons (pe_op op_cat (pv 2) (pe_lc (own := [("_law_name", 5)]) (g := gName 5) (tt := tYes) rfl sc_law_specs.nd (pi_list (pv 2)) (blkOk_by (N := N_law_specs) (sc := defScope s_law_specs) (by decide +kernel))
          (fun _ _ _ _ _ => pg_name (i := 5) sc_law_specs.nd rfl (Or.inl rfl)) (fun _ _ _ _ _ => pts_nil) (fun _ _ _ _ _ => pe_ix (r := rIx K) ix_seq (pe_split (pv 5) pe_str) pe_int (fun _ _ => rfl)))) (pa_cons (pe_lst pa_nil) pa_nil)) rfl)
        (pss_cons (ps_for PassesOwn.never rfl (pi_range1 (by rfl) T.f_range (pa_cons (pe_g (g_law_draw T) hr (pa_cons (pv 0) (pa_cons (pe_add (pv 1) pe_int) pa_nil))) pa_nil)) (pg_name (i := 4) sc_law_specs.nd rfl (Or.inl rfl))
            (pss_one (papp (pv 3) (pe_g (g_law_spec T) hr (pa_cons (pv 0) (pa_cons (pe_ix ix_seq (pv 2) (pe_g (g_law_draw T) hr (pa_cons (pv 0) (pa_cons (pe_callB call_len_seq (by rfl) T.f_len PySem.boot_len (pa_cons (pv 2) pa_nil)) pa_nil))) (fun _ _ => rfl)) (pa_cons (pv 2) pa_nil)))))))
          (pss_one (ps_ret (pv 3))))), ?_⟩
    refine ⟨_, rfl, a, n, 5, hs, by omega, by decide, by decide, rfl, fun c H1 c0 c1 hs1 t1 => ?_⟩
    obtain ⟨c, rfl⟩ : ∃ j : Nat, c = (j : Int) := ⟨c.toNat, by omega⟩
    have D1 : Drew a (n + 1) H H1 := ⟨t1, hs1⟩
    refine ⟨_, _, rfl, rfl, _, rfl, by omega, by omega, ?_⟩
    have ec : ((1 : Int) + (c : Int)).toNat = 1 + c := by omega
    rw [ec]
    intro D hD
    have hDa := D1.src.ne hD
    refine lc_new (L2.walk_range (lo := 0) (n := 1 + c)) [a] (fun i H' => SrcAt H' a (n + 1 + 10 * i)) (fun i y G => ∃ p, y = V.str (nm wd p) ∧ POk p) (fun _ _ _ _ _ h => h) (sizeB (by omega)) hD (by simpa using hDa) D1.src (fun i H' acc h => ?_) (fun _ _ _ _ => trivial) (fun i x H2 H' Pz hi s2 hI hac y hP => ?_) fun H2 acc s2 hI e2 e3 e4 => ?_
    · obtain ⟨g, m, t, h1, h2⟩ := h
      exact ⟨g, m, t, by rw [upd_ne hDa.symm]; exact h1, h2⟩
    · obtain ⟨rfl, rfl⟩ := y
      refine ⟨rfl, _, rfl, a, _, hI, by omega, rfl, fun p H3 hp D3 => hP _ H3 D3.same (by rw [show n + 1 + 10 * (i + 1) = n + 1 + 10 * i + 10 by omega]; exact D3.src) ⟨p, rfl, hp⟩⟩
    obtain ⟨nps, rfl, hnp⟩ := names_of e4
    rw [List.length_map] at e3
    have D2 : Drew a (n + 1 + 10 * (1 + c)) H H2 := ⟨D1.same.trans s2, hI⟩
    -- the names and their first parts
    refine ⟨_, rfl, _, rfl, D, rfl, ⟨_, SqL.of e2⟩, fun D' hD' => ?_⟩
    refine lc_pure (L2.walk_list (K := K) (a := D) (xs := nps.map fun p => V.str (nm wd p))) (nps.map fun p => V.str (nm wd [p.headD 0])) (by simp) (sizeB (by rw [List.length_map]; omega)) hD' (fun H3 s3 => s3.seq (SqL.of e2)) (fun i x H3 H' Pz hi s3 y hP => ?_) fun H3 s3 hL3 => ?_
    · obtain ⟨rfl, hx⟩ := y
      rw [List.length_map] at hi
      rw [List.getElem?_map, List.getElem?_eq_getElem hi] at hx
      have hx := (Option.some.inj hx).symm
      subst hx
      have pk := hnp _ (List.getElem_mem hi)
      refine ⟨rfl, _, rfl, ⟨_, rfl⟩, _, _, rfl, rfl, by decide +kernel, by have := wd_nm.len _ pk; rw [sizeLine_eq]; unfold nm; omega, fun b hb => ?_⟩
      rw [slash_eq, nm_split wd_nm pk]
      obtain ⟨x, r, e⟩ : ∃ x r, nps[i] = x :: r := by
        cases h : nps[i] with
        | nil => exact absurd h pk.ne
        | cons x r => exact ⟨x, r, rfl⟩
      refine .inl ⟨b, _, _, .str (wd x), rfl, rfl, SqL.of upd_same, (by rw [e]; exact atI0), hP _ _ (same_new hb) ?_⟩
      rw [List.getElem?_map, List.getElem?_eq_getElem hi, e]
      rfl
    have D3 : Drew a (n + 1 + 10 * (1 + c)) H H3 := D2.trans ⟨hid_same s3, D2.src.mono s3⟩
    refine ⟨D, D', _, _, rfl, rfl, s3 _ _ e2, hL3, ?_, fun np hnp0 => ?_⟩
    · rw [List.length_map, List.length_map, sizeLine_eq]; omega
    have en : (nps.map fun p => V.str (nm wd p)) ++ (nps.map fun p => V.str (nm wd [p.headD 0])) = (nps ++ nps.map fun p => [p.headD 0]).map fun p => V.str (nm wd p) := by
      rw [List.map_append, List.map_map]; rfl
    rw [en]
    have hnps2 : ∀ p ∈ nps ++ nps.map fun p => [p.headD 0], POk p := by
      intro p hp
      rcases List.mem_append.mp hp with h | h
      · exact hnp p h
      · obtain ⟨q, hq, rfl⟩ := List.mem_map.mp h; exact pok_one (hnp q hq)
    have hne2 : (nps ++ nps.map fun p => [p.headD 0]) ≠ [] := by
      intro z
      have := (List.append_eq_nil_iff.mp z).1
      rw [this] at e3
      simp at e3
      omega
    have hl2 : (nps ++ nps.map fun p => [p.headD 0]).length ≤ 100 := by rw [List.length_append, List.length_map]; omega
    generalize (nps ++ nps.map fun p => [p.headD 0]) = nps2 at hnps2 hne2 hl2
    have npa := D3.src.ne hnp0
    have D4 := D3.new (o := .lst (nps2.map fun p => V.str (nm wd p))) hnp0
    have f4 := frn (o := .lst (nps2.map fun p => V.str (nm wd p))) D3 hnp0
    generalize L2.upd H3 np (.lst (nps2.map fun p => V.str (nm wd p))) = H4 at D4 f4
    refine ⟨sizeB' (Nat.le_of_ble_eq_true rfl), fun F hF => ⟨_, _, rfl, ?_⟩⟩
    have Fa := D4.src.ne hF
    have nF : np ≠ F := ne_of_none (fr_some f4).2 hF
    have hF0 : H F = none := none_of D4 hF
    have D5 := D4.new (o := .lst []) hF
    have e5 : L2.upd H4 F (.lst []) F = some (.lst []) := upd_same
    have f5 : L2.upd H4 F (.lst []) np = some (.lst (nps2.map fun p => V.str (nm wd p))) := same_new hF _ _ (fr_some f4).2
    generalize L2.upd H4 F (.lst []) = H5 at D5 e5 f5
    refine ⟨_, rfl, _, rfl, _, _, rfl, rfl, a, _, most + 1, D5.src, by omega, by omega, by omega, rfl, fun m H6 m0 m1 hs6 t6 => ?_⟩
    have D6 := D5.trans (Drew.mk t6 hs6)
    obtain ⟨m, rfl⟩ : ∃ j : Nat, m = (j : Int) := ⟨m.toNat, by omega⟩
    refine ⟨_, rfl, by omega, by omega, ?_⟩
    have em : (m : Int).toNat = m := by omega
    rw [em]
    refine for_it (L2.walk_range (lo := 0) (n := m)) (fun i σ H' => ∃ u svs sps, σ = [some (.ref a), some (.int most), some (.ref np), some (.ref F), u, none] ∧ Drew a (n + 200 + 900 * i) H H' ∧ H' np = some (.lst (nps2.map fun p => V.str (nm wd p))) ∧ H' F = some (.lst svs) ∧ Paired (SpecAt K wd (hid (fr H H') [F])) svs sps ∧ (∀ sp ∈ sps, SpOk sp) ∧ sps.length = i) ?_ ?_ ?_ ?_
    · exact ⟨_, [], [], rfl, D6.le (by omega), (Drew.mk t6 hs6).at f5 npa, (Drew.mk t6 hs6).at e5 Fa, .nil, fun sp h => (by cases h), rfl⟩
    · exact fun _ _ _ _ _ => trivial
    · rintro i x σ H7 H8 hi ⟨u, svs, sps, rfl, D7, g1, g2, g3, g4, g5⟩ ⟨rfl, rfl⟩
      have hl1 := List.length_pos_iff.mpr hne2
      refine ⟨_, rfl, .inl ⟨rfl, _, SqL.of g2⟩, _, rfl, _, rfl, _, rfl, _, rfl, np, _, rfl, .inl (SqL.of g1), a, _, _, D7.src, by omega, by rw [List.length_map]; omega, by rw [List.length_map]; omega, rfl, fun j H9 j0 j1 hs9 t9 => ?_⟩
      obtain ⟨x, hx, ex⟩ := pick j0 j1
      obtain ⟨p, hp, rfl⟩ := List.mem_map.mp hx
      have D9' : Drew a (n + 200 + 900 * i + 1) H8 H9 := ⟨t9, hs9⟩
      have g1' := D9'.at g1 npa
      refine .inl ⟨np, _, j, _, rfl, rfl, SqL.of g1', ex, _, rfl, a, _, p, np, nps2, hs9, by omega, hnps2 p hp, g1', hne2, hl2, hnps2, rfl, fun v sp H10 hok hv D10 => ?_⟩
      have D11 := D9'.trans D10
      have D12 := D7.trans D11
      have g2' := D11.at g2 Fa
      have hsl := Paired.length g3
      refine ⟨F, _, v, rfl, rfl, g2', by rw [sizeLine_eq]; omega, _, svs ++ [v], sps ++ [sp], rfl, (D12.upd hF0 Fa).le (by omega), ?_, upd_same, ?_, ?_, by simp [g5]⟩
      · rw [upd_ne nF]; exact D11.at g1 npa
      · have eH : hid (fr H (L2.upd H10 F (.lst (svs ++ [v])))) [F] = hid (fr H H10) [F] := by
          funext b
          unfold hid
          by_cases e : b ∈ [F]
          · rw [if_pos e, if_pos e]
          · rw [if_neg e, if_neg e]
            unfold fr
            rw [upd_ne (by simpa using e)]
        rw [eH]
        have st : Same (hid (fr H H8) [F]) (hid (fr H H10) [F]) := hid_same (fr_step hdom D11.same)
        refine (Paired.mapP g3 fun v e h => h.mono st).snoc (hv.mono ?_)
        intro b o hb
        obtain ⟨h1, h2⟩ := fr_some hb
        have h3 : H8 b = none := none_of D9' h1
        refine hid_at (fr_at (none_of D7 h3) h2) ?_
        simp only [List.mem_singleton]
        exact fun z => by rw [z, g2] at h3; cases h3
      · intro s hs
        rcases List.mem_append.mp hs with h | h
        · exact g4 s h
        · rw [List.mem_singleton.mp h]; exact hok
    · rintro σ H7 ⟨u, svs, sps, rfl, D7, g1, g2, g3, g4, g5⟩
      exact ⟨_, rfl, k F svs sps H7 hF0 g2 (Paired.mapP g3 fun v e h => h.mono hid_sub) g4 (by omega) (D7.le (by omega))⟩
end K89
set_option Elab.async false
set_option linter.all false
set_option maxRecDepth 100000
set_option maxHeartbeats 4000000
/-! K89.Q7: members made of specs. -/
namespace K89
open PySem PySem.Spec PyProof.Rows L2
variable {P : Program} {w : World} {K : PySem.W.Frag} {mg : Str → Option Value} {base : Heap}
/-- a new instance, then what its __init__ keeps of all else -/
theorem made_same {H2 H3 : Hp} {x dx : Addr} {C : Addr} (hx : H2 x = none) (hdx : H2 dx = none) (hne : dx ≠ x) (s : Same (hid (upd (upd H2 dx (.own x)) x (.ins C dx [])) [x]) (hid H3 [x])) : Same H2 H3 :=
  (hid_in (l := [x]) (Same.trans (same_new hdx) (same_new (by rw [upd_ne hne.symm]; exact hx))) (fun b hb => by rw [List.mem_singleton.mp hb]; exact hx)).trans (s.trans hid_sub)
def spMade (K : PySem.W.Frag) : Sp := fun vs H Q _ => ∃ ν v sp, Nm ν ∧ SpecAt K ν H v sp ∧ SpOk sp ∧ vs = [v] ∧ ∀ v' H', Same H H' → MemAt K ν H' v' sp → Q v' H'
theorem strNe {a b : Str} (h : ¬ a = b) : decide (V.str a = V.str b) = false := decide_eq_false fun e => h (V.str.inj e)
theorem g_law_made (T : Txt P K mg) : Dg P w K mg base "_law_made" 6 (spMade K) := by
  obtain ⟨f1, M1, F1⟩ := k_File (w := w) (base := base) T
  obtain ⟨f2, M2, F2⟩ := k_Directory (w := w) (base := base) T
  obtain ⟨f3, M3, F3⟩ := k_Symlink (w := w) (base := base) T
  obtain ⟨f4, M4, F4⟩ := k_Link (w := w) (base := base) T
  obtain ⟨f5, M5, F5⟩ := k_Sparse (w := w) (base := base) T
  refine T.h_law_made.mk sc_law_made (fun _ _ _ _ _ _ us hl => match us, hl with | [_], _ => rfl) (fun vs H Q E h => ?_) (fun f cdv A outer s H vs Q E hr h => ?_)
  · obtain ⟨ν, v, sp, _, _, _, rfl, _⟩ := h; rfl
  · obtain ⟨ν, v, sp, N, ⟨q, rfl, hT⟩, hok, rfl, k⟩ := h
    refine ⟨_, pss_cons (ps_if (pt_cmpR op_eq (pe_ix ix_seq (pv 0) pe_int (fun _ _ => rfl)) pe_str rfl) (pss_one (ps_ret (pe_makeKR M1 F1 hr T.m_File.g (pa_cons (pe_ix ix_seq (pv 0) pe_int (fun _ _ => rfl)) (pa_cons (pe_g (g_blob T) hr (pa_cons (pe_ix ix_seq (pv 0) pe_int (fun _ _ => rfl)) pa_nil)) pa_nil)) (pk_cons (pe_ix ix_seq (pv 0) pe_int (fun _ _ => rfl)) (pk_cons (pe_ix ix_seq (pv 0) pe_int (fun _ _ => rfl)) pk_nil))))) pss_nil)
      (pss_cons (ps_if (pt_cmpR op_eq (pe_ix ix_seq (pv 0) pe_int (fun _ _ => rfl)) pe_str rfl) (pss_one (ps_ret (pe_makeKR M2 F2 hr T.m_Directory.g (pa_cons (pe_ix ix_seq (pv 0) pe_int (fun _ _ => rfl)) pa_nil) (pk_cons (pe_ix ix_seq (pv 0) pe_int (fun _ _ => rfl)) (pk_cons (pe_ix ix_seq (pv 0) pe_int (fun _ _ => rfl)) pk_nil))))) pss_nil)
      (pss_cons (ps_if (pt_cmpR op_eq (pe_ix ix_seq (pv 0) pe_int (fun _ _ => rfl)) pe_str rfl) (pss_one (ps_ret (pe_makeKR M3 F3 hr T.m_Symlink.g (pa_cons (pe_ix ix_seq (pv 0) pe_int (fun _ _ => rfl)) (pa_cons (pe_ix ix_seq (pv 0) pe_int (fun _ _ => rfl)) pa_nil)) (pk_cons (pe_ix ix_seq (pv 0) pe_int (fun _ _ => rfl)) (pk_cons (pe_ix ix_seq (pv 0) pe_int (fun _ _ => rfl)) pk_nil))))) pss_nil)
      (pss_cons (ps_if (pt_cmpR op_eq (pe_ix ix_seq (pv 0) pe_int (fun _ _ => rfl)) pe_str rfl) (pss_one (ps_ret (pe_makeKR M4 F4 hr T.m_Link.g (pa_cons (pe_ix ix_seq (pv 0) pe_int (fun _ _ => rfl)) (pa_cons (pe_ix ix_seq (pv 0) pe_int (fun _ _ => rfl)) pa_nil)) (pk_cons (pe_ix ix_seq (pv 0) pe_int (fun _ _ => rfl)) (pk_cons (pe_ix ix_seq (pv 0) pe_int (fun _ _ => rfl)) pk_nil))))) pss_nil)
      (pss_cons (ps_asg (pe_ix ix_seq (pv 0) pe_int (fun _ _ => rfl)) (pg_tup rfl (pgs_cons (pg_name (i := 1) sc_law_made.nd rfl (Or.inl rfl)) (pgs_cons (pg_name (i := 2) sc_law_made.nd rfl (Or.inl rfl)) pgs_nil))))
      (pss_cons (ps_setLc (i := 3) (own := [("_law_offset", 4), ("_law_numbers_here", 5)]) (g := gTup K 2 (gCons (gName 4) (gCons (gName 5) gNil))) (tt := tYes) rfl sc_law_made.nd rfl rfl (sw_true rfl rfl rfl rfl) (pi_list (pv 2)) (blkOk_by (N := N_law_made) (sc := defScope s_law_made) (by decide +kernel))
          (fun _ _ _ _ _ => pg_tup rfl (pgs_cons (pg_name (i := 4) sc_law_made.nd rfl (Or.inl rfl)) (pgs_cons (pg_name (i := 5) sc_law_made.nd rfl (Or.inl rfl)) pgs_nil))) (fun _ _ _ _ _ => pts_nil)
          (te := tTup (tCons (tVar 4) (tCons (tG (spBlob K) E0 (tCons (tVar 5) tNil)) tNil)))
          (fun _ _ _ _ _ => pe_tup (pa_cons (pv 4) (pa_cons (pe_g (g_blob T) hr (pa_cons (pv 5) pa_nil)) pa_nil))))
      (pss_cons (ps_if (pt_cmpR (op_eqN hr.units0) (pv 3) (pe_lst pa_nil) rfl) (pss_one (ps_ret (pe_makeKR M5 F5 hr T.m_Sparse.g (pa_cons (pe_ix ix_seq (pv 0) pe_int (fun _ _ => rfl)) (pa_cons (pv 1) pa_nil)) (pk_cons (pe_ix ix_seq (pv 0) pe_int (fun _ _ => rfl)) (pk_cons (pe_ix ix_seq (pv 0) pe_int (fun _ _ => rfl)) pk_nil))))) pss_nil)
      (pss_cons (ps_if (pt_cmpR op_eq (pe_callB call_len_seq (by rfl) T.f_len PySem.boot_len (pa_cons (pv 3) pa_nil)) pe_int rfl) (pss_one (ps_ret (pe_makeKR M5 F5 hr T.m_Sparse.g (pa_cons (pe_ix ix_seq (pv 0) pe_int (fun _ _ => rfl)) (pa_cons (pv 1) (pa_cons (pe_ix ix_seq (pv 3) pe_int (fun _ _ => rfl)) pa_nil))) (pk_cons (pe_ix ix_seq (pv 0) pe_int (fun _ _ => rfl)) (pk_cons (pe_ix ix_seq (pv 0) pe_int (fun _ _ => rfl)) pk_nil))))) pss_nil)
        (pss_one (ps_ret (pe_makeKR M5 F5 hr T.m_Sparse.g (pa_cons (pe_ix ix_seq (pv 0) pe_int (fun _ _ => rfl)) (pa_cons (pv 1) (pa_cons (pe_ix ix_seq (pv 3) pe_int (fun _ _ => rfl)) (pa_cons (pe_ix ix_seq (pv 3) pe_int (fun _ _ => rfl)) pa_nil)))) (pk_cons (pe_ix ix_seq (pv 0) pe_int (fun _ _ => rfl)) (pk_cons (pe_ix ix_seq (pv 0) pe_int (fun _ _ => rfl)) pk_nil)))))))))))), ?_⟩
    obtain ⟨nmp, m, t, pay⟩ := sp
    have hname := nm_nameOk N hok.name
    have hp := hok.pay
    cases pay with
    | file ns =>
      obtain ⟨l, h1, h2⟩ := hT
      refine ⟨_, rfl, .inr (.inl ⟨_, _, _, _, rfl, rfl, h1, rfl, rfl, _, rfl, iteT ?_⟩)⟩
      refine ⟨_, rfl, .inr (.inl ⟨_, _, _, _, rfl, rfl, h1, rfl, _, rfl, .inr (.inl ⟨_, _, _, _, rfl, rfl, h1, rfl, l, ns, h2, hp, rfl, fun H1 s1 => ?_⟩)⟩)⟩
      have h1' := s1.tup h1
      refine ⟨_, rfl, .inr (.inl ⟨_, _, _, _, rfl, rfl, h1', rfl, _, rfl, .inr (.inl ⟨_, _, _, _, rfl, rfl, h1', rfl, rfl, fun x dx hx hdx hne => ?_⟩)⟩)⟩
      refine ⟨x, dx, _, bA ns, m, t, rfl, rfl, upd_same, hname, by rw [bA_size]; exact hp.1, hok.m, hok.t, fun kv H3 s3 e3 => ⟨rfl, k _ H3 (s1.trans (made_same hx hdx hne s3)) ⟨x, dx, kv, _, rfl, e3, .file⟩⟩⟩
    | dir =>
      have h1 : SqT K H q [.str "directory", .str (nm ν nmp), .int m, .int t] := hT
      refine ⟨_, rfl, .inr (.inl ⟨_, _, _, _, rfl, rfl, h1, rfl, rfl, _, rfl, ?_⟩)⟩
      rw [strNe (by decide +kernel)]
      refine iteF ⟨_, rfl, .inr (.inl ⟨_, _, _, _, rfl, rfl, h1, rfl, rfl, _, rfl, iteT ?_⟩)⟩
      refine ⟨_, rfl, .inr (.inl ⟨_, _, _, _, rfl, rfl, h1, rfl, _, rfl, .inr (.inl ⟨_, _, _, _, rfl, rfl, h1, rfl, _, rfl, .inr (.inl ⟨_, _, _, _, rfl, rfl, h1, rfl, rfl, fun x dx hx hdx hne => ?_⟩)⟩)⟩)⟩
      refine ⟨x, dx, _, m, t, rfl, rfl, upd_same, hname, hok.m, hok.t, fun kv H3 s3 e3 => ⟨rfl, k _ H3 (made_same hx hdx hne s3) ⟨x, dx, kv, [], rfl, (by rw [List.append_nil]; exact e3), .dir⟩⟩⟩
    | sym tg =>
      have h1 : SqT K H q [.str "symlink", .str (nm ν nmp), .int m, .int t, .str tg] := hT
      refine ⟨_, rfl, .inr (.inl ⟨_, _, _, _, rfl, rfl, h1, rfl, rfl, _, rfl, ?_⟩)⟩
      rw [strNe (by decide +kernel)]
      refine iteF ⟨_, rfl, .inr (.inl ⟨_, _, _, _, rfl, rfl, h1, rfl, rfl, _, rfl, ?_⟩)⟩
      rw [strNe (by decide +kernel)]
      refine iteF ⟨_, rfl, .inr (.inl ⟨_, _, _, _, rfl, rfl, h1, rfl, rfl, _, rfl, iteT ?_⟩)⟩
      refine ⟨_, rfl, .inr (.inl ⟨_, _, _, _, rfl, rfl, h1, rfl, _, rfl, .inr (.inl ⟨_, _, _, _, rfl, rfl, h1, rfl, _, rfl, .inr (.inl ⟨_, _, _, _, rfl, rfl, h1, rfl, _, rfl, .inr (.inl ⟨_, _, _, _, rfl, rfl, h1, rfl, rfl, fun x dx hx hdx hne => ?_⟩)⟩)⟩)⟩)⟩
      refine ⟨x, dx, _, tg, m, t, rfl, rfl, upd_same, hname, hp, hok.m, hok.t, fun kv H3 s3 e3 => ⟨rfl, k _ H3 (made_same hx hdx hne s3) ⟨x, dx, kv, _, rfl, e3, .sym⟩⟩⟩
    | link tp =>
      have h1 : SqT K H q [.str "link", .str (nm ν nmp), .int m, .int t, .str (nm ν tp)] := hT
      refine ⟨_, rfl, .inr (.inl ⟨_, _, _, _, rfl, rfl, h1, rfl, rfl, _, rfl, ?_⟩)⟩
      rw [strNe (by decide +kernel)]
      refine iteF ⟨_, rfl, .inr (.inl ⟨_, _, _, _, rfl, rfl, h1, rfl, rfl, _, rfl, ?_⟩)⟩
      rw [strNe (by decide +kernel)]
      refine iteF ⟨_, rfl, .inr (.inl ⟨_, _, _, _, rfl, rfl, h1, rfl, rfl, _, rfl, ?_⟩)⟩
      rw [strNe (by decide +kernel)]
      refine iteF ⟨_, rfl, .inr (.inl ⟨_, _, _, _, rfl, rfl, h1, rfl, rfl, _, rfl, iteT ?_⟩)⟩
      refine ⟨_, rfl, .inr (.inl ⟨_, _, _, _, rfl, rfl, h1, rfl, _, rfl, .inr (.inl ⟨_, _, _, _, rfl, rfl, h1, rfl, _, rfl, .inr (.inl ⟨_, _, _, _, rfl, rfl, h1, rfl, _, rfl, .inr (.inl ⟨_, _, _, _, rfl, rfl, h1, rfl, rfl, fun x dx hx hdx hne => ?_⟩)⟩)⟩)⟩)⟩
      refine ⟨x, dx, _, _, m, t, rfl, rfl, upd_same, hname, nm_nameOk N hp, hok.m, hok.t, fun kv H3 s3 e3 => ⟨rfl, k _ H3 (made_same hx hdx hne s3) ⟨x, dx, kv, _, rfl, e3, .link⟩⟩⟩
    | sparse sz ps =>
      obtain ⟨l, h1, pl, prs, h2, h3, h4⟩ := hT
      obtain ⟨p1, p2, p3⟩ := hp
      have hlen := Paired.length h4
      have hall := p3.all
      refine ⟨_, rfl, .inr (.inl ⟨_, _, _, _, rfl, rfl, h1, rfl, rfl, _, rfl, ?_⟩)⟩
      rw [strNe (by decide +kernel)]
      refine iteF ⟨_, rfl, .inr (.inl ⟨_, _, _, _, rfl, rfl, h1, rfl, rfl, _, rfl, ?_⟩)⟩
      rw [strNe (by decide +kernel)]
      refine iteF ⟨_, rfl, .inr (.inl ⟨_, _, _, _, rfl, rfl, h1, rfl, rfl, _, rfl, ?_⟩)⟩
      rw [strNe (by decide +kernel)]
      refine iteF ⟨_, rfl, .inr (.inl ⟨_, _, _, _, rfl, rfl, h1, rfl, rfl, _, rfl, ?_⟩)⟩
      rw [strNe (by decide +kernel)]
      refine iteF ⟨_, rfl, .inr (.inl ⟨_, _, _, _, rfl, rfl, h1, rfl, l, _, rfl, h2, rfl, _, _, rfl, _, _, rfl, rfl, ?_⟩)⟩
      refine ⟨_, rfl, pl, rfl, ⟨_, h3⟩, fun D hD => ?_⟩
      refine lc_new0 (L2.walk_list (K := K) (a := pl) (xs := prs)) (fun i y G => ∀ e, ps[i]? = some e → PcV K G y e) (fun i y G G' s h e he => (h e he).imp fun r z => ⟨z.1, s.tup z.2⟩) (sizeB (by omega)) hD (fun H3 s3 => s3.seq h3) (fun i x H3 H4 Pz hi s3 hac y hP => ?_) fun H3 acc s3 e1 e2 e3 => ?_
      · obtain ⟨rfl, hx⟩ := y
        obtain ⟨acc, hac⟩ := hac
        obtain ⟨e, he, r, dl, rfl, g1, g2⟩ := L2.paired_get h4 hx
        obtain ⟨a1, a2, a3⟩ := hall e (List.mem_of_getElem? he)
        refine ⟨r, _, rfl, s3.tup g1, rfl, _, _, rfl, _, _, rfl, rfl, rfl, ?_⟩
        refine ⟨_, rfl, _, rfl, dl, e.2, SqL.of (s3 _ _ g2), ⟨by omega, a3⟩, rfl, fun H5 s5 => ⟨sizeB' (Nat.le_of_ble_eq_true rfl), fun b hb => hP _ _ (s5.trans (same_new hb)) fun e' he' => ⟨b, rfl, SqT.of (hid_at ?_ ?_)⟩⟩⟩
        · rw [he] at he'
          rw [upd_same, ← Option.some.inj he']
        · simpa using (ne_of_none (s5 _ _ hac) hb).symm
      have hacc : Paired (PcV K H3) acc ps := paired_of (by omega) fun i y e g1 g2 => (e3 i y g1 e g2).imp fun r z => ⟨z.1, hid_sub.tup z.2⟩
      have h1' := s3.tup h1
      have fin : ∀ (H4 : Hp) (x dx : Addr), Same H3 H4 → H4 x = none → H4 dx = none → dx ≠ x → (3 ≤ (V.ref x :: (.str (nm ν nmp)) :: .int (sz : Int) :: acc).length ∧ (V.ref x :: (.str (nm ν nmp)) :: .int (sz : Int) :: acc).length ≤ sizeLine ∧ ∀ p, (L2.upd (L2.upd H4 dx (.own x)) x (.ins (cl K "Sparse") dx [])) p = none →
          spSpB K (V.ref x :: (.str (nm ν nmp)) :: .int (sz : Int) :: acc) [.int m, .int t] (L2.upd (L2.upd (L2.upd H4 dx (.own x)) x (.ins (cl K "Sparse") dx [])) p (.tup ((V.ref x :: (.str (nm ν nmp)) :: .int (sz : Int) :: acc).drop 3))) (fun v H5 => v = .non ∧ Q (.ref x) H5) E0) := by
        intro H4 x dx s4 hx hdx hne
        refine ⟨by simp, by rw [sizeLine_eq]; simp only [List.length_cons]; omega, fun p hp0 => ?_⟩
        have npx : p ≠ x := fun z => by rw [z, upd_same] at hp0; cases hp0
        have hp1 : (L2.upd H4 dx (.own x)) p = none := by rw [upd_ne npx] at hp0; exact hp0
        have npd : p ≠ dx := fun z => by rw [z, upd_same] at hp1; cases hp1
        have hp2 : H4 p = none := by rw [upd_ne npd] at hp1; exact hp1
        have sE : Same H4 (L2.upd (L2.upd (L2.upd H4 dx (.own x)) x (.ins (cl K "Sparse") dx [])) p (.tup ((V.ref x :: (.str (nm ν nmp)) :: .int (sz : Int) :: acc).drop 3))) := by
          intro b o hb
          rw [upd_ne (ne_of_none hb hp2), upd_ne (ne_of_none hb hx), upd_ne (ne_of_none hb hdx)]
          exact hb
        refine ⟨x, dx, nm ν nmp, sz, m, t, acc, ps, rfl, rfl, by rw [upd_ne npx.symm]; exact upd_same, hname, Paired.mapP hacc fun v e ⟨r, z1, z2⟩ => ⟨r, z1, (s4.trans sE).tup z2⟩, p3, p1, p2, hok.m, hok.t, fun kv q' H5 s5 g1 g2 => ⟨rfl, ?_⟩⟩
        have s6 : Same H4 H5 := by
          intro b o hb
          have hbx := ne_of_none hb hx
          exact (hid_some (s5 _ _ (hid_at (sE _ _ hb) (by simpa using hbx)))).1
        have tq : SqT K H5 q' acc := by
          refine (s5.trans hid_sub).tup (SqT.hide g1 fun b hb => ?_)
          rw [List.mem_singleton.mp hb]
          exact ⟨_, by rw [upd_ne npx.symm]; exact upd_same, rfl⟩
        exact k _ H5 (s3.trans (s4.trans s6)) ⟨x, dx, kv, _, rfl, g2, .sparse tq (Paired.mapP hacc fun v e ⟨r, z1, z2⟩ => ⟨r, z1, (s4.trans s6).tup z2⟩)⟩
      refine ⟨_, rfl, sizeB' (Nat.le_of_ble_eq_true rfl), fun p hp0 => ⟨D, p, acc, rfl, rfl, SqL.of (same_new hp0 _ _ e1), SqL.of upd_same, _, rfl, ?_⟩⟩
      have sp0 : Same H3 (L2.upd H3 p (.lst [])) := same_new hp0
      generalize L2.upd H3 p (.lst []) = H4 at sp0
      have h1' := sp0.tup h1'
      have e1' := sp0 _ _ e1
      match acc, e2, e1', fin with
      | [], e2, e1', fin =>
        refine iteT ⟨_, rfl, .inr (.inl ⟨_, _, _, _, rfl, rfl, h1', rfl, _, rfl, _, rfl, .inr (.inl ⟨_, _, _, _, rfl, rfl, h1', rfl, _, rfl, .inr (.inl ⟨_, _, _, _, rfl, rfl, h1', rfl, rfl, fun x dx hx hdx hne => ?_⟩)⟩)⟩)⟩
        exact fin H4 x dx sp0 hx hdx hne
      | [v1], e2, e1', fin =>
        refine iteF ⟨_, rfl, D, _, rfl, .inl (SqL.of e1'), rfl, _, rfl, iteT ?_⟩
        refine ⟨_, rfl, .inr (.inl ⟨_, _, _, _, rfl, rfl, h1', rfl, _, rfl, _, rfl, .inl ⟨D, _, _, _, rfl, rfl, SqL.of e1', rfl, _, rfl, .inr (.inl ⟨_, _, _, _, rfl, rfl, h1', rfl, _, rfl, .inr (.inl ⟨_, _, _, _, rfl, rfl, h1', rfl, rfl, fun x dx hx hdx hne => ?_⟩)⟩)⟩⟩)⟩
        exact fin H4 x dx sp0 hx hdx hne
      | [v1, v2], e2, e1', fin =>
        refine iteF ⟨_, rfl, D, _, rfl, .inl (SqL.of e1'), rfl, _, rfl, iteF ?_⟩
        refine ⟨_, rfl, .inr (.inl ⟨_, _, _, _, rfl, rfl, h1', rfl, _, rfl, _, rfl, .inl ⟨D, _, _, _, rfl, rfl, SqL.of e1', rfl, _, rfl, .inl ⟨D, _, _, _, rfl, rfl, SqL.of e1', rfl, _, rfl, .inr (.inl ⟨_, _, _, _, rfl, rfl, h1', rfl, _, rfl, .inr (.inl ⟨_, _, _, _, rfl, rfl, h1', rfl, rfl, fun x dx hx hdx hne => ?_⟩)⟩)⟩⟩⟩)⟩
        exact fin H4 x dx sp0 hx hdx hne
      | _ :: _ :: _ :: _, e2, _, _ => exact absurd e2 (by rw [hlen]; simp; omega)
end K89
set_option Elab.async false
set_option linter.all false
set_option maxRecDepth 100000
set_option maxHeartbeats 4000000
/-! K89.Q8: the tree: made, copied; a kind, a path, a word. -/
namespace K89
open PySem PySem.Spec PyProof.Rows L2
variable {P : Program} {w : World} {K : PySem.W.Frag} {mg : Str → Option Value} {base : Heap}
/-- a file as the tree holds it -/
def TFileAt (K : PySem.W.Frag) (H : Hp) : V → FD → Prop := fun v f => ∃ q l ns, v = .ref q ∧ SqT K H q [.str "file", .ref l, .int f.m, .int f.t] ∧ SqL K H l (ns.map V.int) ∧ BytesOk ns ∧ f.data = bA ns ∧ ModeOk f.m ∧ TimeOk f.t
theorem TFileAt.mono {H H' : Hp} {v : V} {f : FD} (h : TFileAt K H v f) (s : Same H H') : TFileAt K H' v f := by
  obtain ⟨q, l, ns, h1, h2, h3, h4⟩ := h
  exact ⟨q, l, ns, h1, s.tup h2, s.seq h3, h4⟩
theorem TFileAt.ok {H : Hp} {v : V} {f : FD} (h : TFileAt K H v f) : FDOk f := by
  obtain ⟨q, l, ns, h1, h2, h3, h4, h5, h6, h7⟩ := h
  exact ⟨by rw [h5, bA_size]; exact h4.1, h6, h7⟩
def tD (at_ fl : Addr) : List (Key × V) := [(.inr "at", .ref at_), (.inr "files", .ref fl)]
theorem tD_at (at_ fl : Addr) : valV (tD at_ fl) (Sum.inr (Str.ofString "at") : Key) = some (.ref at_) := valV_pos rfl
theorem tD_fl (at_ fl : Addr) : valV (tD at_ fl) (Sum.inr (Str.ofString "files") : Key) = some (.ref fl) := by
  have h : ¬ (Sum.inr (Str.ofString "at") : Key) = .inr (Str.ofString "files") := by decide +kernel
  exact (valV_neg (p := ((Sum.inr (Str.ofString "at") : Key), V.ref at_)) h).trans (valV_pos rfl)
theorem tD_merge (at_ fl : Addr) : mergeK [] (tD at_ fl) = tD at_ fl := mergeK_app _ [] (by
  show ([Sum.inr (Str.ofString "at"), Sum.inr (Str.ofString "files")] : List Key).Nodup
  decide +kernel)
/-- a tree -/
structure TreeAt (K : PySem.W.Frag) (ν : Nat → Str) (H : Hp) (t : Addr) (T : Hs) : Prop where
  nn : Nm ν
  key : ∀ p ∈ T.L.map (·.1), POk p
  at_ : ∃ at_ fl kvs fvs, H t = some (.dK (tD at_ fl)) ∧ t ≠ at_ ∧ H at_ = some (.dK kvs) ∧ StandAt K ν H kvs T.L ∧ H fl = some (.lst fvs) ∧ Paired (TFileAt K H) fvs T.F
theorem TreeAt.mono {ν : Nat → Str} {H H' : Hp} {t : Addr} {T : Hs} (h : TreeAt K ν H t T) (s : Same H H') : TreeAt K ν H' t T := by
  obtain ⟨n, k, at_, fl, kvs, fvs, h1, h0, h2, h3, h4, h5⟩ := h
  exact ⟨n, k, at_, fl, kvs, fvs, s _ _ h1, h0, s _ _ h2, h3.mono s, s _ _ h4, Paired.mapP h5 fun v f z => z.mono s⟩
/-- a tree to be changed -/
structure TM (K : PySem.W.Frag) (ν : Nat → Str) (H : Hp) (t at_ fl : Addr) (T : Hs) : Prop where
  nn : Nm ν
  key : ∀ p ∈ T.L.map (·.1), POk p
  ne : at_ ≠ fl
  has : ∃ kvs fvs, H t = some (.dK (tD at_ fl)) ∧ t ≠ at_ ∧ H at_ = some (.dK kvs) ∧ StandAt K ν (hid H [at_, fl]) kvs T.L ∧ H fl = some (.lst fvs) ∧ Paired (TFileAt K (hid H [at_, fl])) fvs T.F
theorem TM.tree {ν : Nat → Str} {H : Hp} {t at_ fl : Addr} {T : Hs} (h : TM K ν H t at_ fl T) : TreeAt K ν H t T := by
  obtain ⟨n, k, ne, kvs, fvs, h1, h0, h2, h3, h4, h5⟩ := h
  exact ⟨n, k, at_, fl, kvs, fvs, h1, h0, h2, h3.mono hid_sub, h4, Paired.mapP h5 fun v f z => z.mono hid_sub⟩
theorem TM.mono {ν : Nat → Str} {H H' : Hp} {t at_ fl : Addr} {T : Hs} (h : TM K ν H t at_ fl T) (s : Same H H') : TM K ν H' t at_ fl T := by
  obtain ⟨n, k, ne, kvs, fvs, h1, h0, h2, h3, h4, h5⟩ := h
  exact ⟨n, k, ne, kvs, fvs, s _ _ h1, h0, s _ _ h2, h3.mono (hid_same s), s _ _ h4, Paired.mapP h5 fun v f z => z.mono (hid_same s)⟩
theorem TM.dom {ν : Nat → Str} {H : Hp} {t at_ fl : Addr} {T : Hs} (h : TM K ν H t at_ fl T) : ∀ c ∈ [at_, fl], ∃ o, H c = some o := by
  obtain ⟨n, k, ne, kvs, fvs, h1, h0, h2, h3, h4, h5⟩ := h
  intro c hc
  simp only [List.mem_cons, List.not_mem_nil, or_false] at hc
  rcases hc with rfl | rfl
  · exact ⟨_, h2⟩
  · exact ⟨_, h4⟩
/-! ### tree, copied -/
def spTree (K : PySem.W.Frag) : Sp := fun vs H Q _ => vs = [] ∧ ∀ t H', Same H H' → TreeAt K wd H' t ⟨[], []⟩ → Q (.ref t) H'
theorem g_law_tree (T : Txt P K mg) : Dg P w K mg base "_law_tree" 1 (spTree K) := by
  refine T.h_law_tree.mk sc_law_tree (fun _ _ _ _ _ _ us hl => match us, hl with | [], _ => rfl) (fun vs H Q E h => ?_) (fun f cdv A outer s H vs Q E hr h => ?_)
  · obtain ⟨rfl, _⟩ := h; rfl
  · obtain ⟨rfl, k⟩ := h
    refine ⟨_, pss_one (ps_ret (pe_disp (pps_cons pe_str pe_dnewK (pps_cons pe_str (pe_lst pa_nil) pps_nil)) rfl rfl (by simp) (Nat.le_of_ble_eq_true rfl))), ?_⟩
    intro p hp at_ hat
    refine ⟨sizeB' (Nat.le_of_ble_eq_true rfl), fun fl hfl => ?_⟩
    have npa := ne_of_none upd_same hat
    have hat0 : H at_ = none := by rw [upd_ne npa.symm] at hat; exact hat
    have naf := ne_of_none upd_same hfl
    have hfl1 : upd H p (.dK []) fl = none := by rw [upd_ne naf.symm] at hfl; exact hfl
    have npf := ne_of_none upd_same hfl1
    have hfl0 : H fl = none := by rw [upd_ne npf.symm] at hfl1; exact hfl1
    refine ⟨by rw [upd_ne npf, upd_ne npa]; exact upd_same, tD at_ fl, rfl, Nat.le_of_ble_eq_true rfl, ?_⟩
    rw [tD_merge]
    refine k p _ (fun b o hb => ?_) ⟨wd_nm, fun q hq => (by cases hq), at_, fl, [], [], upd_same, npa, by rw [upd_ne npa.symm, upd_ne naf]; exact upd_same, .nil, by rw [upd_ne npf.symm]; exact upd_same, .nil⟩
    rw [upd_ne (ne_of_none hb hp), upd_ne (ne_of_none hb hfl0), upd_ne (ne_of_none hb hat0), upd_ne (ne_of_none hb hp)]
    exact hb
def spTCopied (K : PySem.W.Frag) : Sp := fun vs H Q _ => ∃ ν t T, TreeAt K ν H t T ∧ vs = [.ref t] ∧ ∀ t' at_ fl H', Same H H' → H at_ = none → H fl = none → TM K ν H' t' at_ fl T → Q (.ref t') H'
theorem g_law_copied (Tx : Txt P K mg) : Dg P w K mg base "_law_copied" 1 (spTCopied K) := by
  refine Tx.h_law_copied.mk sc_law_copied (fun _ _ _ _ _ _ us hl => match us, hl with | [_], _ => rfl) (fun vs H Q E h => ?_) (fun f cdv A outer s H vs Q E hr h => ?_)
  · obtain ⟨ν, t, T, _, rfl, _⟩ := h; rfl
  · obtain ⟨ν, t, T, hT, rfl, k⟩ := h
    obtain ⟨N, key, at0, fl0, kvs, fvs, h1, h0, h2, h3, h4, h5⟩ := hT
    refine ⟨_, pss_one (ps_ret (pe_disp (pps_cons pe_str (pe_callTy call_dictD (by rfl) Tx.f_dict (by decide +kernel) (pa_cons (pe_dget (room1 hr) (pv 0) pe_str (fun _ _ => rfl)) pa_nil)) (pps_cons pe_str (pe_callTy call_list_of (by rfl) Tx.f_list (by decide +kernel) (pa_cons (pe_dget (room1 hr) (pv 0) pe_str (fun _ _ => rfl)) pa_nil)) pps_nil)) rfl rfl (by simp) (Nat.le_of_ble_eq_true rfl))), ?_⟩
    intro p hp
    have s1 : Same H (upd H p (.dK [])) := same_new hp
    refine ⟨_, rfl, t, _, rfl, DGet.of (s1 _ _ h1) (k := .inr "at") rfl (tD_at _ _), at0, kvs, rfl, .inl (s1 _ _ h2), fun at_ hat => ?_⟩
    have npa := ne_of_none upd_same hat
    have hat0 : H at_ = none := by rw [upd_ne npa.symm] at hat; exact hat
    have s2 : Same H (upd (upd H p (.dK [])) at_ (.dK kvs)) := s1.trans (same_new hat)
    refine ⟨_, rfl, t, _, rfl, DGet.of (s2 _ _ h1) (k := .inr "files") rfl (tD_fl _ _), fl0, fvs, rfl, .inl (SqL.of (s2 _ _ h4)), fun fl hfl => ?_⟩
    have naf := ne_of_none upd_same hfl
    have hfl1 : upd H p (.dK []) fl = none := by rw [upd_ne naf.symm] at hfl; exact hfl
    have npf := ne_of_none upd_same hfl1
    have hfl0 : H fl = none := by rw [upd_ne npf.symm] at hfl1; exact hfl1
    refine ⟨by rw [upd_ne npf, upd_ne npa]; exact upd_same, tD at_ fl, rfl, Nat.le_of_ble_eq_true rfl, ?_⟩
    rw [tD_merge]
    have sA : Same H (upd (upd (upd (upd H p (.dK [])) at_ (.dK kvs)) fl (.lst fvs)) p (.dK (tD at_ fl))) := fun b o hb => by
      rw [upd_ne (ne_of_none hb hp), upd_ne (ne_of_none hb hfl0), upd_ne (ne_of_none hb hat0), upd_ne (ne_of_none hb hp)]
      exact hb
    have sB := hid_in (l := [at_, fl]) sA (fun b hb => by
      simp only [List.mem_cons, List.not_mem_nil, or_false] at hb
      rcases hb with rfl | rfl
      · exact hat0
      · exact hfl0)
    exact k p at_ fl _ sA hat0 hfl0 ⟨N, key, naf, kvs, fvs, upd_same, npa, by rw [upd_ne npa.symm, upd_ne naf]; exact upd_same, h3.mono sB, by rw [upd_ne npf.symm]; exact upd_same, Paired.mapP h5 fun v f z => z.mono sB⟩
/-! ### a kind, a path -/
def spKind (K : PySem.W.Frag) : Sp := fun vs H Q _ => ∃ ν t T p, TreeAt K ν H t T ∧ POk p ∧ vs = [.ref t, .str (nm ν p)] ∧ ∀ H', Same H H' → Q (.str (kdS (kd (lkp T.L p)))) H'
theorem g_law_kind (Tx : Txt P K mg) : Dg P w K mg base "_law_kind" 1 (spKind K) := by
  refine Tx.h_law_kind.mk sc_law_kind (fun _ _ _ _ _ _ us hl => match us, hl with | [_, _], _ => rfl) (fun vs H Q E h => ?_) (fun f cdv A outer s H vs Q E hr h => ?_)
  · obtain ⟨ν, t, T, p, _, _, rfl, _⟩ := h; rfl
  · obtain ⟨ν, t, T, p, hT, hp, rfl, k⟩ := h
    obtain ⟨N, key, at0, fl0, kvs, fvs, h1, h0, h2, h3, h4, h5⟩ := hT
    refine ⟨_, pss_one (ps_ret (pe_ix ix_seq (pe_dget2 (room1 hr) (pe_dget (room1 hr) (pv 0) pe_str (fun _ _ => rfl)) (pv 1) (pe_tup (pa_cons pe_str pa_nil)) ⟨rfl, rfl, rfl, rfl⟩) pe_int (fun _ _ => rfl))), ?_⟩
    refine ⟨_, rfl, t, _, rfl, DGet.of h1 (k := .inr "at") rfl (tD_at _ _), at0, rfl, .inl ⟨kvs, .inl h2⟩, _, rfl, sizeB' (Nat.le_of_ble_eq_true rfl), fun b hb => ?_⟩
    have s1 : Same H (upd H b (.tup [.str "absent"])) := same_new hb
    have hv := h3.val N hp key
    cases e : lkp T.L p with
    | none =>
      rw [e] at k
      exact ⟨_, DGet.of (s1 _ _ h2) (k := .inr _) rfl (hv.1 e), .inr (.inl ⟨b, _, _, _, rfl, rfl, SqT.of upd_same, atI0, k _ s1⟩)⟩
    | some x =>
      rw [e] at k
      obtain ⟨q, e1, e2⟩ := hv.2 x e
      obtain ⟨r, er⟩ := thV_hd x
      exact ⟨_, DGet.of (s1 _ _ h2) (k := .inr _) rfl e1, .inr (.inl ⟨q, _, _, _, rfl, rfl, s1.tup e2, (by rw [er]; exact atI0), k _ s1⟩)⟩
def spLIsPath : Sp := fun vs H Q _ => ∃ ν p, Nm ν ∧ POk p ∧ vs = [.str (nm ν p)] ∧ ∀ H', Same H H' → Q (.bl true) H'
theorem g_law_is_path (T : Txt P K mg) : Dg P w K mg base "_law_is_path" 1 spLIsPath := by
  refine T.h_law_is_path.mk sc_law_is_path (fun _ _ _ _ _ _ us hl => match us, hl with | [_], _ => rfl) (fun vs H Q E h => ?_) (fun f cdv A outer s H vs Q E hr h => ?_)
  · obtain ⟨ν, p, _, _, rfl, _⟩ := h; rfl
  · obtain ⟨ν, p, N, hp, rfl, k⟩ := h
    have hl : (nm ν p).length ≤ 250 := N.len p hp
    refine ⟨_, pss_one (ps_ret (pe_callB (cr_all rfl) (by rfl) T.f_all (by decide +kernel) (pa_cons
      (pe_lc (own := [("_law_part", 1)]) (g := gName 1) (tt := tYes) rfl sc_law_is_path.nd (pi_list (pe_split (pv 0) pe_str)) (blkOk_by (N := N_law_is_path) (sc := defScope s_law_is_path) (by decide +kernel))
        (fun _ _ _ _ _ => pg_name (i := 1) sc_law_is_path.nd rfl (Or.inl rfl)) (fun _ _ _ _ _ => pts_nil) (fun _ _ _ _ _ => pe_cmpR (r := rIn K true) op_notIn_seq (pv 1) (pe_tup (pa_cons pe_str (pa_cons pe_str (pa_cons pe_str pa_nil)))) (by rfl))) pa_nil))), ?_⟩
    refine ⟨_, rfl, ⟨_, rfl⟩, _, _, rfl, rfl, by decide +kernel, by rw [sizeLine_eq]; omega, fun a ha => ?_⟩
    rw [slash_eq, nm_split N hp]
    refine ⟨a, rfl, ⟨_, SqL.of upd_same⟩, fun D hD => ?_⟩
    refine lc_pure (L2.walk_list (K := K) (a := a) (xs := (p.map ν).map V.str)) (List.replicate p.length (V.bl true)) (by simp) (sizeB (by have := hp.le; simp; omega)) hD (fun H2 s2 => s2.seq (SqL.of upd_same)) (fun i x H2 H' Pz hi s2 y hP => ?_) fun H2 s2 hL2 => ?_
    · obtain ⟨rfl, hx⟩ := y
      obtain ⟨wd, rfl, hw⟩ : ∃ wd, x = .str wd ∧ wd ∈ p.map ν := by
        rw [List.getElem?_map] at hx
        cases e : (p.map ν)[i]? with
        | none => rw [e] at hx; cases hx
        | some wd => rw [e] at hx; exact ⟨wd, (Option.some.inj hx).symm, List.mem_of_getElem? e⟩
      obtain ⟨n1, n2, n3⟩ := nm_parts N hp wd hw
      refine ⟨rfl, _, rfl, sizeB' (Nat.le_of_ble_eq_true rfl), fun q hq => ⟨q, _, rfl, .inr (SqT.of upd_same), rfl, rfl, ?_⟩⟩
      have e : inV (.str wd) [.str "", .str ".", .str ".."] = false := by
        simp only [inV, List.any_cons, List.any_nil, eqV, Bool.or_false, Bool.or_eq_false_iff, beq_eq_false_iff_ne]
        exact ⟨fun z => n1 z.symm, fun z => n2 z.symm, fun z => n3 z.symm⟩
      rw [e]
      exact hP _ _ (same_new hq) (rep_get _ (by simpa using hi))
    · refine ⟨D, List.replicate p.length true, rfl, SqL.of (by rw [hL2, List.map_replicate]), ?_⟩
      rw [rep_all]
      exact k _ (Same.trans (same_new ha) s2)
end K89
set_option Elab.async false
set_option linter.all false
set_option maxRecDepth 100000
set_option maxHeartbeats 4000000
/-! K89.Q9: a word, a content. -/
namespace K89
open PySem PySem.Spec PyProof.Rows L2
variable {P : Program} {w : World} {K : PySem.W.Frag} {mg : Str → Option Value} {base : Heap}
theorem atI1 {x y : V} {r : List V} : atI (x :: y :: r) 1 = some y := atI_nat (j := 1) rfl
theorem atI2 {x y z : V} {r : List V} : atI (x :: y :: z :: r) 2 = some z := atI_nat (j := 2) rfl
theorem atI3 {x y z u : V} {r : List V} : atI (x :: y :: z :: u :: r) 3 = some u := atI_nat (j := 3) rfl
theorem atI4 {x y z u v : V} {r : List V} : atI (x :: y :: z :: u :: v :: r) 4 = some v := atI_nat (j := 4) rfl
/-- the fields that every spec has -/
theorem SpecT.head {ν : Nat → Str} {H : Hp} {q : Addr} {sp : Spec} (h : SpecT K ν H q sp) : ∃ rest, SqT K H q (.str (memK sp.pay) :: .str (nm ν sp.name) :: .int sp.m :: .int sp.t :: rest) ∧
    (∀ tp, sp.pay = .link tp → rest = [.str (nm ν tp)]) ∧ (∀ tg, sp.pay = .sym tg → rest = [.str tg]) ∧ (sp.pay = .dir → rest = []) ∧
    (∀ ns, sp.pay = .file ns → ∃ l, rest = [.ref l] ∧ SqL K H l (ns.map V.int)) ∧ (∀ sz ps, sp.pay = .sparse sz ps → ∃ l, rest = [.ref l] ∧ SpL K H l sz ps) := by
  obtain ⟨n, m, t, pay⟩ := sp
  cases pay with
  | file ns =>
    obtain ⟨l, h1, h2⟩ := h
    exact ⟨_, h1, fun tp e => (by cases e), fun tp e => (by cases e), fun e => (by cases e), fun ns' e => (by cases e; exact ⟨l, rfl, h2⟩), fun sz ps e => (by cases e)⟩
  | dir => exact ⟨_, h, fun tp e => (by cases e), fun tp e => (by cases e), fun e => rfl, fun ns' e => (by cases e), fun sz ps e => (by cases e)⟩
  | sym tg => exact ⟨_, h, fun tp e => (by cases e), fun tp e => (by cases e; rfl), fun e => (by cases e), fun ns' e => (by cases e), fun sz ps e => (by cases e)⟩
  | link tp => exact ⟨_, h, fun tp e => (by cases e; rfl), fun tp e => (by cases e), fun e => (by cases e), fun ns' e => (by cases e), fun sz ps e => (by cases e)⟩
  | sparse sz ps =>
    obtain ⟨l, h1, h2⟩ := h
    exact ⟨_, h1, fun tp e => (by cases e), fun tp e => (by cases e), fun e => (by cases e), fun ns' e => (by cases e), fun sz' ps' e => (by cases e; exact ⟨l, rfl, h2⟩)⟩
def spWord (K : PySem.W.Frag) : Sp := fun vs H Q _ => ∃ ν t T v sp, TreeAt K ν H t T ∧ SpecAt K ν H v sp ∧ SpOk sp ∧ vs = [.ref t, v] ∧ ∀ H', Same H H' → Q (.str (word T.L sp)) H'
def isDir : Pay → Bool
  | .dir => true
  | _ => false
theorem dec_isDir (p : Pay) : decide (V.str (memK p) = V.str (Str.ofString "directory")) = isDir p := by
  cases p with
  | link t => exact (by decide +kernel : decide (V.str (Str.ofString "link") = V.str (Str.ofString "directory")) = false)
  | file ns => exact (by decide +kernel : decide (V.str (Str.ofString "file") = V.str (Str.ofString "directory")) = false)
  | dir => exact decide_eq_true rfl
  | sym tg => exact (by decide +kernel : decide (V.str (Str.ofString "symlink") = V.str (Str.ofString "directory")) = false)
  | sparse sz ps => exact (by decide +kernel : decide (V.str (Str.ofString "sparse") = V.str (Str.ofString "directory")) = false)
theorem g_law_word (Tx : Txt P K mg) : Dg P w K mg base "_law_word" 2 (spWord K) := by
  refine Tx.h_law_word.mk sc_law_word (fun _ _ _ _ _ _ us hl => match us, hl with | [_, _], _ => rfl) (fun vs H Q E h => ?_) (fun f cdv A outer s H vs Q E hr h => ?_)
  · obtain ⟨ν, t, T, v, sp, _, _, _, rfl, _⟩ := h; rfl
  · obtain ⟨ν, t, T, v, sp, hT, ⟨q, rfl, hq⟩, hok, rfl, k⟩ := h
    have N := hT.nn
    obtain ⟨rest, h1, r1, _⟩ := hq.head
    refine ⟨_, pss_cons (ps_if (pt_not (pt_val (pe_g (g_law_is_path Tx) hr (pa_cons (pe_ix ix_seq (pv 1) pe_int (fun _ _ => rfl)) pa_nil)))) (pss_one (ps_ret pe_str)) pss_nil)
      (pss_cons (ps_if (pt_not (pt_val (pe_callB (cr_all rfl) (by rfl) Tx.f_all (by decide +kernel) (pa_cons
          (pe_lc (own := [("_law_one", 3)]) (g := gName 3) (tt := tYes) rfl sc_law_word.nd (pi_list (pe_g (g_law_above Tx) hr (pa_cons (pe_ix ix_seq (pv 1) pe_int (fun _ _ => rfl)) pa_nil))) (blkOk_by (N := N_law_word) (sc := defScope s_law_word) (by decide +kernel))
            (fun _ _ _ _ _ => pg_name (i := 3) sc_law_word.nd rfl (Or.inl rfl)) (fun _ _ _ _ _ => pts_nil) (fun _ _ _ _ _ => pe_cmpR (r := rIn K false) op_in_seq (pe_g (g_law_kind Tx) hr (pa_cons (pv 0) (pa_cons (pv 3) pa_nil))) (pe_tup (pa_cons pe_str (pa_cons pe_str pa_nil))) (by rfl))) pa_nil)))) (pss_one (ps_ret pe_str)) pss_nil)
        (pss_cons (pset 2 sc_law_word.nd (pe_g (g_law_kind Tx) hr (pa_cons (pv 0) (pa_cons (pe_ix ix_seq (pv 1) pe_int (fun _ _ => rfl)) pa_nil))))
          (pss_cons (ps_if (pt_cmpR op_eq (pe_ix ix_seq (pv 1) pe_int (fun _ _ => rfl)) pe_str rfl) (pss_one (ps_ret (pe_ifExp (pt_cmpR (r := rIn K false) op_in_seq (pv 2) (pe_tup (pa_cons pe_str (pa_cons pe_str pa_nil))) rfl) pe_str pe_str))) pss_nil)
            (pss_cons (ps_if (pt_cmpR op_eq (pv 2) pe_str rfl) (pss_one (ps_ret pe_str)) pss_nil)
              (pss_one (ps_ret (pe_ifExp (pw_and (pt_cmpR op_eq (pe_ix ix_seq (pv 1) pe_int (fun _ _ => rfl)) pe_str rfl) (pw_and1 (pt_cmpR op_ne (pe_g (g_law_kind Tx) hr (pa_cons (pv 0) (pa_cons (pe_ix ix_seq (pv 1) pe_int (fun _ _ => rfl)) pa_nil))) pe_str rfl))).pt pe_str pe_str))))))), ?_⟩
    refine ⟨_, rfl, .inr (.inl ⟨_, _, _, _, rfl, rfl, h1, atI1, ν, sp.name, N, hok.name, rfl, fun H1 s1 => ⟨_, rfl, iteF ?_⟩⟩)⟩
    refine ⟨_, rfl, .inr (.inl ⟨_, _, _, _, rfl, rfl, s1.tup h1, atI1, ν, sp.name, N, hok.name, rfl, fun l H2 s2 hl0 hl => ?_⟩)⟩
    have s2 := s1.trans s2
    have hpl := hok.name.le
    have hal : (abv sp.name).length ≤ 4 := by simp [abv]; omega
    refine ⟨l, rfl, ⟨_, SqL.of hl⟩, fun D hD => ?_⟩
    refine lc_pure (L2.walk_list (K := K) (a := l) (xs := (abv sp.name).map fun q => V.str (nm ν q))) ((abv sp.name).map fun q => V.bl (decide (kd (lkp T.L q) = .absent) || decide (kd (lkp T.L q) = .dir))) (by simp) (sizeB (by simp; omega)) hD (fun H3 s3 => s3.seq (SqL.of hl)) (fun i x H3 H' Pz hi s3 y hP => ?_) fun H3 s3 hL3 => ?_
    · obtain ⟨rfl, hx⟩ := y
      rw [List.length_map] at hi
      rw [List.getElem?_map, List.getElem?_eq_getElem hi] at hx
      have hx := (Option.some.inj hx).symm
      subst hx
      have hqq := abv_ok hok.name (List.getElem_mem hi)
      refine ⟨rfl, _, rfl, _, rfl, ν, t, T, _, hT.mono (s2.trans s3), hqq, rfl, fun H4 s4 => ⟨sizeB' (Nat.le_of_ble_eq_true rfl), fun q hq0 => ⟨q, _, rfl, .inr (SqT.of upd_same), rfl, rfl, ?_⟩⟩⟩
      rw [show inV (V.str (kdS (kd (lkp T.L (abv sp.name)[i])))) [V.str (Str.ofString "absent"), V.str (Str.ofString "directory")] = _ from in_kinds _ .absent .dir]
      refine hP _ _ (s4.trans (same_new hq0)) ?_
      rw [List.getElem?_map, List.getElem?_eq_getElem hi]
      rfl
    · refine ⟨D, (abv sp.name).map fun q => (decide (kd (lkp T.L q) = .absent) || decide (kd (lkp T.L q) = .dir)), rfl, SqL.of (by rw [hL3, List.map_map]; rfl), _, rfl, ?_⟩
      rw [all_map]
      have s3 := s2.trans s3
      have hw := word_eq T.L sp
      cases hc : clearA T.L sp.name with
      | false =>
        rw [hc, if_pos rfl] at hw
        have hc : ((abv sp.name).all fun q => decide (kd (lkp T.L q) = .absent) || decide (kd (lkp T.L q) = .dir)) = false := hc
        rw [hc]
        refine iteT ?_
        have := k _ s3
        rw [hw] at this
        exact this
      | true =>
        rw [hc, if_neg (by simp)] at hw
        rw [hw] at k
        have hc : ((abv sp.name).all fun q => decide (kd (lkp T.L q) = .absent) || decide (kd (lkp T.L q) = .dir)) = true := hc
        rw [hc]
        refine iteF ⟨_, rfl, _, rfl, .inr (.inl ⟨_, _, _, _, rfl, rfl, s3.tup h1, atI1, ν, t, T, sp.name, hT.mono s3, hok.name, rfl, fun H4 s4 => ?_⟩)⟩
        have s4 := s3.trans s4
        refine ⟨_, rfl, .inr (.inl ⟨_, _, _, _, rfl, rfl, s4.tup h1, atI0, rfl, _, rfl, ?_⟩)⟩
        rw [dec_isDir]
        obtain ⟨nmp, m, ti, pay⟩ := sp
        cases hdir : isDir pay with
        | true =>
          cases pay with
          | dir =>
            refine iteT ⟨_, rfl, sizeB' (Nat.le_of_ble_eq_true rfl), fun q hq => ⟨q, _, rfl, .inr (SqT.of upd_same), rfl, rfl, _, rfl, ?_⟩⟩
            rw [show inV (V.str (kdS (kd (lkp T.L nmp)))) [V.str (Str.ofString "file"), V.str (Str.ofString "symlink")] = (decide (kd (lkp T.L nmp) = .file) || decide (kd (lkp T.L nmp) = .sym)) from in_kinds _ .file .sym]
            have kk := k _ (s4.trans (same_new (o := .tup [.str "file", .str "symlink"]) hq))
            unfold wordAt at kk
            simp only at kk
            by_cases hc : kd (lkp T.L nmp) = .file ∨ kd (lkp T.L nmp) = .sym
            · rw [if_pos hc] at kk
              rw [show (decide (kd (lkp T.L nmp) = .file) || decide (kd (lkp T.L nmp) = .sym)) = true by simpa using hc]
              exact iteT kk
            · rw [if_neg hc] at kk
              rw [show (decide (kd (lkp T.L nmp) = .file) || decide (kd (lkp T.L nmp) = .sym)) = false by simpa using hc]
              exact iteF kk
          | file _ => cases hdir
          | sym _ => cases hdir
          | link _ => cases hdir
          | sparse _ _ => cases hdir
        | false =>
          refine iteF ⟨_, rfl, rfl, _, rfl, ?_⟩
          rw [show decide (V.str (kdS (kd (lkp T.L nmp))) = V.str (Str.ofString "directory")) = decide (kd (lkp T.L nmp) = .dir) from dec_kd _ .dir]
          by_cases hd : kd (lkp T.L nmp) = .dir
          · rw [decide_eq_true hd]
            have kk := k _ s4
            have e : wordAt T.L ⟨nmp, m, ti, pay⟩ = "directory" := by
              unfold wordAt
              cases pay with
              | dir => cases hdir
              | file _ => simp only; rw [if_pos hd]
              | sym _ => simp only; rw [if_pos hd]
              | link _ => simp only; rw [if_pos hd]
              | sparse _ _ => simp only; rw [if_pos hd]
            rw [e] at kk
            exact iteT kk
          · rw [decide_eq_false hd]
            refine iteF ⟨_, rfl, .inr (.inl ⟨_, _, _, _, rfl, rfl, s4.tup h1, atI0, rfl, _, rfl, ?_⟩)⟩
            rw [dec_link]
            cases hl : isLnk pay with
            | true =>
              cases pay with
              | link tp =>
                have er := r1 tp rfl
                subst er
                refine iteT ⟨_, rfl, _, rfl, .inr (.inl ⟨_, _, _, _, rfl, rfl, s4.tup h1, atI4, ν, t, T, tp, hT.mono s4, hok.pay, rfl, fun H5 s5 => ⟨rfl, _, rfl, ?_⟩⟩)⟩
                rw [dec_file]
                have kk := k _ (s4.trans s5)
                unfold wordAt at kk
                simp only at kk
                rw [if_neg hd] at kk
                by_cases hf : kd (lkp T.L tp) = .file
                · rw [if_pos hf] at kk
                  rw [decide_eq_true hf]
                  exact iteF kk
                · rw [if_neg hf] at kk
                  rw [decide_eq_false hf]
                  exact iteT kk
              | dir => cases hl
              | file _ => cases hl
              | sym _ => cases hl
              | sparse _ _ => cases hl
            | false =>
              have kk := k _ s4
              have e : wordAt T.L ⟨nmp, m, ti, pay⟩ = "" := by
                unfold wordAt
                cases pay with
                | dir => cases hdir
                | file _ => simp only; rw [if_neg hd]
                | sym _ => simp only; rw [if_neg hd]
                | link _ => cases hl
                | sparse _ _ => simp only; rw [if_neg hd]
              rw [e] at kk
              exact iteF (iteF kk)
end K89
set_option Elab.async false
set_option linter.all false
set_option maxRecDepth 100000
set_option maxHeartbeats 4000000
/-! K89.Q10: a content. -/
namespace K89
open PySem PySem.Spec PyProof.Rows L2
variable {P : Program} {w : World} {K : PySem.W.Frag} {mg : Str → Option Value} {base : Heap}
section
variable {X : Cx} {o lo hi : Expr} {p2 pos : Pos} {to tl th : TE}
theorem pg_sliceR (ho : PE X o to) (hl : PE X lo tl) (hu : PE X hi th)
    (ha : ∀ v, assign (.Subscript o (.Slice (some lo) (some hi) none p2) pos) X.env v = (do
      let ov ← holding [v] (eval o X.env)
      let iv ← holding [v, ov] (eval (.Slice (some lo) (some hi) none p2) X.env)
      standAt pos
      holding [v, ov, iv] (setItem ov iv v)
      release [iv, v, ov] []) := by intro _; rfl) : PG X (.Subscript o (.Slice (some lo) (some hi) none p2) pos) (gSlice to tl th) := by
  refine ⟨fun pins s σ H v u Q I r h => ?_⟩
  rw [ha]
  refine wpAny_bind (wpAny_holding (thn (ho.run pins s σ H _ I h) fun ov s1 ⟨x, H1, I1, r1, q1⟩ => ?_))
  refine wpAny_bind (wpAny_holding (wpAny_Slice ?_))
  rw [evalPart_some]
  refine thn (hl.run pins s1 σ H1 _ I1 q1) fun vl s2 ⟨l, H2, I2, rl, q2⟩ => ?_
  rw [evalPart_some]
  refine thn (hu.run pins s2 σ H2 _ I2 q2) fun vu s3 ⟨w, H3, I3, rw', q3⟩ => ?_
  rw [evalPart_none]
  refine wpAny_pure ?_
  obtain ⟨a, b, xs, ys, i, j, ev, ex, el, eu, ea, eb, hne, h0, hij, hj, hz, q⟩ := q3
  subst ev ex el eu
  obtain rfl : u = Value.ref b := r
  obtain rfl : ov = Value.ref a := r1
  have I4 : Inv X pins σ H3 { s3 with heap := s3.heap.push { cls := .type "slice", data := .fields #[vl, vu, .none] } } := I3.kept (t' := s3.toks) fun b ob q => Heap.get?_push_of_some _ q
  refine wpAny_bind (wpAny_standAt (wpAny_bind (wpAny_holding (set_slice I4 ea eb hne (Heap.IsSliceOf.new ..) rl rw' h0 hij hj hz fun s5 I5 => ?_))))
  exact wpAny_release ⟨σ, _, I5, q⟩
end
def isFl : Pay → Bool
  | .file _ => true
  | .sparse _ _ => true
  | _ => false
def spContent (K : PySem.W.Frag) : Sp := fun vs H Q _ => ∃ ν v sp l0, (∀ b ∈ l0, ∃ o, H b = some o) ∧ SpecAt K ν (hid H l0) v sp ∧ SpOk sp ∧ isFl sp.pay = true ∧ vs = [v] ∧ ∀ l (ns : List Int) H', Same H H' → SqL K (hid H' l0) l (ns.map V.int) → BytesOk ns → Q (.ref l) H'
theorem g_law_content (T : Txt P K mg) : Dg P w K mg base "_law_content" 1 (spContent K) := by
  refine T.h_law_content.mk sc_law_content (fun _ _ _ _ _ _ us hl => match us, hl with | [_], _ => rfl) (fun vs H Q E h => ?_) (fun f cdv A outer s H vs Q E hr h => ?_)
  · obtain ⟨ν, v, sp, l0, _, _, _, _, rfl, _⟩ := h; rfl
  · obtain ⟨ν, v, sp, l0, hl0, ⟨q, rfl, hq⟩, hok, hfl, rfl, k⟩ := h
    obtain ⟨rest, h1, r1, r2, r3, r4, r5⟩ := hq.head
    refine ⟨_, pss_cons (ps_if (pt_cmpR op_eq (pe_ix ix_seq (pv 0) pe_int (fun _ _ => rfl)) pe_str rfl) (pss_one (ps_ret (pe_ix ix_seq (pv 0) pe_int (fun _ _ => rfl)))) pss_nil)
      (pss_cons (pset 1 sc_law_content.nd (pe_op op_rep (pe_lst (pa_cons pe_int pa_nil)) (pe_ix ix_seq (pe_ix ix_seq (pv 0) pe_int (fun _ _ => rfl)) pe_int (fun _ _ => rfl))))
        (pss_cons (ps_for PassesOwn.never rfl (pi_list (pe_ix ix_seq (pe_ix ix_seq (pv 0) pe_int (fun _ _ => rfl)) pe_int (fun _ _ => rfl))) (pg_tup rfl (pgs_cons (pg_name (i := 2) sc_law_content.nd rfl (Or.inl rfl)) (pgs_cons (pg_name (i := 3) sc_law_content.nd rfl (Or.inl rfl)) pgs_nil)))
            (pss_one (ps_asg (pv 3) (pg_sliceR (pv 1) (pv 2) (pe_add (pv 2) (pe_callB call_len_seq (by rfl) T.f_len PySem.boot_len (pa_cons (pv 3) pa_nil)))))))
          (pss_one (ps_ret (pv 1))))), ?_⟩
    have h1' := hid_sub.tup h1
    obtain ⟨nmp, m, ti, pay⟩ := sp
    cases pay with
    | dir => cases hfl
    | sym _ => cases hfl
    | link _ => cases hfl
    | file ns =>
      obtain ⟨l, rfl, hl⟩ := r4 ns rfl
      refine ⟨_, rfl, .inr (.inl ⟨_, _, _, _, rfl, rfl, h1', atI0, rfl, _, rfl, iteT ?_⟩)⟩
      exact ⟨_, rfl, .inr (.inl ⟨_, _, _, _, rfl, rfl, h1', atI4, k l ns H (Same.refl _) hl hok.pay⟩)⟩
    | sparse sz ps =>
      obtain ⟨l, rfl, pl, prs, g1, g2, g3⟩ := r5 sz ps rfl
      obtain ⟨p1, p2, p3⟩ := hok.pay
      have hall := p3.all
      have hlen := Paired.length g3
      have g1' := hid_sub.tup g1
      refine ⟨_, rfl, .inr (.inl ⟨_, _, _, _, rfl, rfl, h1', atI0, rfl, _, rfl, ?_⟩)⟩
      rw [show decide (V.str (memK (Pay.sparse sz ps)) = V.str (Str.ofString "file")) = false from (by decide +kernel : decide (V.str (Str.ofString "sparse") = V.str (Str.ofString "file")) = false)]
      refine iteF ⟨sizeB' (Nat.le_of_ble_eq_true rfl), fun z hz => ?_⟩
      have s1 : Same H (upd H z (.lst [.int 0])) := same_new hz
      refine ⟨_, rfl, .inr (.inl ⟨_, _, _, _, rfl, rfl, s1.tup h1', atI4, .inr (.inl ⟨_, _, _, _, rfl, rfl, s1.tup g1', rfl, z, _, _, rfl, rfl, upd_same, by omega, by omega, ?_, fun F hF => ?_⟩)⟩)⟩
      · show 1 * _ ≤ _
        rw [sizeLine_eq]; omega
      have en : (List.replicate (sz : Int).toNat [V.int 0]).flatten = (List.replicate sz (0 : Int)).map V.int := by
        rw [flat_rep, List.map_replicate]; rfl
      rw [en]
      have hF0 : H F = none := s1.free hF
      have s2 : Same H (upd (upd H z (.lst [.int 0])) F (.lst ((List.replicate sz (0 : Int)).map V.int))) := s1.trans (same_new hF)
      have eF : upd (upd H z (.lst [.int 0])) F (.lst ((List.replicate sz (0 : Int)).map V.int)) F = some (.lst ((List.replicate sz (0 : Int)).map V.int)) := upd_same
      generalize upd (upd H z (.lst [.int 0])) F (.lst ((List.replicate sz (0 : Int)).map V.int)) = H1 at s2 eF
      have s3 : Same H (hid H1 [F]) := hid_in s2 (fun b hb => by rw [List.mem_singleton.mp hb]; exact hF0)
      have s4 := s3.trans hid_sub
      refine ⟨_, rfl, .inr (.inl ⟨_, _, _, _, rfl, rfl, s4.tup h1', atI4, .inr (.inl ⟨_, _, _, _, rfl, rfl, s4.tup g1', rfl, pl, rfl, ⟨_, s4.seq (hid_sub.seq g2)⟩, ?_⟩)⟩)⟩
      refine for_it (L2.walk_list (K := K) (a := pl) (xs := prs)) (fun i σ H' => ∃ (u v : Option V) (ns : List Int), σ = [some (.ref q), some (.ref F), u, v] ∧ Same H (hid H' [F]) ∧ H' F = some (.lst (ns.map V.int)) ∧ ns.length = sz ∧ ∀ b ∈ ns, 0 ≤ b ∧ b ≤ 255) ?_ ?_ ?_ ?_
      · exact ⟨_, _, List.replicate sz 0, rfl, s3, eF, by simp, fun b hb => by rw [List.eq_of_mem_replicate hb]; omega⟩
      · rintro i σ H' hi ⟨u, v, ns, rfl, t1, _⟩
        exact (t1.trans hid_sub).seq (hid_sub.seq g2)
      · rintro i x σ H' H'' hi ⟨u, v, ns, rfl, t1, t2, t3, t4⟩ ⟨rfl, hx⟩
        obtain ⟨e, he, r, dl, rfl, m1, m2⟩ := L2.paired_get g3 hx
        obtain ⟨a1, a2, a3⟩ := hall e (List.mem_of_getElem? he)
        have t1' := t1.trans hid_sub
        have m2' := t1' _ _ (hid_sub _ _ m2)
        refine ⟨r, _, rfl, t1'.tup (hid_sub.tup m1), rfl, _, _, rfl, _, _, rfl, rfl, ?_⟩
        have nFd : F ≠ dl := fun zz => by rw [zz] at hF0; rw [hid_sub _ _ m2] at hF0; cases hF0
        refine ⟨_, rfl, _, rfl, _, rfl, _, rfl, _, rfl, dl, _, rfl, .inl (SqL.of m2'), _, _, rfl, rfl, F, dl, _, _, _, _, rfl, rfl, rfl, rfl, t2, m2', nFd, by omega, by omega, ?_, ?_, ?_⟩
        · rw [List.length_map, List.length_map, t3]; omega
        · rw [List.length_map, List.length_map, t3, sizeLine_eq]; omega
        · have e1 : ((e.1 : Nat) : Int).toNat = e.1 := by omega
          have e2 : ((e.1 : Int) + ((e.2.map V.int).length : Int)).toNat = e.1 + e.2.length := by rw [List.length_map]; omega
          refine ⟨_, _, ns.take e.1 ++ e.2 ++ ns.drop (e.1 + e.2.length), rfl, by rw [hid_upd (by simp)]; exact t1, ?_, ?_, ?_⟩
          · rw [upd_same, e1, e2, List.map_append, List.map_append, List.map_take, List.map_drop]
          · rw [List.length_append, List.length_append, List.length_take, List.length_drop]; omega
          · intro b hb
            rcases List.mem_append.mp hb with hb | hb
            · rcases List.mem_append.mp hb with hb | hb
              · exact t4 b (List.mem_of_mem_take hb)
              · exact a3 b hb
            · exact t4 b (List.mem_of_mem_drop hb)
      · rintro σ H' ⟨u, v, ns, rfl, t1, t2, t3, t4⟩
        exact ⟨_, rfl, k F ns H' (t1.trans hid_sub) (SqL.of (hid_at t2 fun zz => by obtain ⟨o, e⟩ := hl0 F zz; rw [hF0] at e; cases e)) ⟨by omega, t4⟩⟩
end K89
set_option Elab.async false
set_option linter.all false
set_option maxRecDepth 100000
set_option maxHeartbeats 4000000
/-! K89.Q11: a step of the tree; the tree of a source. -/
namespace K89
open PySem PySem.Spec PyProof.Rows L2
variable {P : Program} {w : World} {K : PySem.W.Frag} {mg : Str → Option Value} {base : Heap}
theorem TM.put {ν : Nat → Str} {H : Hp} {t at_ fl q : Addr} {T : Hs} {p : Pth} {x : Th} (h : TM K ν H t at_ fl T) (hp : POk p) (hq : SqT K (hid H [at_, fl]) q (thV x)) :
    ∃ kvs, H at_ = some (.dK kvs) ∧ kvs.length = T.L.length ∧ TM K ν (upd H at_ (.dK (putK kvs (.inr (nm ν p)) (.ref q)))) t at_ fl ⟨putp T.L p x, T.F⟩ := by
  obtain ⟨N, key, ne, kvs, fvs, h1, h0, h2, h3, h4, h5⟩ := h
  have e : hid (upd H at_ (.dK (putK kvs (.inr (nm ν p)) (.ref q)))) [at_, fl] = hid H [at_, fl] := hid_upd (by simp)
  exact ⟨kvs, h2, h3.length, N, key_put key hp, ne, _, fvs, by rw [upd_ne h0]; exact h1, h0, upd_same, by rw [e]; exact h3.put N hp key hq, by rw [upd_ne ne.symm]; exact h4, by rw [e]; exact h5⟩
theorem TM.push {ν : Nat → Str} {H : Hp} {t at_ fl : Addr} {T : Hs} {v : V} {f : FD} (h : TM K ν H t at_ fl T) (hv : TFileAt K (hid H [at_, fl]) v f) :
    ∃ fvs, H fl = some (.lst fvs) ∧ fvs.length = T.F.length ∧ TM K ν (upd H fl (.lst (fvs ++ [v]))) t at_ fl ⟨T.L, T.F ++ [f]⟩ := by
  obtain ⟨N, key, ne, kvs, fvs, h1, h0, h2, h3, h4, h5⟩ := h
  have e : hid (upd H fl (.lst (fvs ++ [v]))) [at_, fl] = hid H [at_, fl] := hid_upd (by simp)
  have ntf : t ≠ fl := ne_of h1 h4 (by intro z; cases z)
  exact ⟨fvs, h4, Paired.length h5, N, key, ne, kvs, _, by rw [upd_ne ntf]; exact h1, h0, by rw [upd_ne ne]; exact h2, by rw [e]; exact h3, upd_same, by rw [e]; exact h5.snoc hv⟩
def spStepped (K : PySem.W.Frag) : Sp := fun vs H Q _ => ∃ ν t T v sp, TreeAt K ν H t T ∧ SpecAt K ν H v sp ∧ SpOk sp ∧ word T.L sp = "" ∧ T.L.length ≤ 500 ∧ T.F.length ≤ 500 ∧ vs = [.ref t, v] ∧
  ∀ t' sp2 H', Same H H' → SpOk sp2 → word T.L sp2 = "" → TreeAt K ν H' t' (step T sp2) → Q (.ref t') H'
theorem dec_memS (p : Pay) : decide (V.str (memK p) = V.str (Str.ofString "symlink")) = (match p with | .sym _ => true | _ => false) := by
  cases p with
  | link t => exact (by decide +kernel : decide (V.str (Str.ofString "link") = V.str (Str.ofString "symlink")) = false)
  | file ns => exact (by decide +kernel : decide (V.str (Str.ofString "file") = V.str (Str.ofString "symlink")) = false)
  | dir => exact (by decide +kernel : decide (V.str (Str.ofString "directory") = V.str (Str.ofString "symlink")) = false)
  | sym tg => exact decide_eq_true rfl
  | sparse sz ps => exact (by decide +kernel : decide (V.str (Str.ofString "sparse") = V.str (Str.ofString "symlink")) = false)
theorem g_law_stepped (Tx : Txt P K mg) : Dg P w K mg base "_law_stepped" 2 (spStepped K) := by
  refine Tx.h_law_stepped.mk sc_law_stepped (fun _ _ _ _ _ _ us hl => match us, hl with | [_, _], _ => rfl) (fun vs H Q E h => ?_) (fun f cdv A outer s H vs Q E hr h => ?_)
  · obtain ⟨ν, t, T, v, sp, _, _, _, _, _, _, rfl, _⟩ := h; rfl
  · obtain ⟨ν, t0, T, v, sp, hT, hv, hok, hw, z1, z2, rfl, k⟩ := h
    have N := hT.nn
    refine ⟨_, pss_cons (pset 0 sc_law_stepped.nd (pe_g (g_law_copied Tx) hr (pa_cons (pv 0) pa_nil)))
      (pss_cons (pset 2 sc_law_stepped.nd (pe_dget (room1 hr) (pv 0) pe_str (fun _ _ => rfl)))
        (pss_cons (ps_for PassesOwn.never rfl (pi_list (pe_g (g_law_above Tx) hr (pa_cons (pe_ix ix_seq (pv 1) pe_int (fun _ _ => rfl)) pa_nil))) (pg_name (i := 3) sc_law_stepped.nd rfl (Or.inl rfl))
            (pss_one (ps_expr (pe_dsetd (pv 2) (pv 3) (pe_tup (pa_cons pe_str (pa_cons pe_int (pa_cons pe_int pa_nil)))) ⟨rfl, rfl, rfl, rfl⟩))))
          (pss_cons (ps_if (pt_cmpR op_eq (pe_ix ix_seq (pv 1) pe_int (fun _ _ => rfl)) pe_str rfl) (pss_one (ps_dput (room1 hr) (pv 2) (pe_ix ix_seq (pv 1) pe_int (fun _ _ => rfl)) (pe_dget (room1 hr) (pv 2) (pe_ix ix_seq (pv 1) pe_int (fun _ _ => rfl)) (fun _ _ => rfl)) rfl))
              (pss_one (ps_if (pt_cmpR op_eq (pe_ix ix_seq (pv 1) pe_int (fun _ _ => rfl)) pe_str rfl) (pss_one (ps_dput (room1 hr) (pv 2) (pe_ix ix_seq (pv 1) pe_int (fun _ _ => rfl)) (pe_tup (pa_cons pe_str (pa_cons (pe_ix ix_seq (pv 1) pe_int (fun _ _ => rfl)) (pa_cons (pe_ix ix_seq (pv 1) pe_int (fun _ _ => rfl)) pa_nil)))) rfl))
                (pss_one (ps_if (pt_cmpR op_eq (pe_ix ix_seq (pv 1) pe_int (fun _ _ => rfl)) pe_str rfl) (pss_one (ps_dput (room1 hr) (pv 2) (pe_ix ix_seq (pv 1) pe_int (fun _ _ => rfl)) (pe_tup (pa_cons pe_str (pa_cons (pe_ix ix_seq (pv 1) pe_int (fun _ _ => rfl)) (pa_cons (pe_ix ix_seq (pv 1) pe_int (fun _ _ => rfl)) (pa_cons (pe_ix ix_seq (pv 1) pe_int (fun _ _ => rfl)) pa_nil))))) rfl))
                  (pss_cons (pset 4 sc_law_stepped.nd (pe_dget (room1 hr) (pv 0) pe_str (fun _ _ => rfl)))
                    (pss_cons (papp (pv 4) (pe_tup (pa_cons pe_str (pa_cons (pe_g (g_law_content Tx) hr (pa_cons (pv 1) pa_nil)) (pa_cons (pe_ix ix_seq (pv 1) pe_int (fun _ _ => rfl)) (pa_cons (pe_ix ix_seq (pv 1) pe_int (fun _ _ => rfl)) pa_nil))))))
                      (pss_one (ps_dput (room1 hr) (pv 2) (pe_ix ix_seq (pv 1) pe_int (fun _ _ => rfl)) (pe_tup (pa_cons pe_str (pa_cons (pe_sub (pe_callB call_len_seq (by rfl) Tx.f_len PySem.boot_len (pa_cons (pv 4) pa_nil)) pe_int) pa_nil))) rfl)))))))))
            (pss_one (ps_ret (pv 0)))))), ?_⟩
    refine ⟨_, rfl, ν, t0, T, hT, rfl, fun t at_ fl H1 s1 ha0 hf0 hM => ?_⟩
    have hnew : ∀ b ∈ [at_, fl], H b = none := by
      intro b hb
      simp only [List.mem_cons, List.not_mem_nil, or_false] at hb
      rcases hb with rfl | rfl
      · exact ha0
      · exact hf0
    have sG : Same H (hid H1 [at_, fl]) := hid_in s1 hnew
    have hv1 := hv.mono sG
    obtain ⟨q, rfl, hq1⟩ := hv1
    obtain ⟨rest, h1, r1, r2, r3, r4, r5⟩ := hq1.head
    obtain ⟨_, _, _, _, _, m1, _⟩ := id hM
    refine ⟨_, rfl, t, _, rfl, DGet.of m1 (k := .inr "at") rfl (tD_at _ _), ?_⟩
    refine ⟨_, rfl, .inr (.inl ⟨_, _, _, _, rfl, rfl, hid_sub.tup h1, atI1, ν, sp.name, N, hok.name, rfl, fun l H2 s2 hl0 hl => ?_⟩)⟩
    have hpl := hok.name.le
    have hal : (abv sp.name).length ≤ 3 := by simp [abv]; omega
    have hM2 := hM.mono s2
    have hlm : l ∉ [at_, fl] := fun z => by obtain ⟨o, e⟩ := hM.dom l z; rw [hl0] at e; cases e
    refine ⟨l, rfl, ⟨_, SqL.of hl⟩, ?_⟩
    refine for_it (L2.walk_list (K := K) (a := l) (xs := (abv sp.name).map fun q => V.str (nm ν q)))
      (fun i σ H' => ∃ u L', σ = [some (.ref t), some (.ref q), some (.ref at_), u, none] ∧ Same (hid H2 [at_, fl]) (hid H' [at_, fl]) ∧ TM K ν H' t at_ fl ⟨L', T.F⟩ ∧ mkA L' ((abv sp.name).drop i) = mkA T.L (abv sp.name) ∧ L'.length ≤ T.L.length + i) ?_ ?_ ?_ ?_
    · exact ⟨_, T.L, rfl, Same.refl _, hM2, rfl, Nat.le_refl _⟩
    · rintro i σ H' hi ⟨u, L', rfl, t1, _⟩
      exact SqL.of (hid_sub _ _ (t1 _ _ (hid_at hl hlm)))
    · rintro i x σ H' H'' hi ⟨u, L', rfl, t1, hM3, he, hz⟩ ⟨rfl, hx⟩
      rw [List.length_map] at hi
      rw [List.getElem?_map, List.getElem?_eq_getElem hi] at hx
      have hx := (Option.some.inj hx).symm
      subst hx
      have hpq := abv_ok hok.name (List.getElem_mem hi)
      rw [List.drop_eq_getElem_cons hi, mkA_drop] at he
      obtain ⟨_, _, ne, kvs, fvs, g1, g0, g2, g3, g4, g5⟩ := id hM3
      refine ⟨_, rfl, at_, rfl, .inl ⟨kvs, .inl g2⟩, _, rfl, sizeB' (Nat.le_of_ble_eq_true rfl), fun b hb => ?_⟩
      have hM4 := hM3.mono (same_new (o := .tup [.str "directory", .int 493, .int 0]) hb)
      have fb : SqT K (hid (upd H'' b (.tup [.str "directory", .int 493, .int 0])) [at_, fl]) b (thV (.dir 493 0)) := sqT_fresh hb hM3.dom
      have t2 := t1.trans (hid_new (l := [at_, fl]) (o := .tup [.str "directory", .int 493, .int 0]) hb)
      generalize upd H'' b (.tup [.str "directory", .int 493, .int 0]) = H5 at hM4 fb t2
      obtain ⟨_, _, _, kvs', fvs', y1, y0, y2, y3, y4, y5⟩ := id hM4
      obtain ⟨kvs2, e1, el, hM5⟩ := hM4.put hpq fb
      rw [y2] at e1
      cases e1
      have hiS := (y3.isSome N hpq hM4.key)
      refine ⟨kvs', .inr _, y2, rfl, by rw [el, sizeLine_eq]; show L'.length < _; omega, fun vv hvv => ?_, fun hvv => ?_⟩
      · rw [hvv] at hiS
        rw [← hiS] at he
        exact ⟨_, L', rfl, t2, hM4, he, by omega⟩
      · rw [hvv] at hiS
        rw [← hiS] at he
        refine ⟨_, _, rfl, by rw [hid_upd (by simp)]; exact t2, hM5, he, ?_⟩
        have := length_putp L' (abv sp.name)[i] (.dir 493 0)
        show (putp L' (abv sp.name)[i] (.dir 493 0)).length ≤ _
        split at this <;> omega
    · rintro σ H' ⟨u, L', rfl, t1, hM3, he, hz⟩
      rw [List.length_map, List.drop_length] at he
      have he : L' = mkA T.L (abv sp.name) := he
      subst he
      rw [List.length_map] at hz
      have s3 : Same H H' := (sG.trans ((hid_same s2).trans t1)).trans hid_sub
      have h1' : SqT K (hid H' [at_, fl]) q _ := ((hid_same s2).trans t1).tup h1
      have h1'' := hid_sub.tup h1'
      have hname := hok.name
      have hpay := hok.pay
      have hzz : (mkA T.L (abv sp.name)).length ≤ 600 := by omega
      have fin : ∀ (q' : Addr) (x : Th) (sp2 : Spec) (T2 : Hs) (H6 : Hp), TM K ν H6 t at_ fl T2 → T2.L.length ≤ 600 → SqT K (hid H6 [at_, fl]) q' (thV x) → Same (hid H' [at_, fl]) (hid H6 [at_, fl]) → SqT K H6 q (.str (memK sp.pay) :: .str (nm ν sp.name) :: .int sp.m :: .int sp.t :: rest) → SpOk sp2 → word T.L sp2 = "" → step T sp2 = ⟨putp T2.L sp.name x, T2.F⟩ →
          ∃ kvs, H6 at_ = some (.dK kvs) ∧ kvs.length < sizeLine ∧ Q (.ref t) (upd H6 at_ (.dK (putK kvs (.inr (nm ν sp.name)) (.ref q')))) := by
        intro q' x sp2 T2 H6 hM6 hz6 hq6 t6 _ ok2 w2 e2
        obtain ⟨kvs, e1, el, hM7⟩ := hM6.put hname hq6
        refine ⟨kvs, e1, by rw [el, sizeLine_eq]; omega, k t sp2 _ ?_ ok2 w2 (by rw [e2]; exact hM7.tree)⟩
        exact ((sG.trans ((hid_same s2).trans (t1.trans t6))).trans (by rw [← hid_upd (H := H6) (a := at_) (o := .dK (putK kvs (.inr (nm ν sp.name)) (.ref q'))) (l := [at_, fl]) (by simp)]; exact hid_sub))
      obtain ⟨_, _, ne, kvs, fvs, g1, g0, g2, g3, g4, g5⟩ := id hM3
      obtain ⟨nmp, m, ti, pay⟩ := sp
      refine ⟨_, rfl, .inr (.inl ⟨_, _, _, _, rfl, rfl, h1'', atI0, rfl, _, rfl, ?_⟩)⟩
      rw [dec_link]
      cases pay with
      | link tp =>
        have er := r1 tp rfl
        subst er
        obtain ⟨n, hn⟩ := word_link (sp := ⟨nmp, m, ti, .link tp⟩) rfl hw
        have hn2 : lkp (mkA T.L (abv nmp)) tp = some (.file n) := by rw [lkp_mkA, hn]; rfl
        obtain ⟨q2, e1, e2⟩ := (g3.val N hpay hM3.key).2 _ hn2
        obtain ⟨kvs2, c1, c2, c3⟩ := fin q2 (.file n) ⟨nmp, m, ti, .link tp⟩ _ H' hM3 hzz e2 (Same.refl _) h1'' hok hw (by
          show Hs.mk (putp _ _ ((lkp (mkA T.L (abv nmp)) tp).getD (.file 0))) _ = _
          rw [hn2]; rfl)
        refine iteT ⟨_, rfl, _, rfl, .inr (.inl ⟨_, _, _, _, rfl, rfl, h1'', atI4, at_, _, rfl, DGet.of g2 (k := .inr _) rfl e1, ?_⟩)⟩
        exact ⟨_, rfl, _, rfl, .inr (.inl ⟨_, _, _, _, rfl, rfl, h1'', atI1, _, _, rfl, .inl ⟨kvs2, .inr _, c1, rfl, c2, rfl⟩, _, rfl, c3⟩)⟩
      | dir =>
        refine iteF ⟨_, rfl, .inr (.inl ⟨_, _, _, _, rfl, rfl, h1'', atI0, rfl, _, rfl, ?_⟩)⟩
        rw [dec_isDir]
        refine iteT ⟨_, rfl, .inr (.inl ⟨_, _, _, _, rfl, rfl, h1'', atI2, _, rfl, .inr (.inl ⟨_, _, _, _, rfl, rfl, h1'', atI3, sizeB' (Nat.le_of_ble_eq_true rfl), fun b hb => ?_⟩)⟩)⟩
        obtain ⟨kvs2, c1, c2, c3⟩ := fin b (.dir m ti) ⟨nmp, m, ti, .dir⟩ _ _ (hM3.mono (same_new hb)) hzz (sqT_fresh hb hM3.dom) (hid_new hb) ((same_new hb).tup h1'') hok hw rfl
        exact ⟨_, rfl, _, rfl, .inr (.inl ⟨_, _, _, _, rfl, rfl, (same_new hb).tup h1'', atI1, _, _, rfl, .inl ⟨kvs2, .inr _, c1, rfl, c2, rfl⟩, _, rfl, c3⟩)⟩
      | sym tg =>
        have er := r2 tg rfl
        subst er
        refine iteF ⟨_, rfl, .inr (.inl ⟨_, _, _, _, rfl, rfl, h1'', atI0, rfl, _, rfl, ?_⟩)⟩
        rw [dec_isDir]
        refine iteF ⟨_, rfl, .inr (.inl ⟨_, _, _, _, rfl, rfl, h1'', atI0, rfl, _, rfl, ?_⟩)⟩
        rw [dec_memS]
        refine iteT ⟨_, rfl, .inr (.inl ⟨_, _, _, _, rfl, rfl, h1'', atI4, _, rfl, .inr (.inl ⟨_, _, _, _, rfl, rfl, h1'', atI2, _, rfl, .inr (.inl ⟨_, _, _, _, rfl, rfl, h1'', atI3, sizeB' (Nat.le_of_ble_eq_true rfl), fun b hb => ?_⟩)⟩)⟩)⟩
        obtain ⟨kvs2, c1, c2, c3⟩ := fin b (.sym tg m ti) ⟨nmp, m, ti, .sym tg⟩ _ _ (hM3.mono (same_new hb)) hzz (sqT_fresh hb hM3.dom) (hid_new hb) ((same_new hb).tup h1'') hok hw rfl
        exact ⟨_, rfl, _, rfl, .inr (.inl ⟨_, _, _, _, rfl, rfl, (same_new hb).tup h1'', atI1, _, _, rfl, .inl ⟨kvs2, .inr _, c1, rfl, c2, rfl⟩, _, rfl, c3⟩)⟩
      | file ns0 => 
        refine iteF ⟨_, rfl, .inr (.inl ⟨_, _, _, _, rfl, rfl, h1'', atI0, rfl, _, rfl, ?_⟩)⟩
        rw [dec_isDir]
        refine iteF ⟨_, rfl, .inr (.inl ⟨_, _, _, _, rfl, rfl, h1'', atI0, rfl, _, rfl, ?_⟩)⟩
        rw [dec_memS]
        refine iteF ⟨_, rfl, t, _, rfl, DGet.of g1 (k := .inr "files") rfl (tD_fl _ _), ?_⟩
        refine ⟨_, rfl, .inl ⟨rfl, _, SqL.of g4⟩, _, rfl, ν, _, ⟨nmp, m, ti, .file ns0⟩, [at_, fl], hM3.dom, ⟨q, rfl, (hq1.mono ((hid_same s2).trans t1))⟩, hok, rfl, rfl, fun lc ns H6 s6 hlc hb6 => ?_⟩
        have w2 : word T.L ⟨nmp, m, ti, .file ns⟩ = "" := hw
        refine ⟨_, rfl, .inr (.inl ⟨_, _, _, _, rfl, rfl, s6.tup h1'', atI2, _, rfl, .inr (.inl ⟨_, _, _, _, rfl, rfl, s6.tup h1'', atI3, sizeB' (Nat.le_of_ble_eq_true rfl), fun b hb => ?_⟩)⟩)⟩
        have hM6 := (hM3.mono s6).mono (same_new (o := .tup [.str "file", .ref lc, .int m, .int ti]) hb)
        have hTF : TFileAt K (hid (upd H6 b (.tup [.str "file", .ref lc, .int m, .int ti])) [at_, fl]) (.ref b) ⟨bA ns, m, ti⟩ := ⟨b, lc, ns, rfl, sqT_fresh hb (hM3.mono s6).dom, (hid_new hb).seq hlc, hb6, rfl, hok.m, hok.t⟩
        have t7 := (hid_same (l := [at_, fl]) s6).trans (hid_new (o := .tup [.str "file", .ref lc, .int m, .int ti]) hb)
        have h7 := (same_new (o := .tup [.str "file", .ref lc, .int m, .int ti]) hb).tup (s6.tup h1'')
        generalize upd H6 b (.tup [.str "file", .ref lc, .int m, .int ti]) = H7 at hM6 hTF t7 h7
        obtain ⟨fvs7, f1, f2, hM7⟩ := hM6.push hTF
        refine ⟨fl, fvs7, _, rfl, rfl, f1, by rw [f2, sizeLine_eq]; show T.F.length < _; omega, ?_⟩
        have t8 : Same (hid H' [at_, fl]) (hid (upd H7 fl (.lst (fvs7 ++ [.ref b]))) [at_, fl]) := by rw [hid_upd (by simp)]; exact t7
        have e8 : upd H7 fl (.lst (fvs7 ++ [.ref b])) fl = some (.lst (fvs7 ++ [.ref b])) := upd_same
        have h8 : SqT K (upd H7 fl (.lst (fvs7 ++ [.ref b]))) q _ := hid_sub.tup (t8.tup h1')
        have el : ((fvs7 ++ [V.ref b]).length : Int) - 1 = (T.F.length : Int) := by rw [List.length_append, f2]; show ((T.F.length + 1 : Nat) : Int) - 1 = _; omega
        generalize upd H7 fl (.lst (fvs7 ++ [.ref b])) = H8 at hM7 t8 e8 h8
        refine ⟨_, rfl, fl, _, rfl, .inl (SqL.of e8), _, _, rfl, rfl, sizeB' (Nat.le_of_ble_eq_true rfl), fun b2 hb2 => ?_⟩
        rw [el]
        obtain ⟨kvs2, c1, c2, c3⟩ := fin b2 (.file T.F.length) ⟨nmp, m, ti, .file ns⟩ _ _ (hM7.mono (same_new hb2)) hzz (sqT_fresh hb2 hM7.dom) (t8.trans (hid_new hb2)) ((same_new hb2).tup h8) ⟨hname, hok.m, hok.t, hb6⟩ w2 rfl
        exact ⟨_, rfl, _, rfl, .inr (.inl ⟨_, _, _, _, rfl, rfl, (same_new hb2).tup h8, atI1, _, _, rfl, .inl ⟨kvs2, .inr _, c1, rfl, c2, rfl⟩, _, rfl, c3⟩)⟩
      | sparse sz ps =>
        refine iteF ⟨_, rfl, .inr (.inl ⟨_, _, _, _, rfl, rfl, h1'', atI0, rfl, _, rfl, ?_⟩)⟩
        rw [dec_isDir]
        refine iteF ⟨_, rfl, .inr (.inl ⟨_, _, _, _, rfl, rfl, h1'', atI0, rfl, _, rfl, ?_⟩)⟩
        rw [dec_memS]
        refine iteF ⟨_, rfl, t, _, rfl, DGet.of g1 (k := .inr "files") rfl (tD_fl _ _), ?_⟩
        refine ⟨_, rfl, .inl ⟨rfl, _, SqL.of g4⟩, _, rfl, ν, _, ⟨nmp, m, ti, .sparse sz ps⟩, [at_, fl], hM3.dom, ⟨q, rfl, (hq1.mono ((hid_same s2).trans t1))⟩, hok, rfl, rfl, fun lc ns H6 s6 hlc hb6 => ?_⟩
        have w2 : word T.L ⟨nmp, m, ti, .file ns⟩ = "" := hw
        refine ⟨_, rfl, .inr (.inl ⟨_, _, _, _, rfl, rfl, s6.tup h1'', atI2, _, rfl, .inr (.inl ⟨_, _, _, _, rfl, rfl, s6.tup h1'', atI3, sizeB' (Nat.le_of_ble_eq_true rfl), fun b hb => ?_⟩)⟩)⟩
        have hM6 := (hM3.mono s6).mono (same_new (o := .tup [.str "file", .ref lc, .int m, .int ti]) hb)
        have hTF : TFileAt K (hid (upd H6 b (.tup [.str "file", .ref lc, .int m, .int ti])) [at_, fl]) (.ref b) ⟨bA ns, m, ti⟩ := ⟨b, lc, ns, rfl, sqT_fresh hb (hM3.mono s6).dom, (hid_new hb).seq hlc, hb6, rfl, hok.m, hok.t⟩
        have t7 := (hid_same (l := [at_, fl]) s6).trans (hid_new (o := .tup [.str "file", .ref lc, .int m, .int ti]) hb)
        have h7 := (same_new (o := .tup [.str "file", .ref lc, .int m, .int ti]) hb).tup (s6.tup h1'')
        generalize upd H6 b (.tup [.str "file", .ref lc, .int m, .int ti]) = H7 at hM6 hTF t7 h7
        obtain ⟨fvs7, f1, f2, hM7⟩ := hM6.push hTF
        refine ⟨fl, fvs7, _, rfl, rfl, f1, by rw [f2, sizeLine_eq]; show T.F.length < _; omega, ?_⟩
        have t8 : Same (hid H' [at_, fl]) (hid (upd H7 fl (.lst (fvs7 ++ [.ref b]))) [at_, fl]) := by rw [hid_upd (by simp)]; exact t7
        have e8 : upd H7 fl (.lst (fvs7 ++ [.ref b])) fl = some (.lst (fvs7 ++ [.ref b])) := upd_same
        have h8 : SqT K (upd H7 fl (.lst (fvs7 ++ [.ref b]))) q _ := hid_sub.tup (t8.tup h1')
        have el : ((fvs7 ++ [V.ref b]).length : Int) - 1 = (T.F.length : Int) := by rw [List.length_append, f2]; show ((T.F.length + 1 : Nat) : Int) - 1 = _; omega
        generalize upd H7 fl (.lst (fvs7 ++ [.ref b])) = H8 at hM7 t8 e8 h8
        refine ⟨_, rfl, fl, _, rfl, .inl (SqL.of e8), _, _, rfl, rfl, sizeB' (Nat.le_of_ble_eq_true rfl), fun b2 hb2 => ?_⟩
        rw [el]
        obtain ⟨kvs2, c1, c2, c3⟩ := fin b2 (.file T.F.length) ⟨nmp, m, ti, .file ns⟩ _ _ (hM7.mono (same_new hb2)) hzz (sqT_fresh hb2 hM7.dom) (t8.trans (hid_new hb2)) ((same_new hb2).tup h8) ⟨hname, hok.m, hok.t, hb6⟩ w2 rfl
        exact ⟨_, rfl, _, rfl, .inr (.inl ⟨_, _, _, _, rfl, rfl, (same_new hb2).tup h8, atI1, _, _, rfl, .inl ⟨kvs2, .inr _, c1, rfl, c2, rfl⟩, _, rfl, c3⟩)⟩
end K89
set_option Elab.async false
set_option linter.all false
set_option maxRecDepth 100000
set_option maxHeartbeats 4000000
/-! K89.Q12: the tree of a source; other names. -/
namespace K89
open PySem PySem.Spec PyProof.Rows L2
variable {P : Program} {w : World} {K : PySem.W.Frag} {mg : Str → Option Value} {base : Heap}
theorem Drew.same' {a : Addr} {k : Nat} {H H1 H2 : Hp} (D : Drew a k H H1) (s : Same H1 H2) : Drew a k H H2 := ⟨D.same.trans (hid_same s), D.src.mono s⟩
def spTreeOf (K : PySem.W.Frag) : Sp := fun vs H Q _ => ∃ (a : Addr) (n : Nat), SrcAt H a n ∧ n ≤ 700000 ∧ vs = [.ref a, .int 6] ∧ ∀ t T H', WF T → T.L.length ≤ 30 → T.F.length ≤ 10 → TreeAt K wd H' t T → Drew a (n + 20000) H H' → Q (.ref t) H'
theorem g_law_tree_of (Tx : Txt P K mg) : Dg P w K mg base "_law_tree_of" 5 (spTreeOf K) := by
  refine Tx.h_law_tree_of.mk sc_law_tree_of (fun _ _ _ _ _ _ us hl => match us, hl with | [_, _], _ => rfl) (fun vs H Q E h => ?_) (fun f cdv A outer s H vs Q E hr h => ?_)
  · obtain ⟨a, n, _, _, rfl, _⟩ := h; rfl
  · obtain ⟨a, n, hs, hn, rfl, k⟩ := h
    refine ⟨_, pss_cons (pset 2 sc_law_tree_of.nd (pe_g0 (g_law_tree Tx) hr))
      (pss_cons (ps_for PassesOwn.never rfl (pi_list (pe_g (g_law_specs Tx) hr (pa_cons (pv 0) (pa_cons (pv 1) pa_nil)))) (pg_name (i := 3) sc_law_tree_of.nd rfl (Or.inl rfl))
          (pss_one (pset 2 sc_law_tree_of.nd (pe_ifExp (pt_cmpR op_eq (pe_g (g_law_word Tx) hr (pa_cons (pv 2) (pa_cons (pv 3) pa_nil))) pe_str rfl) (pe_g (g_law_stepped Tx) hr (pa_cons (pv 2) (pa_cons (pv 3) pa_nil))) (pv 2)))))
        (pss_one (ps_ret (pv 2)))), ?_⟩
    refine ⟨rfl, fun t H1 s1 hT => ?_⟩
    refine ⟨_, rfl, _, rfl, a, n, 6, hs.mono s1, hn, by decide, by decide, rfl, fun l svs sps H2 hl0 hl hsv hok hlen D2 => ?_⟩
    have D2' : Drew a (n + 20000) H H2 := ⟨(hid_same s1).trans D2.same, D2.src⟩
    have hdom1 : ∃ o, H1 a = some o ∧ plainO o = true := (hs.mono s1).dom
    have hT2 : TreeAt K wd H2 t ⟨[], []⟩ := by
      obtain ⟨N, key, at_, fl, kvs, fvs, g1, g0, g2, g3, g4, g5⟩ := hT
      have na : ∀ {b o}, H1 b = some o → (∀ g m t : Int, o ≠ .lst [.int g, .int m, .int t]) → H2 b = some o := fun {b o} hb hno => D2.at hb fun z => by
        obtain ⟨g, m, t, e, _⟩ := hs.mono s1
        rw [z, e] at hb
        exact hno g m t (Option.some.inj hb).symm
      cases g3
      cases g5
      exact ⟨N, key, at_, fl, [], [], na g1 (fun _ _ _ z => by cases z), g0, na g2 (fun _ _ _ z => by cases z), .nil, na g4 (fun _ _ _ z => by cases z), .nil⟩
    have hlen2 := Paired.length hsv
    refine ⟨l, rfl, ⟨_, SqL.of hl⟩, ?_⟩
    refine for_it (L2.walk_list (K := K) (a := l) (xs := svs)) (fun i σ H' => ∃ t' T' u, σ = [some (.ref a), some (.int 6), some (.ref t'), u] ∧ Same H2 H' ∧ TreeAt K wd H' t' T' ∧ WF T' ∧ T'.L.length ≤ 4 * i ∧ T'.F.length ≤ i) ?_ ?_ ?_ ?_
    · exact ⟨t, ⟨[], []⟩, _, rfl, Same.refl _, hT2, ⟨by simp, fun p hp => (by cases hp), fun p x h => (by cases h), fun p x h => (by cases h)⟩, Nat.zero_le _, Nat.zero_le _⟩
    · rintro i σ H' hi ⟨t', T', u, rfl, s3, _⟩
      exact SqL.of (s3 _ _ hl)
    · rintro i x σ H' H'' hi ⟨t', T', u, rfl, s3, hT', W', z1, z2⟩ ⟨rfl, hx⟩
      obtain ⟨sp, he, hv⟩ := L2.paired_get hsv hx
      have hsp := hok sp (List.mem_of_getElem? he)
      have hv' : SpecAt K wd H'' x sp := hv.mono (fr_sub0.trans s3)
      refine ⟨_, rfl, _, rfl, wd, t', T', x, sp, hT', hv', hsp, rfl, fun H4 s4 => ⟨rfl, _, rfl, ?_⟩⟩
      by_cases hw : word T'.L sp = ""
      · rw [decide_eq_true (show V.str (word T'.L sp) = V.str (Str.ofString "") by rw [hw])]
        refine iteT ⟨_, rfl, _, rfl, wd, t', T', x, sp, hT'.mono s4, hv'.mono s4, hsp, hw, by omega, by omega, rfl, fun t2 sp2 H5 s5 ok2 w2 hT5 => ?_⟩
        have l1 := length_step T' sp2 ok2.name
        have l2 := length_stepF T' sp2
        exact ⟨t2, step T' sp2, _, rfl, s3.trans (s4.trans s5), hT5, W'.step ok2 w2, by omega, by omega⟩
      · rw [decide_eq_false (show ¬ V.str (word T'.L sp) = V.str (Str.ofString "") from fun z => hw (V.str.inj z))]
        exact iteF ⟨_, rfl, t', T', _, rfl, s3.trans s4, hT'.mono s4, W', by omega, by omega⟩
    · rintro σ H' ⟨t', T', u, rfl, s3, hT', W', z1, z2⟩
      exact ⟨_, rfl, k t' T' H' W' (by omega) (by omega) hT' (D2'.same' s3)⟩
/-! ### other names -/
def LedAt (H : Hp) (ld : Addr) (ν : Nat → Str) : Prop := ∃ kvs, H ld = some (.dK kvs) ∧ ∀ i, i < 7 → valV kvs (.inr (wd i)) = some (.str (ν i))
theorem LedAt.mono {H H' : Hp} {ld : Addr} {ν : Nat → Str} (h : LedAt H ld ν) (s : Same H H') : LedAt H' ld ν := by
  obtain ⟨kvs, h1, h2⟩ := h
  exact ⟨kvs, s _ _ h1, h2⟩
def spLed : Sp := fun vs H Q _ => ∃ ν ld p, Nm ν ∧ LedAt H ld ν ∧ POk p ∧ vs = [.ref ld, .str (nm wd p)] ∧ ∀ H', Same H H' → Q (.str (nm ν p)) H'
theorem g_law_led (T : Txt P K mg) : Dg P w K mg base "_law_led" 1 spLed := by
  refine T.h_law_led.mk sc_law_led (fun _ _ _ _ _ _ us hl => match us, hl with | [_, _], _ => rfl) (fun vs H Q E h => ?_) (fun f cdv A outer s H vs Q E hr h => ?_)
  · obtain ⟨ν, ld, p, _, _, _, rfl, _⟩ := h; rfl
  · obtain ⟨ν, ld, p, N, ⟨kvs, h1, h2⟩, hp, rfl, k⟩ := h
    have hl : (nm wd p).length ≤ 250 := wd_nm.len p hp
    refine ⟨_, pss_one (ps_ret (pe_join pe_str (pe_lc (own := [("_law_part", 2)]) (g := gName 2) (tt := tYes) rfl sc_law_led.nd (pi_list (pe_split (pv 1) pe_str)) (blkOk_by (N := N_law_led) (sc := defScope s_law_led) (by decide +kernel))
        (fun _ _ _ _ _ => pg_name (i := 2) sc_law_led.nd rfl (Or.inl rfl)) (fun _ _ _ _ _ => pts_nil) (fun _ _ _ _ _ => pe_dget (room1 hr) (pv 0) (pv 2) noSl_name)))), ?_⟩
    refine ⟨⟨_, rfl⟩, _, rfl, ⟨_, rfl⟩, _, _, rfl, rfl, by decide +kernel, by rw [sizeLine_eq]; omega, fun a ha => ?_⟩
    rw [slash_eq, nm_split wd_nm hp]
    refine ⟨a, rfl, ⟨_, SqL.of upd_same⟩, fun D hD => ?_⟩
    have hpl := hp.le
    refine lc_pure (L2.walk_list (K := K) (a := a) (xs := (p.map wd).map V.str)) ((p.map ν).map V.str) (by simp) (sizeB (by simp; omega)) hD (fun H2 s2 => s2.seq (SqL.of upd_same)) (fun i x H2 H' Pz hi s2 y hP => ?_) fun H2 s2 hL2 => ?_
    · obtain ⟨rfl, hx⟩ := y
      rw [List.length_map, List.length_map] at hi
      rw [List.getElem?_map, List.getElem?_map, List.getElem?_eq_getElem hi] at hx
      have hx := (Option.some.inj hx).symm
      subst hx
      refine ⟨rfl, _, rfl, _, rfl, ld, _, rfl, DGet.of (s2 _ _ (same_new ha _ _ h1)) (k := .inr _) rfl (h2 _ (hp.lt _ (List.getElem_mem hi))), hP _ _ (Same.refl _) ?_⟩
      rw [List.getElem?_map, List.getElem?_map, List.getElem?_eq_getElem hi]
      rfl
    · refine ⟨_, D, p.map ν, rfl, rfl, .inl (SqL.of hL2), wds_sum N hp, ?_⟩
      rw [TL.join_eq]
      exact k H2 ((same_new ha).trans s2)
end K89
set_option Elab.async false
set_option linter.all false
set_option maxRecDepth 100000
set_option maxHeartbeats 4000000
/-! K89.Q13: the other names. -/
namespace K89
open PySem PySem.Spec PyProof.Rows L2
variable {P : Program} {w : World} {K : PySem.W.Frag} {mg : Str → Option Value} {base : Heap}
theorem leds_nodup : leds.Nodup := by decide +kernel
def partsV : List V := [.str "a", .str "b", .str "c", .str "a.b", .str "..c", .str "d-1", .str (repS (Str.ofString "q") 101)]
theorem parts_get {i : Nat} (h : i < 7) : partsV[i]? = some (.str (wd i)) := by
  have : i = 0 ∨ i = 1 ∨ i = 2 ∨ i = 3 ∨ i = 4 ∨ i = 5 ∨ i = 6 := by omega
  rcases this with rfl | rfl | rfl | rfl | rfl | rfl | rfl
  · rfl
  · rfl
  · rfl
  · rfl
  · rfl
  · rfl
  · show some (V.str (repS (Str.ofString "q") 101)) = _
    rw [wd6]
theorem p60 : repS (Str.ofString "p") 60 = ⟨Array.replicate 60 112⟩ := by decide +kernel
theorem erase_map {α β : Type} {f : α → β} : ∀ (d : Nat) (l : List α), (l.map f).eraseIdx d = (l.eraseIdx d).map f
  | _, [] => rfl
  | 0, x :: r => rfl
  | d + 1, x :: r => by
    show f x :: (r.map f).eraseIdx d = _
    rw [erase_map d r]; rfl
theorem erase_perm {α : Type} : ∀ {l : List α} {d : Nat} {x : α}, l[d]? = some x → (x :: l.eraseIdx d).Perm l
  | [], d, x, h => by simp at h
  | y :: r, 0, x, h => by cases h; exact .refl _
  | y :: r, d + 1, x, h => (List.Perm.swap y x (r.eraseIdx d)).trans ((erase_perm (l := r) h).cons y)
theorem nd_inj {α : Type} : ∀ {l : List α} {i j : Nat} {x : α}, l.Nodup → l[i]? = some x → l[j]? = some x → i = j
  | [], _, _, _, _, h, _ => by simp at h
  | y :: r, 0, 0, _, _, _, _ => rfl
  | y :: r, 0, j + 1, x, hn, h1, h2 => by
    rw [List.nodup_cons] at hn
    cases h1
    exact absurd (List.mem_of_getElem? (show r[j]? = some _ from h2)) hn.1
  | y :: r, i + 1, 0, x, hn, h1, h2 => by
    rw [List.nodup_cons] at hn
    cases h2
    exact absurd (List.mem_of_getElem? (show r[i]? = some _ from h1)) hn.1
  | y :: r, i + 1, j + 1, x, hn, h1, h2 => by
    rw [List.nodup_cons] at hn
    rw [nd_inj (l := r) hn.2 h1 h2]
theorem led_of {f ls : List Str} (hp : (f ++ ls).Perm leds) (hl : f.length = 7) : Nm (fun i => f[i]?.getD "") := by
  have hnd : (f ++ ls).Nodup := hp.nodup_iff.mpr leds_nodup
  have hf : f.Nodup := (List.nodup_append.mp hnd).1
  refine led_nm (fun i j hi hj e => ?_) fun i hi => ?_
  · have hi' : i < f.length := by omega
    have hj' : j < f.length := by omega
    rw [List.getElem?_eq_getElem hi', List.getElem?_eq_getElem hj'] at e
    have e : f[i]'hi' = f[j]'hj' := e
    exact nd_inj hf (List.getElem?_eq_getElem hi') (by rw [e]; exact List.getElem?_eq_getElem hj')
  · have hi' : i < f.length := by omega
    rw [List.getElem?_eq_getElem hi']
    exact hp.mem_iff.mp (List.mem_append.mpr (.inl (List.getElem_mem hi')))
def spNamesOf (K : PySem.W.Frag) : Sp := fun vs H Q _ => ∃ (a : Addr) (n : Nat), SrcAt H a n ∧ n ≤ 700000 ∧ vs = [.ref a] ∧ ∀ ld ν H', Nm ν → LedAt H' ld ν → ld ≠ a → Drew a (n + 7) H H' → Q (.ref ld) H'
theorem g_law_names_of (T : Txt P K mg) : Dg P w K mg base "_law_names_of" 2 (spNamesOf K) := by
  refine T.h_law_names_of.mk sc_law_names_of (fun _ _ _ _ _ _ us hl => match us, hl with | [_], _ => rfl) (fun vs H Q E h => ?_) (fun f cdv A outer s H vs Q E hr h => ?_)
  · obtain ⟨a, n, _, _, rfl, _⟩ := h; rfl
  · obtain ⟨a, n, hs, hn, rfl, k⟩ := h
    refine ⟨_, pss_cons (ps_par (i := 1) (j := 2) rfl sc_law_names_of.nd rfl rfl (by decide) rfl rfl (pa_cons (pe_lst (pa_cons pe_str (pa_cons pe_str (pa_cons pe_str (pa_cons pe_str (pa_cons pe_str (pa_cons pe_str (pa_cons (pe_op op_repS pe_str pe_int) (pa_cons pe_str pa_nil))))))))) (pa_cons pe_dnewK pa_nil)) rfl)
      (pss_cons (ps_for PassesOwn.never rfl (pi_list (pe_lst (pa_cons pe_str (pa_cons pe_str (pa_cons pe_str (pa_cons pe_str (pa_cons pe_str (pa_cons pe_str (pa_cons (pe_op op_repS pe_str pe_int) pa_nil))))))))) (pg_name (i := 3) sc_law_names_of.nd rfl (Or.inl rfl))
          (pss_one (ps_dput (room1 hr) (pv 2) (pv 3) (pe_bm PySem.F.plainAttrs_list PySem.F.slot_list_pop PySem.F.type_list_pop mt_popAt (pv 1) (pa_cons (pe_g (g_law_draw T) hr (pa_cons (pv 0) (pa_cons (pe_callB call_len_seq (by rfl) T.f_len PySem.boot_len (pa_cons (pv 1) pa_nil)) pa_nil))) pa_nil)) rfl)))
        (pss_one (ps_ret (pv 2)))), ?_⟩
    refine ⟨_, 60, rfl, rfl, by decide, by decide, by decide +kernel, sizeB' (Nat.le_of_ble_eq_true rfl), fun le hle => ?_⟩
    have hle0 := hle
    have D1 : Drew a n H (upd H le (.lst (leds.map V.str))) := ⟨hid_new hle, src_new hs hle⟩
    have e1 : ([.str "c", .str "b", .str "zz", .str "a", .str "x..", .str "-", .str (repS (Str.ofString "p") 60), .str "0"] : List V) = leds.map V.str := by rw [p60]; rfl
    show ∀ p, upd H le (.lst [.str "c", .str "b", .str "zz", .str "a", .str "x..", .str "-", .str (repS (Str.ofString "p") 60), .str "0"]) p = none → _
    rw [e1]
    intro ld hld
    have nlea := hs.ne hle
    have nld : ld ≠ a := D1.src.ne hld
    have nll : le ≠ ld := ne_of_none upd_same hld
    have hld0 : H ld = none := none_of D1 hld
    have D2 := D1.new (o := .dK []) hld
    have g1 : upd (upd H le (.lst (leds.map V.str))) ld (.dK []) le = some (.lst (leds.map V.str)) := same_new hld _ _ upd_same
    have g2 : upd (upd H le (.lst (leds.map V.str))) ld (.dK []) ld = some (.dK []) := upd_same
    refine ⟨_, _, rfl, ?_⟩
    generalize upd (upd H le (.lst (leds.map V.str))) ld (.dK []) = H2 at D2 g1 g2
    refine ⟨_, 101, rfl, rfl, by decide, by decide, by decide +kernel, sizeB' (Nat.le_of_ble_eq_true rfl), fun pa hpa => ?_⟩
    have npa := D2.src.ne hpa
    have D3 := D2.new (o := .lst partsV) hpa
    have e3 : upd H2 pa (.lst partsV) pa = some (.lst partsV) := upd_same
    have npl := ne_of_none g1 hpa
    have npd := ne_of_none g2 hpa
    have g1 := same_new (o := .lst partsV) hpa _ _ g1
    have g2 := same_new (o := .lst partsV) hpa _ _ g2
    have hpa0 : H pa = none := none_of D2 hpa
    refine ⟨pa, rfl, ⟨partsV, SqL.of e3⟩, ?_⟩
    refine for_it (L2.walk_list (K := K) (a := pa) (xs := partsV)) (fun i σ H' => ∃ (u : Option V) (fs ls : List Str) (kvs : List (Key × V)), σ = [some (.ref a), some (.ref le), some (.ref ld), u] ∧ Drew a (n + i) H H' ∧ H' pa = some (.lst partsV) ∧ H' le = some (.lst (ls.map V.str)) ∧ H' ld = some (.dK kvs) ∧
      (fs ++ ls).Perm leds ∧ fs.length = i ∧ kvs.length ≤ i ∧ ∀ j, j < 7 → valV kvs (.inr (wd j)) = (fs[j]?).map V.str) ?_ ?_ ?_ ?_
    · exact ⟨_, [], leds, [], rfl, D3, e3, g1, g2, .refl _, rfl, Nat.le_refl _, fun j _ => rfl⟩
    · rintro i σ H' hi ⟨u, fs, ls, kvs, rfl, _, h1, _⟩
      exact SqL.of h1
    · rintro i x σ H' H'' hi ⟨u, fs, ls, kvs, rfl, D4, h1, h2, h3, h4, h5, h6, h7⟩ ⟨rfl, hx⟩
      have hi : i < 7 := hi
      rw [parts_get hi] at hx
      cases hx
      have hll : ls.length = 8 - i := by
        have := h4.length_eq
        rw [List.length_append] at this
        have e8 : leds.length = 8 := rfl
        omega
      refine ⟨_, rfl, .inl ⟨rfl, _, SqL.of h2⟩, _, rfl, _, rfl, le, _, rfl, .inl (SqL.of h2), a, n + i, _, D4.src, by omega, by rw [List.length_map]; omega, by rw [List.length_map]; omega, rfl, fun d H5 d0 d1 hs5 t5 => ?_⟩
      obtain ⟨d, rfl⟩ : ∃ j : Nat, d = (j : Int) := ⟨d.toNat, by omega⟩
      rw [List.length_map] at d1
      have hd : d < ls.length := by omega
      have D5 : Drew a (n + i + 1) H'' H5 := ⟨t5, hs5⟩
      have h1' := D5.at h1 npa
      have h2' := D5.at h2 nlea
      have h3' := D5.at h3 nld
      refine ⟨le, _, (d : Int), d, .str ls[d], rfl, rfl, h2', by omega, by omega, ?_, ?_, ?_⟩
      · unfold seqIndex?
        rw [List.length_map]
        have e1 : ¬ ((d : Int) < 0) := by omega
        simp only [e1, if_false]
        have e2 : (decide ((0 : Int) ≤ (d : Int)) && decide ((d : Int) < (ls.length : Int))) = true := by simp; omega
        rw [if_pos e2]
        simp
      · rw [List.getElem?_map, List.getElem?_eq_getElem hd]; rfl
      · have er : (ls.map V.str).eraseIdx d = (ls.eraseIdx d).map V.str := by
          exact erase_map d ls
        rw [er]
        have h3'' : upd H5 le (.lst ((ls.eraseIdx d).map V.str)) ld = some (.dK kvs) := by rw [upd_ne nll.symm]; exact h3'
        refine ⟨_, rfl, _, rfl, ld, _, rfl, .inl ⟨kvs, .inr (wd i), h3'', rfl, by rw [sizeLine_eq]; omega, rfl⟩, ?_⟩
        have Df := ((D4.trans D5).upd (o := .lst ((ls.eraseIdx d).map V.str)) hle0 nlea).upd (o := .dK (putK kvs (.inr (wd i)) (.str ls[d]))) hld0 nld
        refine ⟨_, fs ++ [ls[d]], ls.eraseIdx d, _, rfl, Df, ?_, ?_, upd_same, ?_, by simp [h5], ?_, fun j hj => ?_⟩
        · rw [upd_ne npd.symm, upd_ne npl.symm]; exact h1'
        · rw [upd_ne nll, upd_same]
        · have p1 : (ls[d] :: ls.eraseIdx d).Perm ls := erase_perm (List.getElem?_eq_getElem hd)
          rw [List.append_assoc]
          exact (List.Perm.append_left fs p1).trans h4
        · have := length_putK kvs (.inr (wd i)) (.str ls[d]); omega
        · rw [valV_put]
          by_cases e : j = i
          · subst e
            rw [if_pos rfl, List.getElem?_append_right (by omega), h5, Nat.sub_self]; rfl
          · have ne : ¬ (Sum.inr (wd j) : Key) = .inr (wd i) := fun z => e (wd_nm.inj j i hj hi (Sum.inr.inj z))
            rw [if_neg ne, h7 j hj]
            by_cases c : j < fs.length
            · rw [List.getElem?_append_left c]
            · rw [List.getElem?_eq_none (by omega), List.getElem?_eq_none (by simp; omega)]
    · rintro σ H' ⟨u, fs, ls, kvs, rfl, D4, h1, h2, h3, h4, h5, h6, h7⟩
      have h5 : fs.length = 7 := h5
      refine ⟨_, rfl, k ld (fun i => fs[i]?.getD "") H' (led_of h4 h5) ⟨kvs, h3, fun i hi => ?_⟩ nld D4⟩
      have hi' : i < fs.length := by omega
      show _ = some (V.str ((fs[i]?).getD ""))
      rw [h7 i hi, List.getElem?_eq_getElem hi']
      rfl
end K89
set_option Elab.async false
set_option linter.all false
set_option maxRecDepth 100000
set_option maxHeartbeats 4000000
/-! K89.Q14: specs of the other names. -/
namespace K89
open PySem PySem.Spec PyProof.Rows L2
variable {P : Program} {w : World} {K : PySem.W.Frag} {mg : Str → Option Value} {base : Heap}
/-- what stands behind the four common fields -/
def RestOk (K : PySem.W.Frag) (ν : Nat → Str) (H : Hp) (pay : Pay) (rest : List V) : Prop := match pay with
  | .file ns => ∃ l, rest = [.ref l] ∧ SqL K H l (ns.map V.int)
  | .dir => rest = []
  | .sym tg => rest = [.str tg]
  | .link tp => rest = [.str (nm ν tp)]
  | .sparse sz ps => ∃ l, rest = [.ref l] ∧ SpL K H l sz ps
theorem SpecT.rest {ν : Nat → Str} {H : Hp} {q : Addr} {sp : Spec} (h : SpecT K ν H q sp) : ∃ rest, SqT K H q (.str (memK sp.pay) :: .str (nm ν sp.name) :: .int sp.m :: .int sp.t :: rest) ∧ RestOk K ν H sp.pay rest := by
  obtain ⟨n, m, t, pay⟩ := sp
  cases pay with
  | file ns => obtain ⟨l, h1, h2⟩ := h; exact ⟨_, h1, l, rfl, h2⟩
  | dir => exact ⟨_, h, rfl⟩
  | sym tg => exact ⟨_, h, rfl⟩
  | link tp => exact ⟨_, h, rfl⟩
  | sparse sz ps => obtain ⟨l, h1, h2⟩ := h; exact ⟨_, h1, l, rfl, h2⟩
theorem SpecT.mk' {ν : Nat → Str} {H : Hp} {q : Addr} {sp : Spec} {rest : List V} (h : SqT K H q (.str (memK sp.pay) :: .str (nm ν sp.name) :: .int sp.m :: .int sp.t :: rest)) (hr : RestOk K ν H sp.pay rest) : SpecT K ν H q sp := by
  obtain ⟨n, m, t, pay⟩ := sp
  cases pay with
  | file ns => obtain ⟨l, rfl, h2⟩ := hr; exact ⟨l, h, h2⟩
  | dir => obtain rfl : rest = [] := hr; exact h
  | sym tg => obtain rfl : rest = [.str tg] := hr; exact h
  | link tp => obtain rfl : rest = [.str (nm ν tp)] := hr; exact h
  | sparse sz ps => obtain ⟨l, rfl, h2⟩ := hr; exact ⟨l, h, h2⟩
theorem RestOk.mono {ν : Nat → Str} {H H' : Hp} {pay : Pay} {rest : List V} (h : RestOk K ν H pay rest) (s : Same H H') : RestOk K ν H' pay rest := by
  cases pay with
  | file ns => obtain ⟨l, h1, h2⟩ := h; exact ⟨l, h1, s.seq h2⟩
  | dir => exact h
  | sym tg => exact h
  | link tp => exact h
  | sparse sz ps => obtain ⟨l, h1, h2⟩ := h; exact ⟨l, h1, h2.mono s⟩
theorem RestOk.led {ν μ : Nat → Str} {H : Hp} {pay : Pay} {rest : List V} (h : RestOk K ν H pay rest) (hl : isLnk pay = false) : RestOk K μ H pay rest := by
  cases pay with
  | link tp => cases hl
  | _ => exact h
theorem cut4 {x y z u : V} {r : List V} : cutV (x :: y :: z :: u :: r) (some 4) none = r ∧ ¬ (HT.sIx (x :: y :: z :: u :: r).length 0 (some 4) = 0 ∧ HT.sIx (x :: y :: z :: u :: r).length (x :: y :: z :: u :: r).length none = (x :: y :: z :: u :: r).length) := by
  have e : HT.sIx (x :: y :: z :: u :: r).length 0 (some 4) = 4 := by
    rw [show (4 : Int) = ((4 : Nat) : Int) from rfl, HT.sIx_nat]
    simp
  refine ⟨?_, fun h => by rw [e] at h; exact absurd h.1 (by decide)⟩
  unfold cutV
  rw [e, HT.sIx_none]
  simp
theorem cut24 {x y z u : V} {r : List V} : cutV (x :: y :: z :: u :: r) (some 2) (some 4) = [z, u] ∧ ¬ (HT.sIx (x :: y :: z :: u :: r).length 0 (some 2) = 0 ∧ HT.sIx (x :: y :: z :: u :: r).length (x :: y :: z :: u :: r).length (some 4) = (x :: y :: z :: u :: r).length) := by
  have e : HT.sIx (x :: y :: z :: u :: r).length 0 (some 2) = 2 := by
    rw [show (2 : Int) = ((2 : Nat) : Int) from rfl, HT.sIx_nat]
    simp
  have e4 : HT.sIx (x :: y :: z :: u :: r).length (x :: y :: z :: u :: r).length (some 4) = 4 := by
    rw [show (4 : Int) = ((4 : Nat) : Int) from rfl, HT.sIx_nat]
    simp
  refine ⟨?_, fun h => by rw [e] at h; exact absurd h.1 (by decide)⟩
  unfold cutV
  rw [e, e4]
  simp
def spLedSpecs (K : PySem.W.Frag) : Sp := fun vs H Q _ => ∃ ν ld sl svs sps, Nm ν ∧ LedAt H ld ν ∧ H sl = some (.lst svs) ∧ Paired (SpecAt K wd H) svs sps ∧ (∀ sp ∈ sps, SpOk sp) ∧ sps.length ≤ 20 ∧ vs = [.ref ld, .ref sl] ∧
  ∀ l svs' H', Same H H' → H' l = some (.lst svs') → Paired (SpecAt K ν H') svs' sps → Q (.ref l) H'
theorem g_law_led_specs (T : Txt P K mg) : Dg P w K mg base "_law_led_specs" 2 (spLedSpecs K) := by
  refine T.h_law_led_specs.mk sc_law_led_specs (fun _ _ _ _ _ _ us hl => match us, hl with | [_, _], _ => rfl) (fun vs H Q E h => ?_) (fun f cdv A outer s H vs Q E hr h => ?_)
  · obtain ⟨ν, ld, sl, svs, sps, _, _, _, _, _, _, rfl, _⟩ := h; rfl
  · obtain ⟨ν, ld, sl, svs, sps, N, hld, hsl, hsv, hok, hz, rfl, k⟩ := h
    have hlen := Paired.length hsv
    refine ⟨_, pss_cons (pset 2 sc_law_led_specs.nd (pe_lst pa_nil))
      (pss_cons (ps_for PassesOwn.never rfl (pi_list (pv 1)) (pg_name (i := 3) sc_law_led_specs.nd rfl (Or.inl rfl))
          (C8.pss_cut (pset 4 sc_law_led_specs.nd (pe_ifExp (pt_cmpR op_eq (pe_ix ix_seq (pv 3) pe_int (fun _ _ => rfl)) pe_str rfl) (pe_tup (pa_cons (pe_g (g_law_led T) hr (pa_cons (pv 0) (pa_cons (pe_ix ix_seq (pv 3) pe_int (fun _ _ => rfl)) pa_nil))) pa_nil)) (pe_slice sl_tupA (pv 3) (po_some pe_int) po_none)))
            (pss_one (papp (pv 2) (pe_op op_catA (pe_op op_catA (pe_tup (pa_cons (pe_ix ix_seq (pv 3) pe_int (fun _ _ => rfl)) (pa_cons (pe_g (g_law_led T) hr (pa_cons (pv 0) (pa_cons (pe_ix ix_seq (pv 3) pe_int (fun _ _ => rfl)) pa_nil))) pa_nil))) (pe_slice sl_tupA (pv 3) (po_some pe_int) (po_some pe_int))) (pv 4))))))
        (pss_one (ps_ret (pv 2)))), ?_⟩
    refine ⟨sizeB' (Nat.le_of_ble_eq_true rfl), fun F hF => ?_⟩
    have s0 : Same H (hid (upd H F (.lst [])) [F]) := hid_in (same_new hF) (fun b hb => by rw [List.mem_singleton.mp hb]; exact hF)
    refine ⟨_, rfl, sl, rfl, ⟨_, SqL.of (same_new hF _ _ hsl)⟩, ?_⟩
    refine for_it (L2.walk_list (K := K) (a := sl) (xs := svs)) (fun i σ H' => ∃ u v acc, σ = [some (.ref ld), some (.ref sl), some (.ref F), u, v] ∧ Same H (hid H' [F]) ∧ H' F = some (.lst acc) ∧ Paired (SpecAt K ν (hid H' [F])) acc (sps.take i) ∧ acc.length = i) ?_ ?_ ?_ ?_
    · exact ⟨_, _, [], rfl, s0, upd_same, .nil, rfl⟩
    · rintro i σ H' hi ⟨u, v, acc, rfl, t1, _⟩
      exact SqL.of (hid_sub _ _ (t1 _ _ hsl))
    · rintro i x σ H' H'' hi ⟨u, v, acc, rfl, t1, t2, t3, t4⟩ ⟨rfl, hx⟩
      have hi' : i < sps.length := by omega
      obtain ⟨sp, he, q, rfl, hq⟩ := L2.paired_get hsv hx
      have hsp := hok sp (List.mem_of_getElem? he)
      rw [List.getElem?_eq_getElem hi'] at he
      have he := Option.some.inj he
      obtain ⟨rest, h1, h2⟩ := (hq.mono t1).rest
      have h1' := hid_sub.tup h1
      have hld' := hld.mono (t1.trans hid_sub)
      refine ⟨fun σ H3 => ∃ mr rest', σ = [some (.ref ld), some (.ref sl), some (.ref F), some (.ref q), some (.ref mr)] ∧ Same H'' H3 ∧ SqT K (hid H3 [F]) mr rest' ∧ RestOk K ν (hid H3 [F]) sp.pay rest' ∧ rest'.length ≤ 10, ?_, ?_⟩
      · refine ⟨_, rfl, .inr (.inl ⟨_, _, _, _, rfl, rfl, h1', atI0, rfl, _, rfl, ?_⟩)⟩
        rw [dec_link]
        cases hl : isLnk sp.pay with
        | true =>
          obtain ⟨nmp, m, ti, pay⟩ := sp
          cases pay with
          | link tp =>
            obtain rfl : rest = [.str (nm wd tp)] := h2
            refine iteT ⟨_, rfl, _, rfl, .inr (.inl ⟨_, _, _, _, rfl, rfl, h1', atI4, ν, ld, tp, N, hld', hsp.pay, rfl, fun H3 s3 => ⟨sizeB' (Nat.le_of_ble_eq_true rfl), fun b hb => ?_⟩⟩)⟩
            have nbF := ne_of_none (s3 _ _ t2) hb
            exact ⟨b, _, rfl, s3.trans (same_new hb), SqT.of (hid_at upd_same (by simpa using nbF.symm)), rfl, Nat.le_of_ble_eq_true rfl⟩
          | dir => cases hl
          | file _ => cases hl
          | sym _ => cases hl
          | sparse _ _ => cases hl
        | false =>
          obtain ⟨c1, c2⟩ := cut4 (x := .str (memK sp.pay)) (y := .str (nm wd sp.name)) (z := .int sp.m) (u := .int sp.t) (r := rest)
          refine iteF ⟨_, rfl, _, rfl, q, _, rfl, h1', fun hc => absurd hc c2, fun _ b hb => ?_⟩
          rw [c1]
          have nbF := ne_of_none t2 hb
          have hrl : rest.length ≤ 10 := by
            obtain ⟨nmp, m, ti, pay⟩ := sp
            cases pay with
            | link tp => cases hl
            | dir => obtain rfl : rest = [] := h2; exact Nat.zero_le _
            | file ns => obtain ⟨l, rfl, _⟩ := h2; exact Nat.le_of_ble_eq_true rfl
            | sym tg => obtain rfl : rest = [.str tg] := h2; exact Nat.le_of_ble_eq_true rfl
            | sparse _ _ => obtain ⟨l, rfl, _⟩ := h2; exact Nat.le_of_ble_eq_true rfl
          exact ⟨b, rest, rfl, same_new hb, SqT.of (hid_at upd_same (by simpa using nbF.symm)), (h2.mono (hid_new hb)).led hl, hrl⟩
      · rintro σ H3 ⟨mr, rest', rfl, s3, g1, g2, g3⟩
        have t2' := s3 _ _ t2
        have h1'' := s3.tup h1'
        refine ⟨_, rfl, .inl ⟨rfl, _, SqL.of t2'⟩, _, rfl, .inr (.inl ⟨_, _, _, _, rfl, rfl, h1'', atI0, _, rfl, _, rfl, .inr (.inl ⟨_, _, _, _, rfl, rfl, h1'', atI1, ν, ld, sp.name, N, hld'.mono s3, hsp.name, rfl, fun H4 s4 => ⟨sizeB' (Nat.le_of_ble_eq_true rfl), fun b1 hb1 => ?_⟩⟩)⟩)⟩
        have s5 := s4.trans (same_new (o := .tup [.str (memK sp.pay), .str (nm ν sp.name)]) hb1)
        have e1 : upd H4 b1 (.tup [.str (memK sp.pay), .str (nm ν sp.name)]) b1 = some (.tup [.str (memK sp.pay), .str (nm ν sp.name)]) := upd_same
        generalize upd H4 b1 (.tup [.str (memK sp.pay), .str (nm ν sp.name)]) = H5 at s5 e1
        obtain ⟨c1, c2⟩ := cut24 (x := .str (memK sp.pay)) (y := .str (nm wd sp.name)) (z := .int sp.m) (u := .int sp.t) (r := rest)
        refine ⟨_, rfl, _, rfl, _, rfl, q, _, rfl, s5.tup h1'', fun hc => absurd hc c2, fun _ b2 hb2 => ?_⟩
        rw [c1]
        have e1' := same_new (o := .tup [.int sp.m, .int sp.t]) hb2 _ _ e1
        have e2 : upd H5 b2 (.tup [.int sp.m, .int sp.t]) b2 = some (.tup [.int sp.m, .int sp.t]) := upd_same
        have s6 := s5.trans (same_new (o := .tup [.int sp.m, .int sp.t]) hb2)
        generalize upd H5 b2 (.tup [.int sp.m, .int sp.t]) = H6 at e1' e2 s6
        refine ⟨b1, b2, _, _, rfl, rfl, SqT.of e1', SqT.of e2, sizeB' (Nat.le_of_ble_eq_true rfl), fun z => (by cases z), fun _ z => (by cases z), fun _ _ b3 hb3 => ?_⟩
        have e3 : upd H6 b3 (.tup ([.str (memK sp.pay), .str (nm ν sp.name)] ++ [.int sp.m, .int sp.t])) b3 = some (.tup [.str (memK sp.pay), .str (nm ν sp.name), .int sp.m, .int sp.t]) := upd_same
        have s7 := s6.trans (same_new (o := .tup ([.str (memK sp.pay), .str (nm ν sp.name)] ++ [.int sp.m, .int sp.t])) hb3)
        have nF3 := ne_of_none (s6 _ _ t2') hb3
        generalize upd H6 b3 (.tup ([.str (memK sp.pay), .str (nm ν sp.name)] ++ [.int sp.m, .int sp.t])) = H7 at e3 s7
        have g1' := (hid_same s7).tup g1
        have g2' := g2.mono (hid_same s7)
        refine ⟨_, rfl, b3, mr, _, rest', rfl, rfl, SqT.of e3, hid_sub.tup g1', by rw [sizeLine_eq]; show 4 + rest'.length ≤ _; omega, fun z => (by cases z), fun _ z => ?_, fun _ _ b4 hb4 => ?_⟩
        · have t8 := s7 _ _ t2'
          refine ⟨F, acc, .ref b3, rfl, rfl, t8, by rw [sizeLine_eq]; omega, _, _, acc ++ [.ref b3], rfl, ?_, upd_same, ?_, by simp [t4]⟩
          · rw [hid_upd (by simp)]; exact t1.trans (hid_same (s3.trans s7))
          · rw [hid_upd (by simp), take_get hi', he]
            refine (Paired.mapP t3 fun v e h => h.mono (hid_same (s3.trans s7))).snoc ⟨b3, rfl, SpecT.mk' (rest := rest') (SqT.of (hid_at ?_ (by simpa using nF3.symm))) g2'⟩
            rw [e3, z]
        · have t8 := same_new (o := .tup ([V.str (memK sp.pay), .str (nm ν sp.name), .int sp.m, .int sp.t] ++ rest')) hb4 _ _ (s7 _ _ t2')
          have nF4 := ne_of_none (s7 _ _ t2') hb4
          have s8 := s7.trans (same_new (o := .tup ([V.str (memK sp.pay), .str (nm ν sp.name), .int sp.m, .int sp.t] ++ rest')) hb4)
          refine ⟨F, acc, .ref b4, rfl, rfl, t8, by rw [sizeLine_eq]; omega, _, _, acc ++ [.ref b4], rfl, ?_, upd_same, ?_, by simp [t4]⟩
          · rw [hid_upd (by simp)]; exact t1.trans (hid_same (s3.trans s8))
          · rw [hid_upd (by simp), take_get hi', he]
            exact (Paired.mapP t3 fun v e h => h.mono (hid_same (s3.trans s8))).snoc ⟨b4, rfl, SpecT.mk' (rest := rest') (SqT.of (hid_at upd_same (by simpa using nF4.symm))) (g2'.mono (hid_new hb4))⟩
    · rintro σ H' ⟨u, v, acc, rfl, t1, t2, t3, t4⟩
      rw [hlen, List.take_length] at t3
      exact ⟨_, rfl, k F acc H' (t1.trans hid_sub) t2 (Paired.mapP t3 fun v e h => h.mono hid_sub)⟩
end K89
set_option Elab.async false
set_option linter.all false
set_option maxRecDepth 100000
set_option maxHeartbeats 4000000
/-! K89.Q15: the tree of the other names; entries. -/
namespace K89
open PySem PySem.Spec PyProof.Rows L2
variable {P : Program} {w : World} {K : PySem.W.Frag} {mg : Str → Option Value} {base : Heap}
def spLedTree (K : PySem.W.Frag) : Sp := fun vs H Q _ => ∃ ν ld t T, Nm ν ∧ LedAt H ld ν ∧ TreeAt K wd H t T ∧ WF T ∧ T.L.length ≤ 300 ∧ vs = [.ref ld, .ref t] ∧ ∀ t' H', Same H H' → TreeAt K ν H' t' T → Q (.ref t') H'
theorem g_law_led_tree (Tx : Txt P K mg) : Dg P w K mg base "_law_led_tree" 2 (spLedTree K) := by
  refine Tx.h_law_led_tree.mk sc_law_led_tree (fun _ _ _ _ _ _ us hl => match us, hl with | [_, _], _ => rfl) (fun vs H Q E h => ?_) (fun f cdv A outer s H vs Q E hr h => ?_)
  · obtain ⟨ν, ld, t, T, _, _, _, _, _, rfl, _⟩ := h; rfl
  · obtain ⟨ν, ld, t, T, N, hld, hT, W, hz, rfl, k⟩ := h
    obtain ⟨_, key, at_, fl, kvs, fvs, h1, h0, h2, h3, h4, h5⟩ := hT
    refine ⟨_, pss_one (ps_ret (pe_disp (pps_cons pe_str (pe_callTy (call_dictP rfl) (by rfl) Tx.f_dict (by decide +kernel) (pa_cons (pe_lock
        (pe_lc (own := [("_law_name", 2)]) (g := gName 2) (tt := tYes) rfl sc_law_led_tree.nd (pi_keys (pe_dget (room1 hr) (pv 1) pe_str (fun _ _ => rfl))) (blkOk_by (N := N_law_led_tree) (sc := defScope s_law_led_tree) (by decide +kernel))
          (fun _ _ _ _ _ => pg_name (i := 2) sc_law_led_tree.nd rfl (Or.inl rfl)) (fun _ _ _ _ _ => pts_nil)
          (fun _ _ _ _ _ => pe_tup (pa_cons (pe_g (g_law_led Tx) hr (pa_cons (pv 0) (pa_cons (pv 2) pa_nil))) (pa_cons (pe_dget (room1 hr) (pe_dget (room1 hr) (pv 1) pe_str (fun _ _ => rfl)) (pv 2) noSl_name) pa_nil))))) pa_nil))
        (pps_cons pe_str (pe_dget (room1 hr) (pv 1) pe_str (fun _ _ => rfl)) pps_nil)) rfl rfl (by simp) (Nat.le_of_ble_eq_true rfl))), ?_⟩
    intro p hp
    have s1 : Same H (upd H p (.dK [])) := same_new hp
    have e0 : upd H p (.dK []) p = some (.dK []) := upd_same
    have npd : p ≠ at_ := (ne_of_none h2 hp).symm
    generalize upd H p (.dK []) = H1 at s1 e0
    have h2' := s1 _ _ h2
    refine ⟨at_, _, h2', trivial, fun od => ?_⟩
    generalize hF0 : upd H1 at_ (.frz od (.dK kvs)) = F
    have fr2 : ∀ {b o}, H1 b = some o → b ≠ at_ → F b = some o := fun {b o} hb n => by rw [← hF0, upd_ne n]; exact hb
    have g1 : F t = some (.dK (tD at_ fl)) := fr2 (s1 _ _ h1) h0
    have g2 : F at_ = some (.frz od (.dK kvs)) := by rw [← hF0]; exact upd_same
    have gp : F p = some (.dK []) := fr2 e0 npd
    have hTp : ∀ {q xs}, SqT K H q xs → SqT K F q xs := by
      rintro q xs ((h | ⟨o, h⟩) | h)
      · exact .inl (.inl (fr2 (s1 _ _ h) (ne_of h h2 (by intro z; cases z))))
      · exact .inl (.inr ⟨o, fr2 (s1 _ _ h) (ne_of h h2 (by intro z; cases z))⟩)
      · exact .inr h
    have hld' : LedAt F ld ν := by
      obtain ⟨kl, a1, a2⟩ := hld
      refine ⟨kl, fr2 (s1 _ _ a1) fun z => ?_, a2⟩
      rw [z, h2] at a1
      have e := HO.dK.inj (Option.some.inj a1)
      subst e
      -- a table of words is no table of things
      have b1 := a2 0 (by decide)
      have hk : POk [0] := ⟨by simp, Nat.le_of_ble_eq_true rfl, fun i hi => by rw [List.mem_singleton.mp hi]; decide, fun i hi => by simp at hi⟩
      have hv := h3.val wd_nm hk key
      have e1 : (.inr (wd 0) : Key) = .inr (nm wd [0]) := rfl
      rw [e1] at b1
      cases e : lkp T.L [0] with
      | none => rw [hv.1 e] at b1; cases b1
      | some x => obtain ⟨q, c1, _⟩ := hv.2 x e; rw [c1] at b1; cases b1
    have hkl : kvs.length = T.L.length := h3.length
    refine ⟨_, rfl, t, _, rfl, .inl ⟨_, .inr "at", .inl g1, rfl, (tD_at _ _).symm⟩, at_, od, rfl, .inl ⟨kvs, g2, fun D hD => ?_⟩⟩
    refine lc_new0 (L2.walk_keys (d := at_) (o := od) (kvs := kvs)) (fun i y G => ∀ e, T.L[i]? = some e → ∃ r q, y = V.ref r ∧ SqT K G r [.str (nm ν e.1), .ref q] ∧ SqT K G q (thV e.2)) (fun i y G G' s h e he => (h e he).imp fun r ⟨q, a, b, c⟩ => ⟨q, a, s.tup b, s.tup c⟩) (sizeB (by omega)) hD (fun H3 s3 => s3 _ _ g2) (fun i x H3 H4 Pz hi s3 hac y hP => ?_) fun H3 acc s3 a1 a2 a3 => ?_
    · obtain ⟨rfl, kk, v, b1, rfl⟩ := y
      obtain ⟨acc, hac⟩ := hac
      have hi' : i < T.L.length := by omega
      obtain ⟨e, he, r1, q0, r2, r3⟩ : ∃ e, T.L[i]? = some e ∧ kk = .inr (nm wd e.1) ∧ ∃ q, v = .ref q ∧ SqT K H q (thV e.2) := by
        obtain ⟨e, he, r⟩ := L2.paired_get h3 b1
        exact ⟨e, he, r⟩
      subst r1 r2
      have hm : e ∈ T.L := List.mem_of_getElem? he
      have hl : lkp T.L e.1 = some e.2 := lkp_of_mem W.nd hm
      have hpe : POk e.1 := key _ (List.mem_map.mpr ⟨e, hm, rfl⟩)
      obtain ⟨q', c1, c2⟩ := (h3.val wd_nm hpe key).2 _ hl
      refine ⟨rfl, _, rfl, _, rfl, ν, ld, e.1, N, hld'.mono s3, hpe, rfl, fun H5 s5 => ?_⟩
      have s6 := s3.trans s5
      refine ⟨_, rfl, t, _, rfl, .inl ⟨_, .inr "at", .inl (s6 _ _ g1), rfl, (tD_at _ _).symm⟩, _, rfl, at_, _, rfl, .inl ⟨kvs, .inr (nm wd e.1), .inr ⟨od, s6 _ _ g2⟩, rfl, c1.symm⟩, ?_⟩
      refine ⟨sizeB' (Nat.le_of_ble_eq_true rfl), fun b hb => hP _ _ (s5.trans (same_new hb)) fun e' he' => ⟨b, q', rfl, ?_, ?_⟩⟩
      · rw [he] at he'
        cases he'
        exact SqT.of (hid_at upd_same (by simpa using (ne_of_none (s5 _ _ hac) hb).symm))
      · rw [he] at he'
        cases he'
        refine SqT.hide ((s6.trans (same_new hb)).tup (hTp c2)) fun c hc => ?_
        rw [List.mem_singleton.mp hc]
        exact ⟨_, same_new hb _ _ (s5 _ _ hac), rfl⟩
    · have g2' := s3 _ _ g2
      refine ⟨g2', ?_⟩
      have hDa : D ≠ at_ := (ne_of_none g2 hD).symm
      -- back to the heap without the lock
      have sU : Same H1 (upd H3 at_ (.dK kvs)) := fun b o hb => by
        by_cases e : b = at_
        · rw [e] at hb ⊢; rw [upd_same, ← h2']; exact hb
        · rw [upd_ne e]; exact s3 _ _ (fr2 hb e)
      have aD : upd H3 at_ (.dK kvs) D = some (.lst acc) := by rw [upd_ne hDa]; exact a1
      have hTU : ∀ {q xs}, SqT K (hid H3 [D]) q xs → SqT K (upd H3 at_ (.dK kvs)) q xs := by
        rintro q xs ((h | ⟨o, h⟩) | h)
        · have h := (hid_some h).1
          exact .inl (.inl (by rw [upd_ne (ne_of h g2' (by intro z; cases z))]; exact h))
        · have h := (hid_some h).1
          exact .inl (.inr ⟨o, by rw [upd_ne (fun z => by rw [z, g2'] at h; cases h)]; exact h⟩)
        · exact .inr h
      have hrows : ∃ (pls : List Addr) (kvs2 : List (Key × V)), acc = pls.map V.ref ∧ Paired (fun p kv => SqT K (upd H3 at_ (.dK kvs)) p [kV kv.1, kv.2]) pls kvs2 ∧ StandAt K ν (upd H3 at_ (.dK kvs)) kvs2 T.L := by
        have gen : ∀ (L : AL) (ac : List V), ac.length = L.length → (∀ (i : Nat) y, ac[i]? = some y → ∀ e, L[i]? = some e → ∃ r q, y = V.ref r ∧ SqT K (upd H3 at_ (.dK kvs)) r [.str (nm ν e.1), .ref q] ∧ SqT K (upd H3 at_ (.dK kvs)) q (thV e.2)) →
            ∃ (pls : List Addr) (kvs2 : List (Key × V)), ac = pls.map V.ref ∧ Paired (fun p kv => SqT K (upd H3 at_ (.dK kvs)) p [kV kv.1, kv.2]) pls kvs2 ∧ StandAt K ν (upd H3 at_ (.dK kvs)) kvs2 L := by
          intro L
          induction L with
          | nil =>
            intro ac hl _
            have : ac = [] := List.length_eq_zero_iff.mp hl
            subst this
            exact ⟨[], [], rfl, .nil, .nil⟩
          | cons e L ih =>
            intro ac hl hall
            cases ac with
            | nil => cases hl
            | cons y ac =>
              obtain ⟨r, q, rfl, z1, z2⟩ := hall 0 y rfl e rfl
              obtain ⟨pls, kvs2, w1, w2, w3⟩ := ih ac (by simpa using hl) fun i y h e' h' => hall (i + 1) y h e' h'
              exact ⟨r :: pls, (.inr (nm ν e.1), .ref q) :: kvs2, by rw [w1]; rfl, .cons z1 w2, .cons ⟨rfl, q, rfl, z2⟩ w3⟩
        exact gen T.L acc (by omega) fun i y h e h' => (a3 i y h e h').imp fun r ⟨q, a, b, c⟩ => ⟨q, a, hTU b, hTU c⟩
      obtain ⟨pls, kvs2, w1, w2, w3⟩ := hrows
      have hnd : (kvs2.map (·.1)).Nodup := by
        rw [w3.keys]
        have e : ((T.L.map fun e => nm ν e.1).map Sum.inr : List Key) = (T.L.map (·.1)).map fun p => (.inr (nm ν p) : Key) := by rw [List.map_map, List.map_map]; rfl
        rw [e]
        exact inj_nodup (fun a ha b hb z => nm_inj N (key _ ha) (key _ hb) (Sum.inr.inj z)) W.nd
      have hmg : mergeK [] kvs2 = kvs2 := mergeK_app kvs2 [] (by simpa using hnd)
      subst w1
      refine ⟨D, pls, kvs2, rfl, SqL.of aD, w2, fun d hd => ?_⟩
      rw [hmg]
      have sV := sU.trans (same_new (o := .dK kvs2) hd)
      have dD : upd (upd H3 at_ (.dK kvs)) d (.dK kvs2) d = some (.dK kvs2) := upd_same
      have npd2 : p ≠ d := ne_of_none (sU _ _ e0) hd
      have w3' := w3.mono (same_new (o := .dK kvs2) hd)
      generalize upd (upd H3 at_ (.dK kvs)) d (.dK kvs2) = H5 at sV dD w3'
      refine ⟨_, rfl, t, _, rfl, DGet.of (sV _ _ (s1 _ _ h1)) (k := .inr "files") rfl (tD_fl _ _), sV _ _ e0, tD d fl, rfl, Nat.le_of_ble_eq_true rfl, ?_⟩
      rw [tD_merge]
      have sW : ∀ {b o}, b ≠ p → H5 b = some o → upd H5 p (.dK (tD d fl)) b = some o := fun {b o} n h => by rw [upd_ne n]; exact h
      have sH : Same H (upd H5 p (.dK (tD d fl))) := fun b o hb => sW (ne_of_none hb hp) (sV _ _ (s1 _ _ hb))
      refine k p _ sH ⟨N, key, d, fl, kvs2, fvs, upd_same, npd2, sW npd2.symm dD, ?_, sH _ _ h4, Paired.mapP h5 fun v f z => z.mono sH⟩
      refine Paired.mapP w3' fun kv e ⟨z1, q, z2, z3⟩ => ⟨z1, q, z2, ?_⟩
      rcases z3 with (h | ⟨o, h⟩) | h
      · exact .inl (.inl (sW (fun z => by rw [z, sV _ _ e0] at h; cases h) h))
      · exact .inl (.inr ⟨o, sW (fun z => by rw [z, sV _ _ e0] at h; cases h) h⟩)
      · exact .inr h
end K89
set_option Elab.async false
set_option linter.all false
set_option maxRecDepth 100000
set_option maxHeartbeats 4000000
/-! K89.Q16: entries of a tree. -/
namespace K89
open PySem PySem.Spec PyProof.Rows L2
variable {P : Program} {w : World} {K : PySem.W.Frag} {mg : Str → Option Value} {base : Heap}
theorem fst_take {T : AL} {ps : List Pth} {n i : Nat} {q : Pth} (h : fst T (ps.take i) n = some q) : fst T ps n = some q := by
  unfold fst at h ⊢
  have e : ps = ps.take i ++ ps.drop i := (List.take_append_drop i ps).symm
  rw [e, List.find?_append, h]
  rfl
theorem fst_snoc {T : AL} {ps : List Pth} {n i : Nat} (hi : i < ps.length) : fst T (ps.take (i + 1)) n = (fst T (ps.take i) n).or (if lkp T ps[i] = some (.file n) then some ps[i] else none) := by
  unfold fst
  rw [take_get hi, List.find?_append]
  congr 1
  rw [List.find?_cons]
  by_cases h : lkp T ps[i] = some (.file n)
  · rw [if_pos h, decide_eq_true h]
  · rw [if_neg h, decide_eq_false h]; rfl
def spEnt (K : PySem.W.Frag) : Sp := fun vs H Q _ => ∃ ν t T, TreeAt K ν H t T ∧ WF T ∧ T.L.length ≤ 300 ∧ vs = [.ref t] ∧ ∀ l evs ps H', Same H H' → H' l = some (.lst evs) → Ord T ps → ps.length = T.L.length → Paired (EnAt K ν H') evs (ents T ps) → Q (.ref l) H'
theorem g_law_entries (Tx : Txt P K mg) : Dg P w K mg base "_law_entries" 4 (spEnt K) := by
  refine Tx.h_law_entries.mk sc_law_entries (fun _ _ _ _ _ _ us hl => match us, hl with | [_], _ => rfl) (fun vs H Q E h => ?_) (fun f cdv A outer s H vs Q E hr h => ?_)
  · obtain ⟨ν, t, T, _, _, _, rfl, _⟩ := h; rfl
  · obtain ⟨ν, t, T, hT, W, z1, rfl, k⟩ := h
    obtain ⟨N, key, at_, fl, kvs, fvs, h1, h0, h2, h3, h4, h5⟩ := hT
    have ixp : ∀ {x : Str} {p p2 p3 : Pos} {c : Const} {n : Nat}, True := trivial
    refine ⟨_, pss_cons (ps_par (i := 1) (j := 2) rfl sc_law_entries.nd rfl rfl (by decide) rfl rfl (pa_cons (pe_lst pa_nil) (pa_cons pe_dnewK pa_nil)) rfl)
      (pss_cons (ps_for PassesOwn.never rfl (pi_list (pe_callB (call_sortedDA rfl) (by rfl) Tx.f_sorted (by decide +kernel) (pa_cons (pe_dget (room1 hr) (pv 0) pe_str (fun _ _ => rfl)) pa_nil))) (pg_name (i := 3) sc_law_entries.nd rfl (Or.inl rfl))
        (pss_cons (pset 4 sc_law_entries.nd (pe_dget (room1 hr) (pe_dget (room1 hr) (pv 0) pe_str (fun _ _ => rfl)) (pv 3) noSl_name))
          (pss_one (ps_if (pt_cmpR op_ne (pe_ix ix_seq (pv 4) pe_int (fun _ _ => rfl)) pe_str rfl)
            (pss_one (papp (pv 1) (pe_tup (pa_cons (pv 3) (pa_cons (pv 4) pa_nil)))))
            (pss_one (ps_if (pt_cmp (pc_din (room1 hr) (pe_ix ix_seq (pv 4) pe_int (fun _ _ => rfl)) (pv 2)))
              (pss_one (papp (pv 1) (pe_tup (pa_cons (pv 3) (pa_cons (pe_tup (pa_cons pe_str (pa_cons (pe_dget (room1 hr) (pv 2) (pe_ix ix_seq (pv 4) pe_int (fun _ _ => rfl)) (fun _ _ => rfl)) pa_nil))) pa_nil)))))
              (pss_cons (ps_dput (room1 hr) (pv 2) (pe_ix ix_seq (pv 4) pe_int (fun _ _ => rfl)) (pv 3) rfl)
                (pss_cons (ps_asg (pe_ix ix_seq (pe_dget (room1 hr) (pv 0) pe_str (fun _ _ => rfl)) (pe_ix ix_seq (pv 4) pe_int (fun _ _ => rfl)) (fun _ _ => rfl)) (pg_tup rfl (pgs_cons (pg_name (i := 5) sc_law_entries.nd rfl (Or.inl rfl)) (pgs_cons (pg_name (i := 6) sc_law_entries.nd rfl (Or.inl rfl)) (pgs_cons (pg_name (i := 7) sc_law_entries.nd rfl (Or.inl rfl)) (pgs_cons (pg_name (i := 8) sc_law_entries.nd rfl (Or.inl rfl)) pgs_nil))))))
                  (pss_one (papp (pv 1) (pe_tup (pa_cons (pv 3) (pa_cons (pe_tup (pa_cons (pv 5) (pa_cons (pe_g (g_blob Tx) hr (pa_cons (pv 6) pa_nil)) (pa_cons (pv 7) (pa_cons (pv 8) pa_nil))))) pa_nil)))))))))))))
        (pss_one (ps_ret (pv 1)))), ?_⟩
    refine ⟨sizeB' (Nat.le_of_ble_eq_true rfl), fun fA hfA dA hdA => ?_⟩
    have nfd : fA ≠ dA := ne_of_none upd_same hdA
    rw [upd_ne nfd.symm] at hdA
    refine ⟨_, _, rfl, ?_⟩
    have sA : Same H (upd (upd H fA (.lst [])) dA (.dK [])) := Same.trans (same_new hfA) (same_new (by rw [upd_ne nfd.symm]; exact hdA))
    refine ⟨_, rfl, t, _, rfl, DGet.of (sA _ _ h1) (k := .inr "at") rfl (tD_at _ _), at_, kvs, _, rfl, .inl (sA _ _ h2), h3.keys, fun ys sl hp hsrt hsl => ?_⟩
    obtain ⟨ps, hps, rfl⟩ := perm_map (f := nm ν) hp (T.L.map (·.1)) (by rw [List.map_map]; rfl)
    have hO := ord_of W hps
    have hpl : ps.length = T.L.length := by rw [hps.length_eq, List.length_map]
    have hpk : ∀ p ∈ ps, POk p := fun p hp => key p (hps.mem_iff.mp hp)
    have nsf : sl ≠ fA := fun z => by rw [z, upd_ne nfd, upd_same] at hsl; cases hsl
    have nsd : sl ≠ dA := fun z => by rw [z, upd_same] at hsl; cases hsl
    have hsl0 : H sl = none := by rw [upd_ne nsd, upd_ne nsf] at hsl; exact hsl
    refine ⟨_, rfl, ⟨_, SqL.of upd_same⟩, ?_⟩
    refine for_it (L2.walk_list (K := K) (a := sl) (xs := (ps.map (nm ν)).map V.str))
      (fun i σ H' => ∃ u v x5 x6 x7 x8 rows first, σ = [some (.ref t), some (.ref fA), some (.ref dA), u, v, x5, x6, x7, x8] ∧ Same (upd H sl (.lst ((ps.map (nm ν)).map V.str))) (hid H' [fA, dA]) ∧ H' fA = some (.lst rows) ∧ H' dA = some (.dK first) ∧
        Paired (EnAt K ν (hid H' [fA, dA])) rows ((ents T ps).take i) ∧ rows.length = i ∧ first.length ≤ i ∧ ∀ n : Nat, valV first (.inl (n : Int)) = (fst T.L (ps.take i) n).map fun q => V.str (nm ν q)) ?_ ?_ ?_ ?_
    · refine ⟨_, _, _, _, _, _, [], [], rfl, hid_in ?_ ?_, by rw [upd_ne nsf.symm, upd_ne nfd, upd_same], by rw [upd_ne nsd.symm, upd_same], .nil, rfl, Nat.le_refl _, fun n => rfl⟩
      · intro b o hb
        by_cases hbs : b = sl
        · rw [hbs, upd_same] at hb ⊢; exact hb
        · rw [upd_ne hbs] at hb ⊢; exact sA _ _ hb
      · intro b hb
        simp only [List.mem_cons, List.not_mem_nil, or_false] at hb
        rcases hb with rfl | rfl
        · rw [upd_ne nsf.symm]; exact hfA
        · rw [upd_ne nsd.symm]; exact hdA
    · rintro i σ H' hi ⟨u, v, x5, x6, x7, x8, rows, first, rfl, s1, _⟩
      exact SqL.of (hid_sub _ _ (s1 _ _ upd_same))
    · rintro i x σ H' H'' hi ⟨u, v, x5, x6, x7, x8, rows, first, rfl, s1, e1, e2, e3, e4, e5, e6⟩ ⟨rfl, hx⟩
      simp only [List.length_map] at hi
      have hx : x = .str (nm ν ps[i]) := by
        rw [List.getElem?_map, List.getElem?_map, List.getElem?_eq_getElem hi] at hx
        exact (Option.some.inj hx).symm
      subst hx
      have hpi : ps[i] ∈ ps := List.getElem_mem hi
      have pk := hpk _ hpi
      have sG : Same H (hid H'' [fA, dA]) := Same.trans (same_new hsl0) s1
      have s2 : Same H H'' := sG.trans hid_sub
      obtain ⟨x, hx⟩ := Option.isSome_iff_exists.mp ((hO.mem _).mp hpi)
      obtain ⟨q, g1, g2⟩ := (h3.val N pk key).2 x hx
      have hdom : ∀ c ∈ [fA, dA], ∃ o, H'' c = some o := by
        intro c hc
        simp only [List.mem_cons, List.not_mem_nil, or_false] at hc
        rcases hc with rfl | rfl
        · exact ⟨_, e1⟩
        · exact ⟨_, e2⟩
      refine ⟨_, rfl, t, _, rfl, DGet.of (s2 _ _ h1) (k := .inr "at") rfl (tD_at _ _), _, rfl, at_, _, rfl, DGet.of (s2 _ _ h2) (k := .inr _) rfl g1, ?_⟩
      obtain ⟨r, er⟩ := thV_hd x
      refine ⟨_, rfl, .inr (.inl ⟨_, _, _, _, rfl, rfl, s2.tup g2, (by rw [er]; exact atI0), rfl, _, rfl, ?_⟩)⟩
      have hrl : rows.length < sizeLine := by rw [sizeLine_eq]; omega
      have htk : (ents T ps).take (i + 1) = (ents T ps).take i ++ [(ps[i], enOf T ps ps[i])] := by
        rw [List.take_add_one]
        unfold ents
        rw [List.getElem?_map, List.getElem?_eq_getElem hi]
        rfl
      have hmem : ∀ {q n}, fst T.L (ps.take i) n = some q → q ≠ ps[i] := by
        intro q n hq z
        have hqm : q ∈ ps.take i := by unfold fst at hq; exact List.mem_of_find?_eq_some hq
        obtain ⟨j, hj, ej⟩ := List.mem_iff_getElem.mp hqm
        rw [List.length_take] at hj
        rw [List.getElem_take, z] at ej
        have := nd_inj hO.nd (List.getElem?_eq_getElem (show j < ps.length by omega)) (by rw [ej]; exact List.getElem?_eq_getElem hi)
        omega
      have fin : ∀ (b tq : Addr) (x5 x6 x7 x8 : Option V) (first' : List (Key × V)) (H3 : Hp), Same (hid H'' [fA, dA]) (hid H3 [fA, dA]) → H3 b = none → H3 fA = some (.lst rows) → H3 dA = some (.dK first') → first'.length ≤ i + 1 → SqT K (hid H3 [fA, dA]) tq (enV ν (enOf T ps ps[i])) →
          (∀ n : Nat, valV first' (.inl (n : Int)) = (fst T.L (ps.take (i + 1)) n).map fun q => V.str (nm ν q)) →
          ∃ u v y5 y6 y7 y8 rows' first'', ([some (.ref t), some (.ref fA), some (.ref dA), some (V.str (nm ν ps[i])), some (.ref q), x5, x6, x7, x8] : L2.St) = [some (.ref t), some (.ref fA), some (.ref dA), u, v, y5, y6, y7, y8] ∧ Same (upd H sl (.lst ((ps.map (nm ν)).map V.str))) (hid (upd (upd H3 b (.tup [.str (nm ν ps[i]), .ref tq])) fA (.lst (rows ++ [.ref b]))) [fA, dA]) ∧ upd (upd H3 b (.tup [.str (nm ν ps[i]), .ref tq])) fA (.lst (rows ++ [.ref b])) fA = some (.lst rows') ∧
            upd (upd H3 b (.tup [.str (nm ν ps[i]), .ref tq])) fA (.lst (rows ++ [.ref b])) dA = some (.dK first'') ∧ Paired (EnAt K ν (hid (upd (upd H3 b (.tup [.str (nm ν ps[i]), .ref tq])) fA (.lst (rows ++ [.ref b]))) [fA, dA])) rows' ((ents T ps).take (i + 1)) ∧ rows'.length = i + 1 ∧ first''.length ≤ i + 1 ∧ ∀ n : Nat, valV first'' (.inl (n : Int)) = (fst T.L (ps.take (i + 1)) n).map fun q => V.str (nm ν q) := by
        intro b tq x5 x6 x7 x8 first' H3 s3 hb f1 f2 f3 f5 f4
        have nbf := ne_of_none f1 hb
        have nbd := ne_of_none f2 hb
        have eh : hid (upd (upd H3 b (.tup [.str (nm ν ps[i]), .ref tq])) fA (.lst (rows ++ [.ref b]))) [fA, dA] = hid (upd H3 b (.tup [.str (nm ν ps[i]), .ref tq])) [fA, dA] := hid_upd (by simp)
        refine ⟨_, _, _, _, _, _, _, first', rfl, ?_, upd_same, ?_, ?_, ?_, f3, f4⟩
        · rw [eh]; exact (s1.trans s3).trans (hid_new hb)
        · rw [upd_ne nfd.symm, upd_ne nbd]; exact f2
        · rw [eh, htk]
          refine (Paired.mapP e3 fun v e h => h.mono (s3.trans (hid_new hb))).snoc ⟨b, tq, rfl, SqT.of (hid_at upd_same ?_), (hid_new hb).tup f5⟩
          simp only [List.mem_cons, List.not_mem_nil, or_false, not_or]
          exact ⟨nbf.symm, nbd.symm⟩
        · rw [List.length_append, e4]; rfl
      by_cases hk : kd (some x) = .file
      · obtain ⟨n, hn⟩ : ∃ n, x = .file n := by
          cases x with
          | file n => exact ⟨n, rfl⟩
          | dir _ _ => cases hk
          | sym _ _ _ => cases hk
        subst hn
        rw [show (!decide (V.str (kdS (kd (some (Th.file n)))) = V.str (Str.ofString "file"))) = false from by rw [dec_file, decide_eq_true hk]; rfl]
        refine iteF ?_
        have q2 : SqT K H'' q [.str "file", .int n] := s2.tup g2
        refine ⟨_, rfl, .inr (.inl ⟨_, _, _, _, rfl, rfl, q2, rfl, _, rfl, _, _, rfl, DGet.of e2 (k := .inl (n : Int)) rfl rfl, ?_⟩)⟩
        have e6n := e6 n
        obtain ⟨qf, o1, o2, o3, o4⟩ := enOf_file hO hx
        cases ef : fst T.L (ps.take i) n with
        | some qq =>
          rw [ef] at e6n
          have e6n : valV first (.inl (n : Int)) = some (.str (nm ν qq)) := e6n
          have hqq := fst_take ef
          rw [o1] at hqq
          cases hqq
          have hen : enOf T ps ps[i] = .link qf := by rw [o4, if_neg (hmem ef)]
          refine ⟨_, rfl, ?_⟩
          rw [e6n]
          refine iteT ?_
          refine ⟨_, rfl, .inl ⟨rfl, _, SqL.of e1⟩, _, rfl, _, rfl, _, rfl, .inr (.inl ⟨_, _, _, _, rfl, rfl, q2, rfl, _, _, rfl, DGet.of e2 (k := .inl (n : Int)) rfl e6n, sizeB' (Nat.le_of_ble_eq_true rfl), fun b hb => ⟨sizeB' (Nat.le_of_ble_eq_true rfl), fun b2 hb2 => ⟨_, _, _, rfl, rfl, ?_, hrl, ?_⟩⟩⟩)⟩
          · rw [upd_ne (ne_of_none (show upd H'' b _ fA = _ by rw [upd_ne (ne_of_none e1 hb)]; exact e1) hb2), upd_ne (ne_of_none e1 hb)]; exact e1
          · refine fin b2 b _ _ _ _ first _ (hid_new hb) hb2 (by rw [upd_ne (ne_of_none e1 hb)]; exact e1) (by rw [upd_ne (ne_of_none e2 hb)]; exact e2) (by omega) (by rw [hen]; exact sqT_fresh hb hdom) fun n' => ?_
            rw [e6 n', fst_snoc hi]
            cases ef' : fst T.L (ps.take i) n' with
            | some q' => rfl
            | none =>
              rw [hx]
              by_cases hc : n = n'
              · subst hc; rw [ef] at ef'; cases ef'
              · rw [if_neg (fun z => hc (Th.file.inj (Option.some.inj z)))]; rfl
        | none =>
          rw [ef] at e6n
          have e6n : valV first (.inl (n : Int)) = none := e6n
          have hfs : fst T.L ps n = some ps[i] := fst_take (i := i + 1) (by rw [fst_snoc hi, ef, hx, if_pos rfl]; rfl)
          rw [o1] at hfs
          have hfs := Option.some.inj hfs
          have hen : enOf T ps ps[i] = .file ((T.F[n]?).getD ⟨#[], 0, 0⟩) := by rw [o4, if_pos hfs]
          have hnn := W.th _ _ hx
          have hnn : n < T.F.length := hnn
          have hfl : (fvs.length : Nat) = T.F.length := Paired.length h5
          obtain ⟨fv, hfv⟩ : ∃ fv, fvs[n]? = some fv := ⟨_, List.getElem?_eq_getElem (by omega)⟩
          obtain ⟨ff, hff, qv, lv, ns, rfl, j1, j2, j3, j4, j5, j6⟩ := L2.paired_get h5 hfv
          have hen : enOf T ps ps[i] = .file ff := by rw [hen, hff]; rfl
          refine ⟨_, rfl, ?_⟩
          rw [e6n]
          refine iteF ?_
          refine ⟨_, rfl, _, rfl, _, rfl, .inr (.inl ⟨_, _, _, _, rfl, rfl, q2, rfl, _, _, rfl, .inl ⟨first, .inl (n : Int), e2, rfl, by rw [sizeLine_eq]; omega, rfl⟩, ?_⟩)⟩
          have sG' : Same H (hid (upd H'' dA (.dK (putK first (.inl (n : Int)) (.str (nm ν ps[i]))))) [fA, dA]) := by rw [hid_upd (by simp)]; exact sG
          have s5 := sG'.trans hid_sub
          have e1' : upd H'' dA (.dK (putK first (.inl (n : Int)) (.str (nm ν ps[i])))) fA = some (.lst rows) := by rw [upd_ne nfd]; exact e1
          have e2' : upd H'' dA (.dK (putK first (.inl (n : Int)) (.str (nm ν ps[i])))) dA = some (.dK (putK first (.inl (n : Int)) (.str (nm ν ps[i])))) := upd_same
          have eH : hid (upd H'' dA (.dK (putK first (.inl (n : Int)) (.str (nm ν ps[i]))))) [fA, dA] = hid H'' [fA, dA] := hid_upd (by simp)
          have q2' := s5.tup g2
          refine ⟨_, rfl, t, _, rfl, DGet.of (s5 _ _ h1) (k := .inr "files") rfl (tD_fl _ _), _, rfl, .inr (.inl ⟨_, _, _, _, rfl, rfl, q2', rfl, .inl ⟨fl, fvs, (n : Int), .ref qv, rfl, rfl, SqL.of (s5 _ _ h4), atI_nat hfv, ?_⟩⟩)⟩
          refine ⟨qv, _, rfl, s5.tup j1, rfl, _, _, rfl, _, _, rfl, _, _, rfl, _, _, rfl, rfl, ?_⟩
          refine ⟨_, rfl, .inl ⟨rfl, _, SqL.of e1'⟩, _, rfl, _, rfl, _, rfl, lv, ns, s5.seq j2, j3, rfl, fun H6 s6 => ?_⟩
          refine ⟨_, rfl, _, rfl, sizeB' (Nat.le_of_ble_eq_true rfl), fun b hb => ⟨sizeB' (Nat.le_of_ble_eq_true rfl), fun b2 hb2 => ⟨_, _, _, rfl, rfl, ?_, hrl, ?_⟩⟩⟩
          · exact same_new hb2 _ _ (same_new hb _ _ (s6 _ _ e1'))
          · refine fin b2 b _ _ _ _ _ _ ?_ hb2 (same_new hb _ _ (s6 _ _ e1')) (same_new hb _ _ (s6 _ _ e2')) ?_ ?_ fun n' => ?_
            · refine Same.trans ?_ (hid_new hb)
              rw [← eH]
              exact hid_same s6
            · have := length_putK first (.inl (n : Int)) (.str (nm ν ps[i])); omega
            · rw [hen]
              have := sqT_fresh (K := K) (l := [fA, dA]) (xs := [.str "file", .byt (bA ns), .int ff.m, .int ff.t]) hb (fun c hc => by
                simp only [List.mem_cons, List.not_mem_nil, or_false] at hc
                rcases hc with rfl | rfl
                · exact ⟨_, s6 _ _ e1'⟩
                · exact ⟨_, s6 _ _ e2'⟩)
              show SqT K _ b (fdV ff)
              unfold fdV
              rw [j4]
              exact this
            · rw [valV_put, fst_snoc hi]
              by_cases hc : n' = n
              · subst hc
                rw [if_pos rfl, ef, hx, if_pos rfl]; rfl
              · rw [if_neg (fun z => hc (by have := Sum.inl.inj z; omega)), e6 n', hx]
                cases fst T.L (ps.take i) n' with
                | some q' => rfl
                | none => rw [if_neg (fun z => hc (Th.file.inj (Option.some.inj z)).symm)]; rfl
      · rw [show (!decide (V.str (kdS (kd (some x))) = V.str (Str.ofString "file"))) = true from by rw [dec_file, decide_eq_false hk]; rfl]
        have hen : enOf T ps ps[i] = .th x := enOf_other hx (fun n z => by subst z; exact hk rfl)
        refine iteT ?_
        refine ⟨_, rfl, .inl ⟨rfl, _, SqL.of e1⟩, _, rfl, _, rfl, sizeB' (Nat.le_of_ble_eq_true rfl), fun b hb => ⟨_, _, _, rfl, rfl, ?_, hrl, ?_⟩⟩
        · rw [upd_ne (ne_of_none e1 hb)]; exact e1
        · refine fin b q _ _ _ _ first _ (Same.refl _) hb e1 e2 (by omega) (by rw [hen]; exact sG.tup g2) fun n' => ?_
          rw [e6 n', fst_snoc hi, hx]
          cases fst T.L (ps.take i) n' with
          | some q' => rfl
          | none => rw [if_neg (fun z => by have := Option.some.inj z; subst this; exact hk rfl)]; rfl
    · rintro σ H' ⟨u, v, x5, x6, x7, x8, rows, first, rfl, s1, e1, e2, e3, e4, e5, e6⟩
      simp only [List.length_map] at e3 e4
      rw [show (ents T ps).take ps.length = ents T ps from List.take_of_length_le (by simp [ents])] at e3
      exact ⟨_, rfl, k fA rows ps H' (Same.trans (same_new hsl0) (s1.trans hid_sub)) e1 hO hpl (Paired.mapP e3 fun v e h => h.mono hid_sub)⟩
end K89
set_option Elab.async false
set_option linter.all false
set_option maxRecDepth 100000
set_option maxHeartbeats 4000000
/-! K89.Math5: sorted texts are one list. No program here. -/
namespace K89
open PySem PySem.Spec PyProof.Rows
theorem cps_anti : ∀ {a b : List Nat}, ltCps a b = false → ltCps b a = false → a = b
  | [], [], _, _ => rfl
  | [], _ :: _, h, _ => by simp [ltCps] at h
  | _ :: _, [], _, h => by simp [ltCps] at h
  | x :: a, y :: b, h, k => by
    simp only [ltCps, Bool.or_eq_false_iff, decide_eq_false_iff_not, Bool.and_eq_false_iff, beq_eq_false_iff_ne] at h k
    have e : x = y := by omega
    subst e
    have h2 : ltCps a b = false := h.2.resolve_left (fun z => z rfl)
    have k2 : ltCps b a = false := k.2.resolve_left (fun z => z rfl)
    rw [cps_anti h2 k2]
theorem cps_trans : ∀ {a b c : List Nat}, ltCps b a = false → ltCps c b = false → ltCps c a = false
  | [], _, [], _, _ => rfl
  | [], _, _ :: _, _, _ => rfl
  | _ :: _, [], _, h, _ => by simp [ltCps] at h
  | x :: a, y :: b, [], _, h => by simp [ltCps] at h
  | x :: a, y :: b, z :: c, h, k => by
    simp only [ltCps, Bool.or_eq_false_iff, decide_eq_false_iff_not, Bool.and_eq_false_iff, beq_eq_false_iff_ne] at h k ⊢
    refine ⟨by omega, ?_⟩
    by_cases e : z = x
    · subst e
      have e2 : y = z := by omega
      subst e2
      exact .inr (cps_trans (h.2.resolve_left (fun z => z rfl)) (k.2.resolve_left (fun z => z rfl)))
    · exact .inl e
theorem rising_le : ∀ {l : List Str} {p : Str}, risingS p l = true → ∀ x ∈ l, ltCps x.cps.toList p.cps.toList = false
  | [], _, _, x, hx => by cases hx
  | y :: r, p, h, x, hx => by
    simp only [risingS, Bool.and_eq_true, Bool.not_eq_true'] at h
    rcases List.mem_cons.mp hx with rfl | hx
    · exact h.1
    · exact cps_trans h.1 (rising_le h.2 x hx)
theorem rising_sorted : ∀ {l : List Str} {p : Str}, risingS p l = true → sortedS l = true
  | [], _, _ => rfl
  | y :: r, p, h => by
    simp only [risingS, Bool.and_eq_true] at h
    exact h.2
theorem sorted_unique : ∀ {l k : List Str}, l.Perm k → sortedS l = true → sortedS k = true → l = k
  | [], k, h, _, _ => (List.length_eq_zero_iff.mp h.length_eq.symm).symm
  | x :: l, [], h, _, _ => absurd h.length_eq (by simp)
  | x :: l, y :: k, h, h1, h2 => by
    have e : x = y := by
      have hx : x ∈ y :: k := h.mem_iff.mp List.mem_cons_self
      have hy : y ∈ x :: l := h.mem_iff.mpr List.mem_cons_self
      rcases List.mem_cons.mp hx with e | hx
      · exact e
      · rcases List.mem_cons.mp hy with e | hy
        · exact e.symm
        · have a := rising_le (show risingS x l = true from h1) y hy
          have b := rising_le (show risingS y k = true from h2) x hx
          exact str_ext (cps_anti b a)
    subst e
    rw [sorted_unique (List.Perm.cons_inv h) (rising_sorted (show risingS x l = true from h1)) (rising_sorted (show risingS x k = true from h2))]
theorem perm_of_mem {α : Type} [DecidableEq α] : ∀ {l k : List α}, l.Nodup → k.Nodup → (∀ x, x ∈ l ↔ x ∈ k) → l.Perm k
  | [], k, _, _, h => by
    cases k with
    | nil => exact .nil
    | cons y r => exact absurd ((h y).mpr List.mem_cons_self) (by simp)
  | x :: l, k, hl, hk, h => by
    rw [List.nodup_cons] at hl
    have hx : x ∈ k := (h x).mp List.mem_cons_self
    refine (List.Perm.cons x (perm_of_mem hl.2 (hk.erase x) fun y => ?_)).trans (List.perm_cons_erase hx).symm
    rw [hk.mem_erase_iff]
    constructor
    · exact fun hy => ⟨fun e => hl.1 (e ▸ hy), (h y).mp (List.mem_cons_of_mem _ hy)⟩
    · rintro ⟨a, b⟩
      rcases List.mem_cons.mp ((h y).mpr b) with e | e
      · exact absurd e a
      · exact e
end K89
set_option Elab.async false
set_option linter.all false
set_option maxRecDepth 100000
set_option maxHeartbeats 4000000
/-! K89.Q17: the two houses are alike. -/
namespace K89
open PySem PySem.Spec PyProof.Rows L2
variable {P : Program} {w : World} {K : PySem.W.Frag} {mg : Str → Option Value} {base : Heap}
theorem shr_mem {S : Hs} (W : WF S) {n : Nat} {p : Pth} : p ∈ shrOf S n ↔ lkp S.L p = some (.file n) := by
  unfold shrOf
  rw [List.mem_map]
  constructor
  · rintro ⟨e, he, rfl⟩
    obtain ⟨h1, h2⟩ := List.mem_filter.mp he
    have h2 : e.2 = .file n := of_decide_eq_true h2
    have := lkp_of_mem W.nd h1
    rw [h2] at this
    exact this
  · intro h
    exact ⟨(p, .file n), List.mem_filter.mpr ⟨lkp_mem h, decide_eq_true rfl⟩, rfl⟩
theorem shr_nodup {S : Hs} (W : WF S) (n : Nat) : (shrOf S n).Nodup := by
  unfold shrOf
  exact List.Nodup.sublist (List.Sublist.map _ (List.filter_sublist)) W.nd
theorem Mt.show {F1 F2 : List FD} {x y : Th} (h : Mt F1 F2 (some x) (some y)) : showV F1 x = showV F2 y := by
  cases x with
  | file n => cases y with
    | file m => obtain ⟨f, h1, h2⟩ := h; show fdV _ = fdV _; rw [h1, h2]
    | dir _ _ => exact h.elim
    | sym _ _ _ => exact h.elim
  | dir a b => cases y with
    | file m => exact h.elim
    | dir _ _ => obtain ⟨rfl, rfl⟩ := h; rfl
    | sym _ _ _ => exact h.elim
  | sym g a b => cases y with
    | file m => exact h.elim
    | dir _ _ => exact h.elim
    | sym _ _ _ => obtain ⟨rfl, rfl, rfl⟩ := h; rfl
theorem showV_flat (F : List FD) (x : Th) : (showV F x).all flatB = true := by cases x <;> rfl
theorem showV_hd (F : List FD) (x : Th) : ∃ r, showV F x = .str (kdS (kd (some x))) :: r := by cases x <;> exact ⟨_, rfl⟩
def spRight (K : PySem.W.Frag) : Sp := fun vs H Q _ => ∃ ν f o ld A B, Nm ν ∧ LedAt H ld ν ∧ HouseAt K wd H f A ∧ HouseAt K ν H o B ∧ Iso A B ∧ A.L.length ≤ 1000 ∧ B.L.length ≤ 1000 ∧ vs = [.ref f, .ref o, .ref ld] ∧ ∀ H', Same H H' → Q (.bl true) H'
theorem g_law_right (T : Txt P K mg) : Dg P w K mg base "_law_right" 4 (spRight K) := by
  obtain ⟨gl, Fl, hml⟩ := g_House_len (w := w) (base := base) T
  refine T.h_law_right.mk sc_law_right (fun _ _ _ _ _ _ us hl => match us, hl with | [_, _, _], _ => rfl) (fun vs H Q E h => ?_) (fun f cdv A' outer s H vs Q E hr h => ?_)
  · obtain ⟨ν, f, o, ld, A, B, _, _, _, _, _, _, _, rfl, _⟩ := h; rfl
  · obtain ⟨ν, f, o, ld, A, B, N, hld, hA, hB, I, z1, z2, rfl, k⟩ := h
    have hfl : PySem.W.isFn K (.ref gl) = true := hml.fn
    obtain ⟨_, WA, dx, sd, fd, rw, kvs, kfs, a1, a2, a3, a4, a5, a6⟩ := id hA
    obtain ⟨_, WB, dx', sd', fd', rw', kvs', kfs', b1, b2, b3, b4, b5, b6⟩ := id hB
    have led := fun {X : Cx} => True
    refine ⟨_, pss_cons (ps_if (pt_cmpR op_ne (pe_callB (call_lenOwn (C := hC K) (sp := spLen K) hml.at_ hfl Fl hr) (by rfl) T.f_len PySem.boot_len (pa_cons (pv 0) pa_nil)) (pe_callB (call_lenOwn (C := hC K) (sp := spLen K) hml.at_ hfl Fl hr) (by rfl) T.f_len PySem.boot_len (pa_cons (pv 1) pa_nil)) rfl) (pss_one (ps_ret pe_bl)) pss_nil)
      (pss_cons (ps_for PassesOwn.never rfl (pi_list (pe_m0 (pv 0) T.c_House (g_House_entries T) hr)) (pg_tup rfl (pgs_cons (pg_name (i := 3) sc_law_right.nd rfl (Or.inl rfl)) (pgs_cons (pg_name (i := 4) sc_law_right.nd rfl (Or.inl rfl)) pgs_nil)))
          (pss_cons (ps_if (PW.pt (pw_or (pt_not (pt_val (pe_m (pv 1) T.c_House (g_House_has T) hr (pa_cons (pe_g (g_law_led T) hr (pa_cons (pv 2) (pa_cons (pv 3) pa_nil))) pa_nil))))
              (pw_or1 (pt_cmpR (op_neT hr.units0) (pe_m (pv 0) T.c_House (g_House_thing_at T) hr (pa_cons (pv 3) pa_nil)) (pe_m (pv 1) T.c_House (g_House_thing_at T) hr (pa_cons (pe_g (g_law_led T) hr (pa_cons (pv 2) (pa_cons (pv 3) pa_nil))) pa_nil)) rfl)))) (pss_one (ps_ret pe_bl)) pss_nil)
            (pss_one (ps_if (pt_cmpR op_eq (pe_ix ix_seq (pe_m (pv 0) T.c_House (g_House_thing_at T) hr (pa_cons (pv 3) pa_nil)) pe_int (fun _ _ => rfl)) pe_str rfl)
              (pss_cons (pset 5 sc_law_right.nd (pe_callB cr_sortedSA (by rfl) T.f_sorted (by decide +kernel) (pa_cons (pe_lc (own := [("_law_one", 6)]) (g := gName 6) (tt := tYes) rfl sc_law_right.nd (pi_list (pe_m (pv 0) T.c_House (g_House_sharers T) hr (pa_cons (pv 3) pa_nil))) (blkOk_by (N := N_law_right) (sc := defScope s_law_right) (by decide +kernel))
                  (fun _ _ _ _ _ => pg_name (i := 6) sc_law_right.nd rfl (Or.inl rfl)) (fun _ _ _ _ _ => pts_nil) (fun _ _ _ _ _ => pe_g (g_law_led T) hr (pa_cons (pv 2) (pa_cons (pv 6) pa_nil)))) pa_nil)))
                (pss_one (ps_if (pt_cmpR (op_neL hr.units0) (pe_m (pv 1) T.c_House (g_House_sharers T) hr (pa_cons (pe_g (g_law_led T) hr (pa_cons (pv 2) (pa_cons (pv 3) pa_nil))) pa_nil)) (pv 5) rfl) (pss_one (ps_ret pe_bl)) pss_nil))) pss_nil))))
        (pss_one (ps_ret pe_bl))), ?_⟩
    refine ⟨_, rfl, f, dx, _, rfl, a1, wd, f, A, hA.st, rfl, _, rfl, by omega, by omega, ?_⟩
    refine ⟨_, rfl, o, dx', _, rfl, b1, ν, o, B, hB.st, rfl, _, rfl, by omega, by omega, rfl, _, rfl, ?_⟩
    rw [decide_eq_true (show V.int (A.L.length : Int) = V.int (B.L.length : Int) by rw [I.len])]
    refine iteF ⟨_, rfl, f, dx, _, rfl, a1, rfl, wd, f, A, hA, rfl, fun l rows ps H1 s1 hl0 hl O hrows => ?_⟩
    have hlen := Paired.length hrows
    refine ⟨l, rfl, ⟨_, SqL.of hl⟩, ?_⟩
    refine for_it (L2.walk_list (K := K) (a := l) (xs := rows)) (fun i σ H' => ∃ u v x, σ = [some (.ref f), some (.ref o), some (.ref ld), u, v, x, none] ∧ Same H1 H') ?_ ?_ ?_ ?_
    · exact ⟨_, _, _, rfl, Same.refl _⟩
    · rintro i σ H' hi ⟨u, v, x, rfl, s2⟩
      exact SqL.of (s2 _ _ hl)
    · rintro i y σ H' H'' hi ⟨u, v, x5, rfl, s2⟩ ⟨rfl, hy⟩
      obtain ⟨p, hp, q, x, rfl, hq⟩ := L2.paired_get hrows hy
      have hpm : p ∈ ps := List.mem_of_getElem? hp
      have s3 := s1.trans s2
      have pk := O.ok WA hpm
      obtain ⟨xa, ea⟩ := Option.isSome_iff_exists.mp ((O.mem p).mp hpm)
      have hmt := I.mt p
      obtain ⟨xb, eb⟩ : ∃ xb, lkp B.L p = some xb := by
        have := hmt.isSome
        rw [ea] at this
        exact Option.isSome_iff_exists.mp this.symm
      rw [ea, eb] at hmt
      have hA3 := hA.mono s3
      have hB3 := hB.mono s3
      have hld3 := hld.mono s3
      have a1' := s3 _ _ a1
      have b1' := s3 _ _ b1
      refine ⟨q, _, rfl, s2.tup hq, rfl, _, _, rfl, _, _, rfl, rfl, ?_⟩
      refine ⟨_, rfl, o, dx', _, rfl, b1', rfl, _, rfl, _, rfl, ν, ld, p, N, hld3, pk, rfl, fun H4 s4 => ⟨ν, o, B, p, (hB3.mono s4).st, pk, rfl, _, rfl, ?_⟩⟩
      rw [eb]
      refine iteF ⟨_, rfl, f, dx, _, rfl, s4 _ _ a1', rfl, _, rfl, wd, f, A, p, xa, (hA3.mono s4).st, pk, ea, WA.th _ _ ea, rfl, fun q1 t1 => ?_⟩
      refine ⟨_, rfl, o, dx', _, rfl, s4 _ _ b1', rfl, _, rfl, _, rfl, ν, ld, p, N, hld3.mono s4, pk, rfl, fun H5 s5 => ⟨ν, o, B, p, xb, ((hB3.mono s4).mono s5).st, pk, eb, WB.th _ _ eb, rfl, fun q2 t2 => ?_⟩⟩
      have s45 := s4.trans s5
      refine ⟨q1, q2, _, rfl, rfl, s5.tup t1, by rw [hmt.show]; exact t2, showV_flat _ _, _, rfl, iteF ?_⟩
      obtain ⟨r, er⟩ := showV_hd A.F xa
      refine ⟨_, rfl, f, dx, _, rfl, s45 _ _ a1', rfl, _, rfl, wd, f, A, p, xa, (hA3.mono s45).st, pk, ea, WA.th _ _ ea, rfl, fun q3 t3 => .inr (.inl ⟨q3, _, _, _, rfl, rfl, t3, (by rw [er]; exact atI0), rfl, _, rfl, ?_⟩)⟩
      rw [dec_file]
      by_cases hk : kd (some xa) = .file
      · rw [decide_eq_true hk]
        obtain ⟨n, rfl⟩ : ∃ n, xa = .file n := by
          cases xa with
          | file n => exact ⟨n, rfl⟩
          | dir _ _ => cases hk
          | sym _ _ _ => cases hk
        obtain ⟨m, rfl⟩ : ∃ m, xb = .file m := by
          cases xb with
          | file m => exact ⟨m, rfl⟩
          | dir _ _ => exact hmt.elim
          | sym _ _ _ => exact hmt.elim
        refine iteT ⟨_, rfl, f, dx, _, rfl, s45 _ _ a1', rfl, _, rfl, wd, f, A, p, n, (hA3.mono s45).st, WA, z1, pk, ea, rfl, fun l1 ys1 H6 s6 hl10 hl1 hp1 hs1 => ?_⟩
        obtain ⟨qs, hqs, rfl⟩ := perm_map (f := nm wd) hp1 (shrOf A n) rfl
        have hqk : ∀ q ∈ qs, POk q := fun q hq => WA.key q (lkp_keys.mp (by rw [(shr_mem WA).mp (hqs.mem_iff.mp hq)]; rfl))
        have hql : qs.length ≤ 1000 := by
          rw [hqs.length_eq]
          unfold shrOf
          rw [List.length_map]
          exact Nat.le_trans (List.length_filter_le _ _) z1
        have s46 := s45.trans s6
        refine ⟨l1, rfl, ⟨_, SqL.of hl1⟩, fun D hD => ?_⟩
        refine lc_pure (L2.walk_list (K := K) (a := l1) (xs := (qs.map (nm wd)).map V.str)) ((qs.map (nm ν)).map V.str) (by simp) (sizeB (by simp; omega)) hD (fun H7 s7 => s7.seq (SqL.of hl1)) (fun j y H7 H8 Pz hj s7 yy hP => ?_) fun H7 s7 hL7 => ?_
        · obtain ⟨rfl, hx⟩ := yy
          rw [List.length_map, List.length_map] at hj
          rw [List.getElem?_map, List.getElem?_map, List.getElem?_eq_getElem hj] at hx
          have hx := (Option.some.inj hx).symm
          subst hx
          refine ⟨rfl, _, rfl, _, rfl, ν, ld, qs[j], N, hld3.mono (s46.trans s7), hqk _ (List.getElem_mem hj), rfl, fun H9 s9 => hP _ _ s9 ?_⟩
          rw [List.getElem?_map, List.getElem?_map, List.getElem?_eq_getElem hj]
          rfl
        · have s47 := s46.trans s7
          refine ⟨D, qs.map (nm ν), rfl, SqL.of hL7, fun ys3 l3 hp3 hs3 hl3 => ?_⟩
          have s48 := s47.trans (same_new (o := .lst (ys3.map V.str)) hl3)
          have e3 : upd H7 l3 (.lst (ys3.map V.str)) l3 = some (.lst (ys3.map V.str)) := upd_same
          generalize upd H7 l3 (.lst (ys3.map V.str)) = H8 at s48 e3
          refine ⟨_, rfl, o, dx', _, rfl, s48 _ _ b1', rfl, _, rfl, _, rfl, ν, ld, p, N, hld3.mono s48, pk, rfl, fun H9 s9 => ⟨ν, o, B, p, m, ((hB3.mono s48).mono s9).st, WB, z2, pk, eb, rfl, fun l4 ys4 H10 s10 hl40 hl4 hp4 hs4 => ?_⟩⟩
          have hperm : (shrOf A n).Perm (shrOf B m) := perm_of_mem (shr_nodup WA n) (shr_nodup WB m) fun r => by
            rw [shr_mem WA, shr_mem WB]
            constructor
            · intro hr1
              have hm := I.mt r
              rw [hr1] at hm
              cases e : lkp B.L r with
              | none => rw [e] at hm; exact hm.elim
              | some xr =>
                rw [e] at hm
                cases xr with
                | file m' =>
                  have := (I.sh p r n n m m' ea hr1 eb e).mp rfl
                  rw [this]
                | dir _ _ => exact hm.elim
                | sym _ _ _ => exact hm.elim
            · intro hr2
              have hm := I.mt r
              rw [hr2] at hm
              cases e : lkp A.L r with
              | none => rw [e] at hm; exact hm.elim
              | some xr =>
                rw [e] at hm
                cases xr with
                | file n' =>
                  have := (I.sh p r n n' m m ea e eb hr2).mpr rfl
                  rw [this]
                | dir _ _ => exact hm.elim
                | sym _ _ _ => exact hm.elim
          have hys : ys4 = ys3 := sorted_unique (hp4.trans ((hperm.symm.map (nm ν)).trans ((hqs.symm.map (nm ν)).trans hp3.symm))) hs4 hs3
          subst hys
          have e3' := s10 _ _ (s9 _ _ e3)
          refine ⟨_, rfl, l4, l3, _, rfl, rfl, SqL.of hl4, SqL.of e3', ?_, _, rfl, iteF ⟨_, _, _, rfl, s2.trans (s48.trans (s9.trans s10))⟩⟩
          rw [List.all_map]
          exact List.all_eq_true.mpr fun _ _ => rfl
      · rw [decide_eq_false hk]
        exact iteF ⟨_, _, _, rfl, s2.trans s45⟩
    · rintro σ H' ⟨u, v, x, rfl, s2⟩
      exact k _ (s1.trans s2)
end K89
set_option Elab.async false
set_option linter.all false
set_option maxRecDepth 100000
set_option maxHeartbeats 4000000
/-! K89.Q18: told. -/
namespace K89
open PySem PySem.Spec PyProof.Rows L2
variable {P : Program} {w : World} {K : PySem.W.Frag} {mg : Str → Option Value} {base : Heap}
/-- what told makes of the call: ("none", value), or ("refused", index, word) -/
def TT2 (K : PySem.W.Frag) : (XK → Hp → VK → Prop) → Hp → VK → Prop := fun tl H Q =>
  tl (fun cls d H' => cls = .ref (rC K) ∧ ∃ dd i z, d = some dd ∧ H' dd = some (.xd (rfs i z)) ∧ ∀ p, H' p = none → Q (.ref p) (upd H' p (.tup [.str "refused", .int i, .str z]))) H
    (fun v H1 => ([.str "none", v] : List V).length ≤ sizeLine ∧ ∀ p, H1 p = none → Q (.ref p) (upd H1 p (.tup [.str "none", v])))
def tsR (K : PySem.W.Frag) (a : Addr) (cls : Value) (d : Option Addr) : TS := tRet (tTup (tCons (tC (.str "refused")) (tCons (tXf a cls d (rC K) "index" (tVar 1)) (tCons (tXf a cls d (rC K) "word" (tVar 1)) tNil))))
def tryB : List Stmt := match defBody s_law_told with
  | [.Try b _ _ _ _] => b
  | _ => []
theorem takes_len {X : Cx} {W : WX} (t : Takes X W) : Takes X (fun c d σ H => σ.length = X.N.length → W c d σ H) := fun u s' ⟨a, B, sI, pins, σ, H, cls, d, e, I, nb, up, sky, na, os, ag, w⟩ =>
  t u s' ⟨a, B, sI, pins, σ, H, cls, d, e, I, nb, up, sky, na, os, ag, w I.len⟩
theorem told2_gives {X : Cx} (Tx : Txt X.prog X.K X.mg) {q : Str} {g : Addr} {cdg : Value} : LamX.GivesTo X N_law_told "_law_told" (defScope s_law_told) g cdg (defBody s_law_told) "_law_call" q (TT2 X.K) := by
  intro f c' s H Q tl act hc h
  refine ⟨_, pss_one (ps_try_as (X := (cxOf C8.CX0 X.prog X.w X.K X.mg X.base N_law_told "_law_told" (defScope s_law_told) g cdg X.A X.stack s H C8.E0).nox) (c := .ref (rC X.K)) (i := 1) (n := "e") (x := "Refused")
      (tb := fun W D σ H => ∃ Ech : XK, (∀ cls d σ' H', Ech cls d H' → σ'.length = 2 → W cls d σ' H') ∧ σ = [some (.ref f), none] ∧ H c' = some (LamX.CodeO c' q) ∧ tl Ech H (fun v H1 => ([.str "none", v] : List V).length ≤ sizeLine ∧ ∀ p, H1 p = none → D.rt (.ref p) (upd H1 p (.tup [.str "none", v]))))
      (ts := fun a cls d => tsR X.K a cls d)
      rfl rfl sc_law_told.nd rfl rfl ⟨rfl, by decide, .inl Tx.r_g⟩ LamX.takes0 (fun W pn xe tk hp => ?_) (fun a oe cls d pn hz hf => ?_)), ?_⟩
  · refine ⟨fun pins s' σ H' D I h' => ?_⟩
    obtain ⟨Ech, hW, rfl, h2, h3⟩ := h'
    have hq : PSs ((cxOf C8.CX0 X.prog X.w X.K X.mg X.base N_law_told "_law_told" (defScope s_law_told) g cdg X.A X.stack s H C8.E0).nox.tr pn xe) tryB (tRet (tTup (tCons (tC (V.str (Str.ofString "none"))) (tCons (fun σZ HZ Q => σZ[0]? = some (some (.ref f)) ∧ HZ c' = some (LamX.CodeO c' q) ∧ tl Ech HZ Q) tNil)))) :=
      pss_one (ps_ret (pe_tup (pa_cons pe_str (pa_cons (act _ pn xe Ech _ _ (takes_len tk) (fun c d σ' H' e hl => hW c d σ' H' e hl)) pa_nil))))
    exact hq.run pins s' _ H' D I ⟨rfl, h2, h3⟩
  · exact pss_one (ps_ret (pe_tup (pa_cons pe_str (pa_cons (pe_xf Tx.r_x (Tx.r_na _ (by decide)) hz hf (pv 1)) (pa_cons (pe_xf Tx.r_x (Tx.r_na _ (by decide)) hz hf (pv 1)) pa_nil)))))
  · refine ⟨_, fun cls d σ' H' hE hl => ?_, rfl, hc, h⟩
    obtain ⟨rfl, dd, i, z, rfl, e1, k⟩ := hE
    refine ⟨true, Tx.r_e, fun _ a ha => ?_, fun e => by cases e⟩
    obtain ⟨x, y, rfl⟩ : ∃ x y, σ' = [x, y] := by
      match σ', hl with
      | [x, y], _ => exact ⟨x, y, rfl⟩
    exact ⟨.ref a, rfl, rfl, rfl, _, _, _, rfl, e1, rfl, .ref a, rfl, rfl, rfl, _, _, _, rfl, e1, rfl, (by exact Nat.le_of_ble_eq_true rfl), k⟩
end K89
set_option Elab.async false
set_option linter.all false
set_option maxRecDepth 100000
set_option maxHeartbeats 4000000
/-! K89.Q19: what outlives a draw and a lambda. -/
namespace K89
open PySem PySem.Spec PyProof.Rows L2
variable {K : PySem.W.Frag} {ν : Nat → Str} {H H' : Hp} {a b : Addr}
def flt (k : HO → Bool) (H : Hp) : Hp := fun b => (H b).filter k
/-- all but the tables -/
def kT : HO → Bool
  | .tbl _ => false
  | _ => true
/-- all but the tables and the lists of three ints -/
def kC : HO → Bool
  | .tbl _ => false
  | .lst [.int _, .int _, .int _] => false
  | _ => true
theorem flt_at {k : HO → Bool} {o : HO} (h : H b = some o) (e : k o = true) : flt k H b = some o := by
  unfold flt
  rw [h]
  simp [Option.filter, e]
theorem flt_some {k : HO → Bool} {o : HO} (h : flt k H b = some o) : H b = some o ∧ k o = true := by
  unfold flt at h
  exact Option.filter_eq_some_iff.mp h
theorem flt_sub {k : HO → Bool} : Same (flt k H) H := fun b o h => (flt_some h).1
theorem flt_same {k : HO → Bool} (s : Same H H') : Same (flt k H) (flt k H') := fun b o h => flt_at (s _ _ (flt_some h).1) (flt_some h).2
theorem kT_tbl {o : HO} (h : kT o = true) : ∀ ps, o ≠ .tbl ps := fun ps e => by
  rw [e] at h
  cases h
theorem kC_tbl {o : HO} (h : kC o = true) : ∀ ps, o ≠ .tbl ps := fun ps e => by
  rw [e] at h
  cases h
theorem fltT_ext (s : LamX.ExtN H H') : Same (flt kT H) (flt kT H') := fun b o h => flt_at (s _ _ (flt_some h).1 (kT_tbl (flt_some h).2)) (flt_some h).2
theorem fltC_ext (s : LamX.ExtN H H') : Same (flt kC H) (flt kC H') := fun b o h => flt_at (s _ _ (flt_some h).1 (kC_tbl (flt_some h).2)) (flt_some h).2
theorem fltC_drew {n : Nat} (hs : ∃ m, SrcAt H a m) (D : Drew a n H H') : Same (flt kC H) (flt kC H') := fun b o h => by
  obtain ⟨h1, h2⟩ := flt_some h
  obtain ⟨m, g, x, t, h3, _⟩ := hs
  have ne : b ≠ a := fun e => by
    rw [e, h3] at h1
    cases h1
    cases h2
  exact flt_at (D.at h1 ne) h2
theorem SrcAt.extN {n : Nat} (h : SrcAt H a n) (s : LamX.ExtN H H') : SrcAt H' a n := by
  obtain ⟨g, m, t, h1, h2⟩ := h
  exact ⟨g, m, t, s _ _ h1 (fun _ z => nomatch z), h2⟩
theorem sqT_flt {k : HO → Bool} {q : Addr} {xs : List V} (h : SqT K H q xs) (e : ∀ ys, k (.tup ys) = true) (e2 : ∀ o u, k (.frz o u) = true) : SqT K (flt k H) q xs := by
  rcases h with (h | ⟨o, h⟩) | h
  · exact .inl (.inl (flt_at h (e _)))
  · exact .inl (.inr ⟨o, flt_at h (e2 _ _)⟩)
  · exact .inr h
theorem sqL_fltT {q : Addr} {xs : List V} (h : SqL K H q xs) : SqL K (flt kT H) q xs := by
  rcases h with (h | ⟨o, h⟩) | h
  · exact .inl (.inl (flt_at h rfl))
  · exact .inl (.inr ⟨o, flt_at h rfl⟩)
  · exact .inr h
theorem sqT_fltC {q : Addr} {xs : List V} (h : SqT K H q xs) : SqT K (flt kC H) q xs := sqT_flt h (fun _ => rfl) (fun _ _ => rfl)
theorem sqT_fltT {q : Addr} {xs : List V} (h : SqT K H q xs) : SqT K (flt kT H) q xs := sqT_flt h (fun _ => rfl) (fun _ _ => rfl)
theorem rows_kC {rows : List V} {ps : List Pth} {R : V → Pth → Prop} (h : Paired R rows ps) (hr : ∀ v p, R v p → ∃ q, v = .ref q) : kC (.lst rows) = true := by
  cases h with
  | nil => rfl
  | cons x y =>
    obtain ⟨q, rfl⟩ := hr _ _ x
    rfl
theorem HouseAt.core {S : Hs} (h : HouseAt K ν H a S) : HouseAt K ν (flt kC H) a S := by
  obtain ⟨N, W, dx, sd, fd, rw_, kvs, kfs, h1, h2, h3, h4, h5, rows, ps, h6, h7, h8⟩ := h
  exact ⟨N, W, dx, sd, fd, rw_, kvs, kfs, flt_at h1 rfl, flt_at h2 rfl, Paired.mapP h3 (fun kv e ⟨x, q, y, z⟩ => ⟨x, q, y, sqT_fltC z⟩), flt_at h4 rfl, ⟨h5.1, fun i f e => (h5.2 i f e).imp fun q z => ⟨z.1, sqT_fltC z.2⟩⟩,
    rows, ps, flt_at h6 (rows_kC h8 fun v p ⟨q, _, e, _⟩ => ⟨q, e⟩), h7, Paired.mapP h8 fun v p ⟨q, x, y, z⟩ => ⟨q, x, y, sqT_fltC z⟩⟩
theorem LedAt.core {ld : Addr} (h : LedAt H ld ν) : LedAt (flt kC H) ld ν := by
  obtain ⟨kvs, h1, h2⟩ := h
  exact ⟨kvs, flt_at h1 rfl, h2⟩
theorem PcL.fltT {v : V} {e : Nat × List Int} (h : PcL K H v e) : PcL K (flt kT H) v e := by
  obtain ⟨r, l, h1, h2, h3⟩ := h
  exact ⟨r, l, h1, sqT_fltT h2, flt_at h3 rfl⟩
theorem SpL.fltT {q : Addr} {sz : Nat} {ps : List (Nat × List Int)} (h : SpL K H q sz ps) : SpL K (flt kT H) q sz ps := by
  obtain ⟨pl, prs, h1, h2, h3⟩ := h
  exact ⟨pl, prs, sqT_fltT h1, sqL_fltT h2, Paired.mapP h3 fun v e z => z.fltT⟩
theorem SpecAt.fltT {v : V} {sp : Spec} (h : SpecAt K ν H v sp) : SpecAt K ν (flt kT H) v sp := by
  obtain ⟨q, h1, h2⟩ := h
  refine ⟨q, h1, ?_⟩
  obtain ⟨n, m, t, pay⟩ := sp
  cases pay with
  | file ns => obtain ⟨l, h1, h2⟩ := h2; exact ⟨l, sqT_fltT h1, sqL_fltT h2⟩
  | dir => exact sqT_fltT h2
  | sym tg => exact sqT_fltT h2
  | link tp => exact sqT_fltT h2
  | sparse sz ps => obtain ⟨l, h1, h2⟩ := h2; exact ⟨l, sqT_fltT h1, h2.fltT⟩
end K89
set_option Elab.async false
set_option linter.all false
set_option maxRecDepth 100000
set_option maxHeartbeats 4000000
/-! K89.Q20: a told call. -/
namespace K89
open PySem PySem.Spec PyProof.Rows L2
variable {K : PySem.W.Frag} {ν : Nat → Str} {H H' : Hp} {a b : Addr}
def tLam0 (K : PySem.W.Frag) (i : Nat) (te : TE) : XK → TE := fun E => tG (spUnpacked K) E (tCons (tVar i) (tCons (tLc (iList K te) (gName 11) tYes (tG (spMade K) E0 (tCons (tVar 11) tNil)) [11]) tNil))
theorem PayAt.hide {p : Pay} {fs : List (Str × V)} {l : List Addr} (h : PayAt K ν H p fs) (n : ∀ b ∈ l, ∃ o, H b = some o ∧ plainO o = true) : PayAt K ν (hid H l) p fs := by
  cases h with
  | file => exact .file
  | dir => exact .dir
  | sym => exact .sym
  | link => exact .link
  | sparse h hp => exact .sparse (SqT.hide h n) (Paired.mapP hp fun v e ⟨r, x, y⟩ => ⟨r, x, SqT.hide y n⟩)
theorem MemAt.hideD {D : Addr} {v : V} {sp : Spec} {acc : List V} (h : MemAt K ν H v sp) (hD : H D = some (.lst acc)) : MemAt K ν (hid H [D]) v sp := by
  obtain ⟨a, dx, kv, fs, h1, h2, h3⟩ := h
  refine ⟨a, dx, kv, fs, h1, hid_at h2 fun z => ?_, h3.hide fun b hb => ?_⟩
  · rw [List.mem_singleton.mp z, hD] at h2
    cases h2
  · rw [List.mem_singleton.mp hb]
    exact ⟨_, hD, rfl⟩
theorem lam_run {te : TE} {i : Nat} {h : Addr} {S : Hs} {sps : List Spec} {x0 x1 x2 x3 x4 x5 x6 x7 x8 x9 x10 x11 : Option V} {Q : VK} {E : XK} (hσ : [x0, x1, x2, x3, x4, x5, x6, x7, x8, x9, x10, x11][i]? = some (some (.ref h))) (N : Nm ν) (hH : HouseAt K ν H h S)
    (z1 : S.L.length ≤ 300) (z2 : S.F.length ≤ 300) (ok : ∀ sp ∈ sps, SpOk sp) (hz : sps.length ≤ 12)
    (hte : ∀ Q : VK, (∀ l svs H', Same H H' → H' l = some (.lst svs) → Paired (SpecAt K ν H') svs sps → Q (.ref l) H') → te [x0, x1, x2, x3, x4, x5, x6, x7, x8, x9, x10, x11] H Q)
    (k : RunTo K ν H Q E (run S 0 sps)) : tLam0 K i te E [x0, x1, x2, x3, x4, x5, x6, x7, x8, x9, x10, x11] H Q := by
  refine ⟨_, hσ, hte _ fun l svs H1 s1 hl hsv => ?_⟩
  have hlen := Paired.length hsv
  refine ⟨l, rfl, ⟨_, SqL.of hl⟩, fun D hD => ?_⟩
  refine lc_new0 (L2.walk_list (K := K) (a := l) (xs := svs)) (fun j y G => ∀ e, sps[j]? = some e → MemAt K ν G y e) (fun i y G G' s h e he => (h e he).mono s) (sizeB (by omega)) hD (fun H2 s2 => s2.seq (SqL.of hl)) (fun j x H2 H' Pz hj s2 hac y hP => ?_) fun H2 acc s2 a1 a2 a3 => ?_
  · obtain ⟨rfl, hx⟩ := y
    obtain ⟨sp, he, hv⟩ := L2.paired_get hsv hx
    obtain ⟨acc, hacc⟩ := hac
    refine ⟨rfl, x, rfl, ν, x, sp, N, hv.mono s2, ok sp (List.mem_of_getElem? he), rfl, fun v' H4 s4 hm => ?_⟩
    refine hP _ _ s4 fun e he2 => ?_
    rw [he] at he2
    cases he2
    exact hm.hideD (s4 _ _ hacc)
  · refine ⟨ν, h, S, D, acc, sps, hH.mono (s1.trans s2), SqL.of a1, ?_, ok, z1, z2, by omega, rfl, k.mono (s1.trans s2)⟩
    refine paired_of (a2.trans hlen) fun j y e hy he => ?_
    exact (a3 j y hy e he).mono hid_sub
end K89
set_option Elab.async false
set_option linter.all false
set_option maxRecDepth 100000
set_option maxHeartbeats 400000
/-! K89.Q21: law. -/
namespace K89
open PySem PySem.Spec PyProof.Rows L2
variable {P : Program} {w : World} {K : PySem.W.Frag} {mg : Str → Option Value} {base : Heap}
section
variable {ν : Nat → Str} {H H' : Hp} {a b : Addr}
/-- what a told call makes of a run's outcome -/
def OutTo (K : PySem.W.Frag) (ν : Nat → Str) (H : Hp) (Q : VK) : Except (Nat × Str) Hs → Prop
  | .ok S' => ∀ a' H' p, Same H H' → HouseAt K ν H' a' S' → S'.L.length ≤ 1000 → H' p = none → Q (.ref p) (upd H' p (.tup [.str "none", .ref a']))
  | .error e => ∀ H' p, Same H H' → H' p = none → Q (.ref p) (upd H' p (.tup [.str "refused", .int (e.1 : Int), .str e.2]))
theorem told_run {te : TE} {i : Nat} {h : Addr} {S : Hs} {sps : List Spec} {x0 x1 x2 x3 x4 x5 x6 x7 x8 x9 x10 x11 : Option V} {Q : VK} (hσ : [x0, x1, x2, x3, x4, x5, x6, x7, x8, x9, x10, x11][i]? = some (some (.ref h))) (N : Nm ν) (hH : HouseAt K ν H h S)
    (z1 : S.L.length ≤ 300) (z2 : S.F.length ≤ 300) (ok : ∀ sp ∈ sps, SpOk sp) (hz : sps.length ≤ 12)
    (hte : ∀ Q : VK, (∀ l svs H', Same H H' → H' l = some (.lst svs) → Paired (SpecAt K ν H') svs sps → Q (.ref l) H') → te [x0, x1, x2, x3, x4, x5, x6, x7, x8, x9, x10, x11] H Q)
    (k : OutTo K ν H Q (run S 0 sps)) : TT2 K (fun E H' Q' => tLam0 K i te E [x0, x1, x2, x3, x4, x5, x6, x7, x8, x9, x10, x11] H' Q') H Q := by
  refine lam_run hσ N hH z1 z2 ok hz hte ?_
  cases e : run S 0 sps with
  | ok S' =>
    rw [e] at k
    exact fun a' H1 s1 h1 l1 => ⟨sizeB' (Nat.le_of_ble_eq_true rfl), fun p hp => k a' H1 p s1 h1 l1 hp⟩
  | error e2 =>
    rw [e] at k
    exact fun d H1 s1 h1 => ⟨rfl, d, _, _, rfl, h1, fun p hp => k H1 p s1 hp⟩
theorem tabs_drew {T : List (Addr × Str)} {n : Nat} (t : LamX.Tabs T H) (hs : ∃ m, SrcAt H a m) (D : Drew a n H H') : LamX.Tabs T H' := fun p hp => by
  obtain ⟨ps, h1, h2, h3⟩ := t p hp
  obtain ⟨m, g, x, y, h4, _⟩ := hs
  have go : ∀ {b : Addr} {o : HO}, H b = some o → (∀ ys, o ≠ .lst ys) → H' b = some o := fun {b o} e ne => D.at e fun z => by
    rw [z, h4] at e
    exact ne _ (Option.some.inj e).symm
  refine ⟨ps, go h1 (fun _ z => by cases z), h2, fun pos cv hc => ?_⟩
  obtain ⟨c, e1, e2⟩ := h3 pos cv hc
  exact ⟨c, e1, go e2 (fun _ z => by cases z)⟩
theorem fltH_ext (s : LamX.ExtN H H') : Same (flt kT (hid H [a])) (flt kT (hid H' [a])) := fun b o h => by
  obtain ⟨h1, h2⟩ := flt_some h
  obtain ⟨h3, h4⟩ := hid_some h1
  exact flt_at (hid_at (s _ _ h3 (kT_tbl h2)) h4) h2
end
def spLaw (K : PySem.W.Frag) (PL : Addr) : Sp := fun vs H Q _ => ∃ (a : Addr) (ns : List Int), vs = [.ref a] ∧ SqL K H a (ns.map V.int) ∧ ns.length ≤ 1000 ∧ H PL = some (.tbl #[]) ∧ ∀ H', Q (.bl true) H'
theorem iteT' {p q : Prop} (h : p) : if true = true then p else q := by rw [if_pos rfl]; exact h
theorem foldl_len {f : Hs → Pth × En → Hs} (hf : ∀ S e, (f S e).L.length ≤ S.L.length + 1 ∧ (f S e).F.length ≤ S.F.length + 1) : ∀ (E : List (Pth × En)) (S : Hs), (E.foldl f S).L.length ≤ S.L.length + E.length ∧ (E.foldl f S).F.length ≤ S.F.length + E.length
  | [], S => ⟨Nat.le_refl _, Nat.le_refl _⟩
  | e :: E, S => by
    have h1 := foldl_len hf E (f S e)
    have h2 := hf S e
    rw [List.foldl_cons, List.length_cons]
    omega
theorem houseOf_len (E : List (Pth × En)) : (houseOf E).L.length ≤ 2 * E.length ∧ (houseOf E).F.length ≤ 2 * E.length := by
  have h1 := foldl_len one1_L E ⟨[], []⟩
  have h2 := foldl_len one2_L E (E.foldl one1 ⟨[], []⟩)
  unfold houseOf
  simp only [List.length_nil] at h1
  omega
theorem paired_all {α β : Type} {R : α → β → Prop} {Z : β → Prop} {xs : List α} {ys : List β} (h : Paired R xs ys) (k : ∀ x y, R x y → Z y) : ∀ y ∈ ys, Z y := by
  induction h with
  | nil => exact fun y hy => by cases hy
  | cons r t ih =>
    intro y hy
    rcases List.mem_cons.mp hy with rfl | hy
    · exact k _ _ r
    · exact ih y hy
theorem TreeAt.fok {ν : Nat → Str} {H : Hp} {t : Addr} {T : Hs} (h : TreeAt K ν H t T) : ∀ f ∈ T.F, FDOk f := by
  obtain ⟨_, _, at_, fl, kvs, fvs, h1, h0, h2, h3, h4, h5⟩ := h
  exact paired_all h5 fun x y r => r.ok
theorem ok_law (Tx : Txt P K mg) {f cL PL : Addr} {dV kV doc pm ct oc : Value} {od an : Option Addr} {osl : Array (Option Value)} (lk : K.lookup f = some ⟨oc, od, .func (PySem.W.fnOf "law" "law" (defArgs s_law) (defBody s_law) (defScope s_law) dV kV doc pm an (.ref cL) ct), osl⟩)
    (hcd : PySem.W.codeIn K (.ref cL) "law" = true) (TB : LamX.TabB base mg cL PL) : FnOk P w K mg base CX0 9 f (PySem.W.fnOf "law" "law" (defArgs s_law) (defBody s_law) (defScope s_law) dV kV doc pm an (.ref cL) ct) ["_law_script"] (spLaw K PL) := by
  obtain ⟨mc, pc, gc, cR, cM, Fof⟩ := g_House_of (P := P) (w := w) (base := base) Tx
  obtain ⟨ft, fdt, Ft, hmt⟩ := Tx.h_law_told
  have bt := Ft.bindsN (ps := ["_law_call"]) (fun _ _ _ _ _ _ us hl => match us, hl with | [_], _ => rfl)
  obtain ⟨oct, odt, dVt, kVt, doct, pmt, ant, cdvt, ctt, oslt, rfl, lkt, hcdt, _, _⟩ := Ft.ex
  refine fn_of lk hcd sc_law (fun vs H Q E h => ?_) (fun A outer s H vs Q E hr h => ?_)
  · obtain ⟨a, ns, rfl, _⟩ := h; rfl
  · obtain ⟨sc, ns, rfl, hS, hz, hT, k⟩ := h
    obtain ⟨qq, hqq⟩ : ∃ qq, (cxOf CX0 P w K mg base N_law "law" (defScope s_law) f (.ref cL) A outer s H E).env.qual ++ "<lambda>" = qq := ⟨_, rfl⟩
    refine Exists.imp (fun t h => ⟨PSs.nox h.1, h.2⟩) (?_ : ∃ t, PSs (cxOf CX0 P w K mg base N_law "law" (defScope s_law) f (.ref cL) A outer s H E).nox (defBody s_law) t ∧ t { nx := fun _ H' => Q .non H', rt := Q } (L2.start N_law [.ref sc]) H)
    refine ⟨_, (pss_cons (ps_for PassesOwn.never rfl (pi_range1 (by rfl) Tx.f_range (pa_cons (pe_callB (call_max2 rfl) (by rfl) Tx.f_max (by decide +kernel) (pa_cons pe_int (pa_cons (pe_callB (call_min2 rfl) (by rfl) Tx.f_min (by decide +kernel) (pa_cons pe_int (pa_cons (pe_callB call_len_seq (by rfl) Tx.f_len PySem.boot_len (pa_cons (pv 0) pa_nil)) pa_nil))) pa_nil))) pa_nil)) (pg_name (i := 1) sc_law.nd rfl (Or.inl rfl))
        (pss_cons (pset 2 sc_law.nd (pe_g (g_law_source Tx) hr (pa_cons (pv 0) (pa_cons (pv 1) pa_nil))))
        (pss_cons (ps_asg (pe_tup (pa_cons (pe_g (g_law_names_of Tx) hr (pa_cons (pv 2) pa_nil)) (pa_cons (pe_g (g_law_tree_of Tx) hr (pa_cons (pv 2) (pa_cons pe_int pa_nil))) pa_nil))) (pg_tup rfl (pgs_cons (pg_name (i := 3) sc_law.nd rfl (Or.inr rfl)) (pgs_cons (pg_name (i := 4) sc_law.nd rfl (Or.inl rfl)) pgs_nil))))
        (pss_cons (pset 5 sc_law.nd (ClX.pe_cmeth (pe_glob (v := .ref (hC K)) (u := .ref (hC K)) (by rfl) Tx.g_House rfl) cR cM Fof (hr.mono (by decide)) pass0 (pa_cons (pe_g (g_law_entries Tx) hr (pa_cons (pv 4) pa_nil)) pa_nil)))
        (pss_cons (pset 6 sc_law.nd (ClX.pe_cmeth (pe_glob (v := .ref (hC K)) (u := .ref (hC K)) (by rfl) Tx.g_House rfl) cR cM Fof (hr.mono (by decide)) pass0 (pa_cons (pe_g (g_law_entries Tx) hr (pa_cons (pe_g (g_law_led_tree Tx) hr (pa_cons (pv 3) (pa_cons (pv 4) pa_nil))) pa_nil)) pa_nil)))
        (pss_one (ps_for PassesOwn.never rfl (pi_range1 (by rfl) Tx.f_range (pa_cons pe_int pa_nil)) (pg_name (i := 7) sc_law.nd rfl (Or.inl rfl))
          (pss_cons (pset 8 sc_law.nd (pe_g (g_law_specs Tx) hr (pa_cons (pv 2) (pa_cons pe_int pa_nil))))
          (pss_cons (pset 9 sc_law.nd (LamX.pe_lamcall (T := [(PL, qq)]) (k := 6) (t := tLam0 K 5 (tVar 8)) (by rfl) hmt Ft.kp lkt hcdt bt sc_law_told rfl (Or.inl rfl) (told2_gives Tx) TB rfl (List.mem_singleton.mpr (congrArg (Prod.mk PL) hqq)) (fun p hp _ => by rw [List.mem_singleton.mp hp]; exact hqq.symm) hr (LamX.lamS_by (sc := defScope s_law) (by decide +kernel)) rfl (fun _ _ _ _ _ => rfl)
              (fun A' outer' s' H' E' f' c' hr' => pe_gX (g_unpacked Tx) hr' (passes_call (takes_of rfl rfl rfl rfl) (fun _ _ _ _ h => h)) (pa_cons (pv 5) (pa_cons (pe_lc (own := [("_law_spec_here", 11)]) (g := gName 11) (tt := tYes) rfl sc_law.nd (pi_list (pv 8)) (blkOk_by (N := N_law) (by kernel_rfl))
                (fun _ _ _ _ _ => pg_name (i := 11) sc_law.nd rfl (Or.inl rfl)) (fun _ _ _ _ _ => pts_nil) (fun _ _ _ _ _ => pe_g (g_law_made Tx) hr' (pa_cons (pv 11) pa_nil))) pa_nil)))))
          (pss_cons (pset 10 sc_law.nd (LamX.pe_lamcall (T := [(PL, qq)]) (k := 6) (t := tLam0 K 6 (tG (spLedSpecs K) E0 (tCons (tVar 3) (tCons (tVar 8) tNil)))) (by rfl) hmt Ft.kp lkt hcdt bt sc_law_told rfl (Or.inl rfl) (told2_gives Tx) TB rfl (List.mem_singleton.mpr (congrArg (Prod.mk PL) hqq)) (fun p hp _ => by rw [List.mem_singleton.mp hp]; exact hqq.symm) hr (LamX.lamS_by (sc := defScope s_law) (by decide +kernel)) rfl (fun _ _ _ _ _ => rfl)
              (fun A' outer' s' H' E' f' c' hr' => pe_gX (g_unpacked Tx) hr' (passes_call (takes_of rfl rfl rfl rfl) (fun _ _ _ _ h => h)) (pa_cons (pv 6) (pa_cons (pe_lc (own := [("_law_spec_here", 11)]) (g := gName 11) (tt := tYes) rfl sc_law.nd (pi_list (pe_g (g_law_led_specs Tx) hr' (pa_cons (pv 3) (pa_cons (pv 8) pa_nil)))) (blkOk_by (N := N_law) (by kernel_rfl))
                (fun _ _ _ _ _ => pg_name (i := 11) sc_law.nd rfl (Or.inl rfl)) (fun _ _ _ _ _ => pts_nil) (fun _ _ _ _ _ => pe_g (g_law_made Tx) hr' (pa_cons (pv 11) pa_nil))) pa_nil)))))
          (pss_cons (ps_if (PW.pt (pw_or (pt_cmpR op_ne (pe_ix ix_seq (pv 9) pe_int (fun _ _ => rfl)) (pe_ix ix_seq (pv 10) pe_int (fun _ _ => rfl)) rfl)
              (pw_or1 (pw_and (pt_cmpR op_eq (pe_ix ix_seq (pv 9) pe_int (fun _ _ => rfl)) pe_str rfl) (pw_and1 (pt_cmpR (op_neT hr.units0) (pv 9) (pv 10) rfl))).pt))) (pss_one (ps_ret pe_bl)) pss_nil)
          (pss_one (ps_if (PW.pt (pw_and (pt_cmpR op_eq (pe_ix ix_seq (pv 9) pe_int (fun _ _ => rfl)) pe_str rfl) (pw_and1 (pt_not (pt_val (pe_g (g_law_right Tx) hr (pa_cons (pe_ix ix_seq (pv 9) pe_int (fun _ _ => rfl)) (pa_cons (pe_ix ix_seq (pv 10) pe_int (fun _ _ => rfl)) (pa_cons (pv 3) pa_nil))))))))) (pss_one (ps_ret pe_bl)) pss_nil)))))))))))))
      (pss_one (ps_ret pe_bl))), ?_⟩
    have S1 : Same H H := Same.refl H
    refine ⟨_, rfl, sc, _, rfl, .inl hS, _, _, rfl, _, _, rfl, _, rfl, ?_, ?_, ?_⟩
    · rw [List.length_map]; split <;> split <;> omega
    · rw [List.length_map]; split <;> split <;> omega
    refine for_it (L2.walk_range (lo := 0)) (fun i σ H' => (∃ x1 x2 x3 x4 x5 x6 x7 x8 x9 x10, σ = [some (.ref sc), x1, x2, x3, x4, x5, x6, x7, x8, x9, x10, none]) ∧ SqL K (flt kT H') sc (ns.map V.int) ∧ LamX.Tabs [(PL, qq)] H') ?_ ?_ ?_ ?_
    · refine ⟨⟨_, _, _, _, _, _, _, _, _, _, rfl⟩, sqL_fltT hS, fun p hp => ?_⟩
      rw [List.mem_singleton.mp hp]
      exact LamX.TabS.nil hT
    · exact fun _ _ _ _ _ => trivial
    · rintro i x σ H0 H' hi ⟨⟨x1, x2, x3, x4, x5, x6, x7, x8, x9, x10, rfl⟩, hsc, hTb⟩ ⟨rfl, rfl⟩
      have hi4 : i < 4 := by
        rw [List.length_map] at hi
        revert hi
        split <;> split <;> omega
      refine ⟨_, rfl, _, rfl, sc, ns, _, flt_sub.seq hsc, hz, by omega, by omega, rfl, fun a H1 s1 ha hsr => ?_⟩
      refine ⟨_, rfl, a, 0, hsr, by omega, rfl, fun ld ν H2 N hld hlda D2 => ?_⟩
      refine ⟨_, rfl, a, 0 + 7, D2.src, by omega, rfl, fun t T H3 WT zL zF hTr D3 => ?_⟩
      have hsr2 := D2.src
      have hld3 : LedAt H3 ld ν := by
        obtain ⟨kvs, e1, e2⟩ := hld
        exact ⟨kvs, D3.at e1 hlda, e2⟩
      have sc3 : SqL K (flt kT (hid H3 [a])) sc (ns.map V.int) := by
        refine (flt_same (k := kT) (D2.same.trans D3.same)).seq ((show Same (flt kT H') (flt kT (hid H1 [a])) from fun b o hb => ?_).seq hsc)
        obtain ⟨g1, g2⟩ := flt_some hb
        exact flt_at (hid_at (s1 _ _ g1) fun z => by rw [List.mem_singleton.mp z, ha] at g1; cases g1) g2
      have hTb3 := tabs_drew (tabs_drew (hTb.ext s1) ⟨_, hsr⟩ D2) ⟨_, hsr2⟩ D3
      refine ⟨sizeB' (Nat.le_of_ble_eq_true rfl), fun p hp => ⟨p, _, rfl, SqT.of upd_same, rfl, _, _, rfl, _, _, rfl, rfl, ?_⟩⟩
      have s4 : Same H3 (upd H3 p (.tup [.ref ld, .ref t])) := same_new hp
      refine ⟨rfl, _, rfl, wd, t, T, hTr.mono s4, WT, by omega, rfl, fun l evs ps H5 s5 hl O hpl hev => ?_⟩
      have hLe := houseOf_len (ents T ps)
      have hel : (ents T ps).length = ps.length := by simp [ents]
      refine ⟨wd, T, ps, l, evs, wd_nm, WT, O, hTr.fok, by omega, SqL.of hl, hev, rfl, fun h H6 s6 hA _ _ => ?_⟩
      have s36 := (s4.trans s5).trans s6
      refine ⟨rfl, _, rfl, _, rfl, ν, ld, t, T, N, hld3.mono s36, hTr.mono s36, WT, by omega, rfl, fun t' H7 s7 hT' => ?_⟩
      refine ⟨ν, t', T, hT', WT, by omega, rfl, fun l' evs' ps' H8 s8 hl' O' hpl' hev' => ?_⟩
      have hLe' := houseOf_len (ents T ps')
      have hel' : (ents T ps').length = ps'.length := by simp [ents]
      refine ⟨ν, T, ps', l', evs', N, WT, O', hTr.fok, by omega, SqL.of hl', hev', rfl, fun o H9 s9 hB _ _ => ?_⟩
      have hIso : Iso (houseOf (ents T ps)) (houseOf (ents T ps')) := (houseOf_iso WT O).1.symm.trans (houseOf_iso WT O').1
      have s69 := (s7.trans s8).trans s9
      have s39 := s36.trans s69
      have hA9 := (hA.mono s69).core
      have hB9 := hB.core
      generalize houseOf (ents T ps) = SA at *
      generalize houseOf (ents T ps') = SB at *
      refine ⟨_, rfl, by omega, by omega, ?_⟩
      refine for_it (L2.walk_range (lo := 0)) (fun j σ G => (∃ x1 x4 x7 x8 x9 x10, σ = [some (.ref sc), x1, some (.ref a), some (.ref ld), x4, some (.ref h), some (.ref o), x7, x8, x9, x10, none]) ∧ SqL K (flt kT (hid G [a])) sc (ns.map V.int) ∧ LamX.Tabs [(PL, qq)] G ∧
        SrcAt G a (20007 + 20000 * j) ∧ HouseAt K wd (flt kC G) h SA ∧ HouseAt K ν (flt kC G) o SB ∧ LedAt (flt kC G) ld ν) ?_ ?_ ?_ ?_
      · exact ⟨⟨_, _, _, _, _, _, rfl⟩, (flt_same (hid_same s39)).seq sc3, hTb3.ext s39, (D3.src.le (by omega)).mono s39, hA9, hB9, (hld3.mono s39).core⟩
      · exact fun _ _ _ _ _ => trivial
      · rintro j y σ G G' hj ⟨⟨x1, x4, x7, x8, x9, x10, rfl⟩, hsc, hTb, hsr, hA, hB, hld⟩ ⟨rfl, rfl⟩
        have hj4 : j < 4 := hj
        refine ⟨_, rfl, a, 20007 + 20000 * j, 12, hsr, by omega, by decide, by decide, rfl, fun l svs sps G1 hl0 hl hsv hok hlen D => ?_⟩
        have hlen' : sps.length ≤ 12 := by omega
        have cC := fltC_drew ⟨_, hsr⟩ D
        have hTb1 := tabs_drew hTb ⟨_, hsr⟩ D
        refine ⟨hTb1, fun G2 e2 hTb2 => ?_⟩
        have c2 := cC.trans (fltC_ext e2)
        have hl2 : G2 l = some (.lst svs) := e2 _ _ hl (fun _ z => by cases z)
        have hsv2 : Paired (SpecAt K wd G2) svs sps := Paired.mapP hsv fun v sp z => (((z.mono fr_sub0).fltT).mono (fltT_ext e2)).mono flt_sub
        have hsr2 := D.src.extN e2
        have sc2 := (fltH_ext e2).seq ((flt_same (k := kT) D.same).seq hsc)
        have two : ∀ (G3 : Hp) (p9 : Addr) (Q : VK), Same G2 G3 → (∀ G4, LamX.ExtN G3 G4 → LamX.Tabs [(PL, qq)] G4 → OutTo K ν G4 Q (run SB 0 sps)) →
            LamX.tLam [(PL, qq)] (TT2 K) (tLam0 K 6 (tG (spLedSpecs K) E0 (tCons (tVar 3) (tCons (tVar 8) tNil)))) [some (.ref sc), x1, some (.ref a), some (.ref ld), x4, some (.ref h), some (.ref o), some (.int (0 + (j : Int))), some (.ref l), some (.ref p9), x10, none] G3 Q := by
          intro G3 p9 Q s3 hQ
          refine ⟨hTb2.ext s3, fun G4 e4 hTb4 => ?_⟩
          have c4 := (c2.trans (flt_same (k := kC) s3)).trans (fltC_ext e4)
          refine told_run (h := o) (S := SB) (sps := sps) rfl N ((hB.mono c4).mono flt_sub) (by omega) (by omega) hok hlen' (fun Q hq => ?_) (hQ G4 e4 hTb4)
          exact ⟨_, rfl, _, rfl, ν, ld, l, svs, sps, N, (hld.mono c4).mono flt_sub, e4 _ _ (s3 _ _ hl2) (fun _ z => by cases z), Paired.mapP hsv2 fun v sp z => (((z.mono s3).fltT).mono (fltT_ext e4)).mono flt_sub, hok, by omega, rfl, fun l' svs' H' s' hl' hsv' => hq l' svs' H' s' hl' hsv'⟩
        have fin : ∀ (G3 G4 G7 : Hp), Same G2 G3 → LamX.ExtN G3 G4 → LamX.Tabs [(PL, qq)] G4 → Same G4 G7 → SqL K (flt kT (hid G7 [a])) sc (ns.map V.int) ∧ LamX.Tabs [(PL, qq)] G7 ∧
            SrcAt G7 a (20007 + 20000 * (j + 1)) ∧ HouseAt K wd (flt kC G7) h SA ∧ HouseAt K ν (flt kC G7) o SB ∧ LedAt (flt kC G7) ld ν := by
          intro G3 G4 G7 s3 e4 t4 s7
          have c7 := ((c2.trans (flt_same (k := kC) s3)).trans (fltC_ext e4)).trans (flt_same (k := kC) s7)
          exact ⟨(flt_same (hid_same s7)).seq ((fltH_ext e4).seq ((flt_same (hid_same s3)).seq sc2)), t4.ext s7, (((hsr2.mono s3).extN e4).mono s7).le (by omega), hA.mono c7, hB.mono c7, hld.mono c7⟩
        refine told_run (h := h) (S := SA) (sps := sps) rfl wd_nm ((hA.mono c2).mono flt_sub) (by omega) (by omega) hok hlen' (fun Q hq => ⟨_, rfl, hq l svs G2 (Same.refl _) hl2 hsv2⟩) ?_
        have hI := Iso.run sps 0 hIso
        cases eA : run SA 0 sps with
        | ok A' =>
          rw [eA] at hI
          refine fun a' H' p' sH hA' zA hp' => ?_
          have sN : Same H' (upd H' p' (.tup [.str "none", .ref a'])) := same_new hp'
          refine two _ _ _ (sH.trans sN) fun G4 e4 hTb4 => ?_
          cases eB : run SB 0 sps with
          | error e => rw [eB] at hI; exact hI.elim
          | ok B' =>
            rw [eB] at hI
            refine fun b' H5 p5 s5 hB' zB hp5 => ?_
            have s6 : Same H5 (upd H5 p5 (.tup [.str "none", .ref b'])) := same_new hp5
            have h9 : SqT K (upd H5 p5 (.tup [.str "none", .ref b'])) p' [.str "none", .ref a'] := SqT.of (s6 _ _ (s5 _ _ (e4 _ _ upd_same (fun _ z => by cases z))))
            have h10 : SqT K (upd H5 p5 (.tup [.str "none", .ref b'])) p5 [.str "none", .ref b'] := SqT.of upd_same
            refine ⟨_, rfl, .inr (.inl ⟨_, _, _, _, rfl, rfl, h9, rfl, _, rfl, .inr (.inl ⟨_, _, _, _, rfl, rfl, h10, rfl, ?_⟩)⟩)⟩
            refine ⟨rfl, _, rfl, ?_⟩
            rw [decide_eq_true (rfl : V.str (Str.ofString "none") = V.str (Str.ofString "none"))]
            refine iteF ⟨_, rfl, .inr (.inl ⟨_, _, _, _, rfl, rfl, h9, rfl, rfl, _, rfl, ?_⟩)⟩
            rw [strNe (by decide +kernel)]
            refine iteF (iteF ⟨_, rfl, .inr (.inl ⟨_, _, _, _, rfl, rfl, h9, rfl, rfl, _, rfl, ?_⟩)⟩)
            rw [decide_eq_true (rfl : V.str (Str.ofString "none") = V.str (Str.ofString "none"))]
            refine iteT' ⟨_, rfl, .inr (.inl ⟨_, _, _, _, rfl, rfl, h9, rfl, _, rfl, .inr (.inl ⟨_, _, _, _, rfl, rfl, h10, rfl, _, rfl, ?_⟩)⟩)⟩
            have s46 := s5.trans s6
            have c4 := ((c2.trans (flt_same (k := kC) (sH.trans sN))).trans (fltC_ext e4)).trans (flt_same (k := kC) s46)
            have hA4 := (((hA'.mono sN).core).mono ((fltC_ext e4).trans (flt_same (k := kC) s46))).mono flt_sub
            refine ⟨ν, a', b', ld, A', B', N, (hld.mono c4).mono flt_sub, hA4, hB'.mono s6, hI, zA, zB, rfl, fun H7 s7 => ?_⟩
            exact ⟨_, rfl, iteF ⟨⟨_, _, _, _, _, _, rfl⟩, fin _ _ _ (sH.trans sN) e4 hTb4 (s46.trans s7)⟩⟩
        | error e =>
          rw [eA] at hI
          refine fun H' p' sH hp' => ?_
          have sN : Same H' (upd H' p' (.tup [.str "refused", .int (e.1 : Int), .str e.2])) := same_new hp'
          refine two _ _ _ (sH.trans sN) fun G4 e4 hTb4 => ?_
          cases eB : run SB 0 sps with
          | ok B' => rw [eB] at hI; exact hI.elim
          | error e' =>
            rw [eB] at hI
            obtain rfl : e = e' := hI
            refine fun H5 p5 s5 hp5 => ?_
            have s6 : Same H5 (upd H5 p5 (.tup [.str "refused", .int (e.1 : Int), .str e.2])) := same_new hp5
            have h9 : SqT K (upd H5 p5 (.tup [.str "refused", .int (e.1 : Int), .str e.2])) p' [.str "refused", .int (e.1 : Int), .str e.2] := SqT.of (s6 _ _ (s5 _ _ (e4 _ _ upd_same (fun _ z => by cases z))))
            have h10 : SqT K (upd H5 p5 (.tup [.str "refused", .int (e.1 : Int), .str e.2])) p5 [.str "refused", .int (e.1 : Int), .str e.2] := SqT.of upd_same
            refine ⟨_, rfl, .inr (.inl ⟨_, _, _, _, rfl, rfl, h9, rfl, _, rfl, .inr (.inl ⟨_, _, _, _, rfl, rfl, h10, rfl, ?_⟩)⟩)⟩
            refine ⟨rfl, _, rfl, ?_⟩
            rw [decide_eq_true (rfl : V.str (Str.ofString "refused") = V.str (Str.ofString "refused"))]
            refine iteF ⟨_, rfl, .inr (.inl ⟨_, _, _, _, rfl, rfl, h9, rfl, rfl, _, rfl, ?_⟩)⟩
            rw [decide_eq_true (rfl : V.str (Str.ofString "refused") = V.str (Str.ofString "refused"))]
            refine iteT' ⟨_, rfl, _, rfl, p', p5, _, rfl, rfl, h9, h10, rfl, _, rfl, ?_⟩
            refine iteF ⟨_, rfl, .inr (.inl ⟨_, _, _, _, rfl, rfl, h9, rfl, rfl, _, rfl, ?_⟩)⟩
            rw [strNe (by decide +kernel)]
            exact iteF (iteF ⟨⟨_, _, _, _, _, _, rfl⟩, fin _ _ _ (sH.trans sN) e4 hTb4 (s5.trans s6)⟩)
      · rintro σ G ⟨⟨x1, x4, x7, x8, x9, x10, rfl⟩, hsc, hTb, _⟩
        exact ⟨⟨_, _, _, _, _, _, _, _, _, _, rfl⟩, (flt_same hid_sub).seq hsc, hTb⟩
    · exact fun σ H' _ => k H'
end K89
set_option Elab.async false
set_option linter.all false
set_option maxRecDepth 100000
set_option maxHeartbeats 4000000
/-! K89.E1: what the head tells. -/
namespace K89
open PySem PySem.Spec PyProof.Rows L2
abbrev FnC : Type := Option (Str × Str × Arguments × FuncBody × Scope × Addr × Addr)
/-- the function at a -/
def funAt (K : PySem.W.Frag) (a : Addr) : Option FuncData := (K.lookup a).bind fun o => match o.data with
  | .func fd => some fd
  | _ => none
theorem funAt_ok {K : PySem.W.Frag} {a : Addr} {fd : FuncData} (h : funAt K a = some fd) : ∃ (c : Value) (d : Option Addr) (sl : Array (Option Value)), K.lookup a = some ⟨c, d, .func fd, sl⟩ := by
  obtain ⟨⟨c, d, dt, sl⟩, e, h⟩ := Option.bind_eq_some_iff.mp h
  cases dt with
  | func f =>
    obtain rfl : f = fd := Option.some.inj h
    exact ⟨c, d, sl, e⟩
  | _ => cases h
def tellF (fd : FuncData) : Str × Str × Arguments × FuncBody × Scope × Addr × Addr := (fd.name, fd.qualname, fd.params, fd.body, fd.scope, fd.globals, fd.builtins)
def fnC (K : PySem.W.Frag) (a : Addr) : FnC := (funAt K a).map tellF
def valC (d : He.DefD) : FnC := some (d.name, d.qual, d.params, .stmts d.body, d.scope, mainGlobals, builtinsNs)
/-- the function is the def d, but for what the text does not say -/
theorem is_def {K : PySem.W.Frag} {a : Addr} {d : He.DefD} (e : fnC K a = valC d) : ∃ fd, funAt K a = some fd ∧ ∀ {dV : Value} {cl : List (Str × Addr)}, fd.defaults = dV → fd.closure = cl →
    fd = PySem.W.fnX d.name d.qual d.params d.body d.scope cl dV fd.kwdefaults fd.doc fd.pyModule fd.annotations fd.code fd.closureTuple := by
  obtain ⟨fd, h, t⟩ := Option.map_eq_some_iff.mp (show (funAt K a).map tellF = some _ from e)
  refine ⟨fd, h, fun hd hc => ?_⟩
  cases fd
  cases hd
  cases hc
  simp only [tellF, Prod.mk.injEq] at t
  obtain ⟨rfl, rfl, rfl, rfl, rfl, rfl, rfl⟩ := t
  rfl
def noneB : Value → Bool
  | .none => true
  | _ => false
theorem noneB_ok {v : Value} (h : noneB v = true) : v = .none := by
  cases v with
  | none => rfl
  | _ => cases h
/-- a plain def -/
def plainB (K : PySem.W.Frag) (a : Addr) (q : Str) : Bool := PySem.W.keepIn K (.ref a) && (funAt K a).any fun fd => PySem.W.codeIn K fd.code q && (noneB fd.defaults && fd.closure.isEmpty)
theorem plain_funD {K : PySem.W.Frag} {a : Addr} {d : He.DefD} (e : fnC K a = valC d) (c : plainB K a d.qual = true) : ∃ fd, FunD K d.name d.qual d.params d.body d.scope [] [] a fd := by
  obtain ⟨fd, h, m⟩ := is_def e
  obtain ⟨o, od, sl, lk⟩ := funAt_ok h
  unfold plainB at c
  rw [h, Option.any_some] at c
  obtain ⟨kp, c⟩ := He.ba c
  obtain ⟨code, c⟩ := He.ba c
  obtain ⟨df, cl⟩ := He.ba c
  exact ⟨fd, ⟨o, od, .none, _, _, _, _, fd.code, _, sl, m (noneB_ok df) (List.isEmpty_iff.mp cl), lk, code, .inl ⟨rfl, rfl⟩, .inl rfl⟩, kp⟩
/-- the def's code object and its class's cell -/
def cdaOf (K : PySem.W.Frag) (a : Addr) : Addr := match (funAt K a).map FuncData.code with
  | some (.ref c) => c
  | _ => 0
def ccOf (K : PySem.W.Frag) (a : Addr) : Addr := match (funAt K a).map FuncData.closure with
  | some [(_, c)] => c
  | _ => 0
def strB (x : Str) : Value → Bool
  | .str y _ => x == y
  | _ => false
theorem strB_ok {x : Str} {v : Value} (h : strB x v = true) : ∃ y t, v = .str y t ∧ (x == y) = true := by
  cases v with
  | str y t => exact ⟨y, t, rfl, h⟩
  | _ => cases h
def closB : List (Str × Addr) → Bool
  | [(x, _)] => decide (x = ("__class__" : Str))
  | _ => false
theorem closB_ok {l : List (Str × Addr)} (h : closB l = true) : ∃ c, l = [(("__class__" : Str), c)] := by
  match l, h with
  | [(x, c)], h => exact ⟨c, by rw [of_decide_eq_true h]⟩
def fileB (K : PySem.W.Frag) (c : Addr) (file : Str) : Bool := match K.lookup c with
  | some ⟨_, _, .fields vs, _⟩ => (match vs[2]? with
    | some v => strB file v
    | none => false)
  | _ => false
def cellB (K : PySem.W.Frag) (c D : Addr) : Bool := match K.lookup c with
  | some ⟨_, _, .cell (some (.ref D')), _⟩ => decide (D' = D)
  | _ => false
def selfB (fd : FuncData) : Bool := match (fd.params.posonlyargs ++ fd.params.args).head? with
  | some ar => decide (ar.arg = ("self" : Str))
  | none => false
theorem selfB_ok {fd : FuncData} (h : selfB fd = true) : ∃ ar, (fd.params.posonlyargs ++ fd.params.args).head? = some ar ∧ ar.arg = ("self" : Str) := by
  unfold selfB at h
  cases e : (fd.params.posonlyargs ++ fd.params.args).head? with
  | none =>
    rw [e] at h
    cases h
  | some ar =>
    rw [e] at h
    exact ⟨ar, rfl, of_decide_eq_true h⟩
def supB (K : PySem.W.Frag) (a D : Addr) (q file : Str) : Bool := (funAt K a).any (fun fd => PySem.W.codeIn K fd.code q && (noneB fd.defaults && (selfB fd && closB fd.closure))) &&
  (fileB K (cdaOf K a) file && (cellB K (ccOf K a) D && ((PySem.W.clsIn K D).isSome && He.eqO (PySem.W.nsIn K cStatics "thirdparty.any") (some none))))
theorem fileB_ok {K : PySem.W.Frag} {c : Addr} {file : Str} (h : fileB K c file = true) : ∃ (o : Value) (d : Option Addr) (vs : Array Value) (sl : Array (Option Value)) (x : Str) (t : Tok), K.lookup c = some ⟨o, d, .fields vs, sl⟩ ∧ vs[2]? = some (.str x t) ∧ (file == x) = true := by
  unfold fileB at h
  split at h
  · rename_i o d vs sl lk
    split at h
    · rename_i v e
      obtain ⟨x, t, rfl, h⟩ := strB_ok h
      exact ⟨o, d, vs, sl, x, t, lk, e, h⟩
    · cases h
  · cases h
theorem cellB_ok {K : PySem.W.Frag} {c D : Addr} (h : cellB K c D = true) : ∃ (o : Value) (d : Option Addr) (sl : Array (Option Value)), K.lookup c = some ⟨o, d, .cell (some (.ref D)), sl⟩ := by
  unfold cellB at h
  split at h
  · rename_i o d D' sl lk
    obtain rfl := of_decide_eq_true h
    exact ⟨o, d, sl, lk⟩
  · cases h
theorem sup_ok {P : Program} {K : PySem.W.Frag} {mg : Str → Option Value} {d : He.DefD} {a D : Addr} (e : fnC K a = valC d) (c : supB K a D d.qual P.main.file = true) (hs : mg "super" = none) (htop : (P.main.scope.names.lookup ("super" : Str)).isSome = false) :
    SupF P K mg d D a (cdaOf K a) (ccOf K a) := by
  obtain ⟨fd, h, m⟩ := is_def e
  obtain ⟨o, od, sl, lk⟩ := funAt_ok h
  obtain ⟨c1, c⟩ := He.ba c
  obtain ⟨file, c⟩ := He.ba c
  obtain ⟨cell, c⟩ := He.ba c
  obtain ⟨cls, none⟩ := He.ba c
  rw [h, Option.any_some] at c1
  obtain ⟨code, c1⟩ := He.ba c1
  obtain ⟨df, c1⟩ := He.ba c1
  obtain ⟨self, cl⟩ := He.ba c1
  obtain ⟨cda, hcd⟩ := He.codeIn_ref code
  obtain ⟨cc, hcc⟩ := closB_ok cl
  obtain ⟨ar, h1, h2⟩ := selfB_ok self
  have e1 : cdaOf K a = cda := by
    unfold cdaOf
    rw [h, Option.map_some, hcd]
  have e2 : ccOf K a = cc := by
    unfold ccOf
    rw [h, Option.map_some, hcc]
  rw [e1] at file ⊢
  rw [e2] at cell ⊢
  obtain ⟨o2, d2, vs, sl2, x, t, f1, f2, f3⟩ := fileB_ok file
  have whole := m (noneB_ok df) hcc
  rw [hcd] at code whole
  exact ⟨⟨o, _, _, _, _, od, _, sl, lk.trans (congrArg (fun z => some (⟨o, od, .func z, sl⟩ : Obj)) whole)⟩, code, ⟨⟨o, od, fd, sl, ar, lk, h1, h2⟩, ⟨o2, d2, vs, sl2, x, t, f1, f2, f3⟩, cellB_ok cell, Option.isSome_iff_exists.mp cls, hs, htop, He.eqO_ok none⟩⟩
theorem six {α : Type} : ∀ {l : List α}, l.length = 6 → ∃ a b c d e f, l = [a, b, c, d, e, f]
  | [a, b, c, d, e, f], _ => ⟨a, b, c, d, e, f, rfl⟩
/-- a class over RuntimeError -/
def rtB (K : PySem.W.Frag) (C : Addr) : Bool := (K.lookup C).any fun o => decide (o.cls = .type "type") && ((match o.data with
  | .cls cd => decide (cd.mro = .ref C :: K89X.rtTail) && (cd.hasDict && !cd.hasDel)
  | _ => false) && (decide (o.slots.toList.length = 6) && decide (o.slots.toList[4]? = some (some (.builtin "RuntimeError.__new__")))))
theorem rt_ok {K : PySem.W.Frag} {C : Addr} (q : rtB K C = true) : ∃ nm q N bs sn sub ab col dd k0 k1 k2 k3 k5, K.lookup C = some (excClassObj nm q C N bs K89X.rtTail true sn sub ab col dd k0 k1 k2 k3 k5 "RuntimeError.__new__") := by
  unfold rtB at q
  obtain ⟨⟨c, d, dt, ⟨l⟩⟩, lk⟩ : ∃ o, K.lookup C = some o := by
    cases e : K.lookup C with
    | none =>
      rw [e] at q
      cases q
    | some o => exact ⟨o, rfl⟩
  rw [lk, Option.any_some] at q
  obtain ⟨q1, q⟩ := He.ba q
  obtain ⟨q2, q⟩ := He.ba q
  obtain ⟨q3, q4⟩ := He.ba q
  have c1 := of_decide_eq_true q1
  have l1 := of_decide_eq_true q3
  have l2 := of_decide_eq_true q4
  obtain ⟨k0, k1, k2, k3, k4, k5, rfl⟩ := six l1
  obtain rfl : k4 = some (.builtin "RuntimeError.__new__") := Option.some.inj l2
  cases dt with
  | cls cd =>
    obtain ⟨m, q2⟩ := He.ba q2
    obtain ⟨hd, nd⟩ := He.ba q2
    have m : cd.mro = .ref C :: K89X.rtTail := of_decide_eq_true m
    have nd : cd.hasDel = false := by
      cases e : cd.hasDel with
      | false => rfl
      | true =>
        rw [e] at nd
        cases nd
    have shape : cd = ClassData.mk cd.name cd.bases (.ref C :: K89X.rtTail) cd.ns cd.qualname true cd.slotNames cd.subclasses cd.abstract cd.collection false := by
      cases cd
      cases m
      cases hd
      cases nd
      rfl
    obtain rfl : c = .type "type" := c1
    exact ⟨cd.name, cd.qualname, cd.ns, cd.bases, cd.slotNames, cd.subclasses, cd.abstract, cd.collection, d, k0, k1, k2, k3, k5, lk.trans (congrArg (fun z => some ({ cls := .type "type", dict := d, data := .cls z, slots := _ } : Obj)) shape)⟩
  | _ => cases q2
/-- a classmethod: its record, its def -/
def cmP (K : PySem.W.Frag) (C : Addr) (m : Str) : Addr := match PySem.W.findCls K (.ref C) (.type "type") m with
  | some (.get _ (.ref p) _ _) => p
  | _ => 0
def cmG (K : PySem.W.Frag) (C : Addr) (m : Str) : Addr := match PySem.W.recIn K (cmP K C m) "classmethod" with
  | some (.ref g :: _) => g
  | _ => 0
def cmB (K : PySem.W.Frag) (C : Addr) (m : Str) : Bool := PySem.W.readsIn K C (.type "type") && (He.eqO (PySem.W.specialIn K (.ref C) "__getattribute__") (some (some (.builtin "type.__getattribute__"))) && ((match PySem.W.findCls K (.ref C) (.type "type") m with
  | some (.get (.builtin b) (.ref _) .none (.ref C')) => decide (b = "classmethod.__get__") && decide (C' = C)
  | _ => false) && ((match PySem.W.recIn K (cmP K C m) "classmethod" with
  | some (.ref _ :: _) => true
  | _ => false) && PySem.W.fnIn K (cmG K C m))))
theorem cm_ok {K : PySem.W.Frag} {C : Addr} {m : Str} (c : cmB K C m = true) : ClX.CRead K C (.type "type") ∧ ClX.CMet K C (.type "type") m (cmP K C m) (cmG K C m) := by
  obtain ⟨c1, c⟩ := He.ba c
  obtain ⟨c2, c⟩ := He.ba c
  obtain ⟨c3, c⟩ := He.ba c
  obtain ⟨c4, c5⟩ := He.ba c
  refine ⟨⟨c1, He.eqO_ok c2⟩, ?_, ?_, c5⟩
  · unfold cmP
    split at c3
    · rename_i b p C' h
      obtain ⟨z1, z2⟩ := He.ba c3
      rw [h, of_decide_eq_true z1, of_decide_eq_true z2]
    · cases c3
  · unfold cmG
    split at c4
    · rename_i g rest h
      exact ⟨rest, by rw [h]⟩
    · cases c4
end K89
set_option Elab.async false
set_option linter.all false
set_option maxRecDepth 100000
set_option maxHeartbeats 4000000
/-! K89.E2: the head's facts, the hook. -/
namespace K89
open PySem PySem.Spec PyProof.Rows L2
def fas : List He.Fa := [
  .free "len",
  .free "isinstance",
  .free "range",
  .free "all",
  .free "any",
  .free "sorted",
  .free "dict",
  .free "list",
  .free "bytes",
  .free "enumerate",
  .free "max",
  .free "min",
  .free "abs",
  .free "int",
  .free "bool",
  .free "str",
  .free "tuple",
  .free "super",
  .str "LETTERS" lettersS,
  .int "MOST_NAME" 250,
  .int "MOST_DATA" 4096,
  .int "MOST_PIECES" 50,
  .int "MOST_MODE" 4095,
  .int "MOST_TIME" 8589934591,
  .glo "MADE",
  .glo "is_integer",
  .glo "is_within",
  .glo "blob",
  .glo "is_name",
  .glo "is_path",
  .glo "look_name",
  .glo "look_stamps",
  .glo "is_piece",
  .glo "are_spans",
  .glo "are_pieces",
  .meth "File" "content",
  .meth "Sparse" "content",
  .glo "above",
  .glo "are_stamps",
  .glo "is_thing",
  .glo "is_entry",
  .glo "are_of_one_house",
  .meth "House" "__init__",
  .meth "House" "set_thing",
  .meth "House" "share",
  .meth "House" "settle",
  .meth "House" "kind_at",
  .meth "House" "copied",
  .meth "House" "entries",
  .meth "House" "sharers",
  .meth "House" "thing_at",
  .meth "House" "has",
  .meth "House" "__len__",
  .glo "refusal",
  .glo "refusal_at",
  .glo "put_at",
  .glo "put_member",
  .glo "unpack_one",
  .glo "unpacked",
  .glo "_law_source",
  .glo "_law_draw",
  .glo "_law_path",
  .glo "_law_numbers",
  .glo "_law_stamps",
  .glo "_law_pieces",
  .glo "_law_spec",
  .glo "_law_made",
  .glo "_law_specs",
  .glo "_law_tree",
  .glo "_law_copied",
  .glo "_law_above",
  .glo "_law_kind",
  .glo "_law_is_path",
  .glo "_law_word",
  .glo "_law_content",
  .glo "_law_stepped",
  .glo "_law_entries",
  .glo "_law_told",
  .glo "_law_tree_of",
  .glo "_law_led",
  .glo "_law_led_specs",
  .glo "_law_led_tree",
  .glo "_law_names_of",
  .glo "_law_right",
  .glo "law",
  .cls "House",
  .glo "House",
  .mkr "House",
  .noat "House" "standing",
  .noat "House" "files",
  .noat "House" "rows",
  .noat "File" "name",
  .noat "File" "mode",
  .noat "File" "time",
  .noat "File" "key",
  .noat "File" "data",
  .noat "File" "size",
  .noat "File" "pieces",
  .noat "File" "target",
  .cls "File",
  .glo "File",
  .mkr "File",
  .noat "Sparse" "name",
  .noat "Sparse" "mode",
  .noat "Sparse" "time",
  .noat "Sparse" "key",
  .noat "Sparse" "data",
  .noat "Sparse" "size",
  .noat "Sparse" "pieces",
  .noat "Sparse" "target",
  .cls "Sparse",
  .glo "Sparse",
  .mkr "Sparse",
  .noat "Directory" "name",
  .noat "Directory" "mode",
  .noat "Directory" "time",
  .noat "Directory" "key",
  .noat "Directory" "data",
  .noat "Directory" "size",
  .noat "Directory" "pieces",
  .noat "Directory" "target",
  .cls "Directory",
  .glo "Directory",
  .mkr "Directory",
  .noat "Symlink" "name",
  .noat "Symlink" "mode",
  .noat "Symlink" "time",
  .noat "Symlink" "key",
  .noat "Symlink" "data",
  .noat "Symlink" "size",
  .noat "Symlink" "pieces",
  .noat "Symlink" "target",
  .cls "Symlink",
  .glo "Symlink",
  .mkr "Symlink",
  .noat "Link" "name",
  .noat "Link" "mode",
  .noat "Link" "time",
  .noat "Link" "key",
  .noat "Link" "data",
  .noat "Link" "size",
  .noat "Link" "pieces",
  .noat "Link" "target",
  .cls "Link",
  .glo "Link",
  .mkr "Link",
  .glo "Refused",
  .noat "Refused" "index",
  .noat "Refused" "word"]
def exs (K : PySem.W.Frag) : List Bool := [
  He.tupB K "MADE" [.str "directory", .int 493, .int 0],
  plainB K (He.ga K "is_integer") d_is_integer.qual,
  plainB K (He.ga K "is_within") d_is_within.qual,
  plainB K (He.ga K "blob") d_blob.qual,
  plainB K (He.ga K "is_name") d_is_name.qual,
  plainB K (He.ga K "is_path") d_is_path.qual,
  plainB K (He.ga K "look_name") d_look_name.qual,
  plainB K (He.ga K "look_stamps") d_look_stamps.qual,
  plainB K (He.ga K "is_piece") d_is_piece.qual,
  plainB K (He.ga K "are_spans") d_are_spans.qual,
  plainB K (He.ga K "are_pieces") d_are_pieces.qual,
  plainB K (He.ma K (He.ga K "File") "content") d_File_content.qual,
  plainB K (He.ma K (He.ga K "Sparse") "content") d_Sparse_content.qual,
  plainB K (He.ga K "above") d_above.qual,
  plainB K (He.ga K "are_stamps") d_are_stamps.qual,
  plainB K (He.ga K "is_thing") d_is_thing.qual,
  plainB K (He.ga K "is_entry") d_is_entry.qual,
  plainB K (He.ga K "are_of_one_house") d_are_of_one_house.qual,
  plainB K (He.ma K (He.ga K "House") "__init__") d_House_init.qual,
  plainB K (He.ma K (He.ga K "House") "set_thing") d_House_set_thing.qual,
  plainB K (He.ma K (He.ga K "House") "share") d_House_share.qual,
  plainB K (He.ma K (He.ga K "House") "settle") d_House_settle.qual,
  plainB K (He.ma K (He.ga K "House") "kind_at") d_House_kind_at.qual,
  plainB K (He.ma K (He.ga K "House") "copied") d_House_copied.qual,
  plainB K (He.ma K (He.ga K "House") "entries") d_House_entries.qual,
  plainB K (He.ma K (He.ga K "House") "sharers") d_House_sharers.qual,
  plainB K (He.ma K (He.ga K "House") "thing_at") d_House_thing_at.qual,
  plainB K (He.ma K (He.ga K "House") "has") d_House_has.qual,
  plainB K (He.ma K (He.ga K "House") "__len__") d_House_len.qual,
  plainB K (He.ga K "refusal") d_refusal.qual,
  plainB K (He.ga K "refusal_at") d_refusal_at.qual,
  plainB K (He.ga K "put_at") d_put_at.qual,
  plainB K (He.ga K "put_member") d_put_member.qual,
  plainB K (He.ga K "unpack_one") d_unpack_one.qual,
  plainB K (He.ga K "unpacked") d_unpacked.qual,
  plainB K (He.ga K "_law_source") d_law_source.qual,
  plainB K (He.ga K "_law_draw") d_law_draw.qual,
  plainB K (He.ga K "_law_path") d_law_path.qual,
  plainB K (He.ga K "_law_numbers") d_law_numbers.qual,
  plainB K (He.ga K "_law_stamps") d_law_stamps.qual,
  plainB K (He.ga K "_law_pieces") d_law_pieces.qual,
  plainB K (He.ga K "_law_spec") d_law_spec.qual,
  plainB K (He.ga K "_law_made") d_law_made.qual,
  plainB K (He.ga K "_law_specs") d_law_specs.qual,
  plainB K (He.ga K "_law_tree") d_law_tree.qual,
  plainB K (He.ga K "_law_copied") d_law_copied.qual,
  plainB K (He.ga K "_law_above") d_law_above.qual,
  plainB K (He.ga K "_law_kind") d_law_kind.qual,
  plainB K (He.ga K "_law_is_path") d_law_is_path.qual,
  plainB K (He.ga K "_law_word") d_law_word.qual,
  plainB K (He.ga K "_law_content") d_law_content.qual,
  plainB K (He.ga K "_law_stepped") d_law_stepped.qual,
  plainB K (He.ga K "_law_entries") d_law_entries.qual,
  plainB K (He.ga K "_law_told") d_law_told.qual,
  plainB K (He.ga K "_law_tree_of") d_law_tree_of.qual,
  plainB K (He.ga K "_law_led") d_law_led.qual,
  plainB K (He.ga K "_law_led_specs") d_law_led_specs.qual,
  plainB K (He.ga K "_law_led_tree") d_law_led_tree.qual,
  plainB K (He.ga K "_law_names_of") d_law_names_of.qual,
  plainB K (He.ga K "_law_right") d_law_right.qual,
  plainB K (He.ga K "law") d_law.qual,
  plainB K (He.ma K (He.ga K "Member") "__init__") d_Member_init.qual,
  plainB K (cmG K (He.ga K "House") "of") d_House_of.qual,
  cmB K (He.ga K "House") "of",
  supB K (He.ma K (He.ga K "File") "__init__") (He.ga K "File") d_File_init.qual PySem.Challenge.pw_tarhouse_k89_whole_paths_renamed.main.file,
  He.conB K "File" "KIND" (.str "file"),
  decide (PySem.W.mroIn K (He.ga K "File") (.ref (He.ga K "File")) = some true),
  He.eqO (PySem.W.ks_superIn K (He.ga K "File") (He.ga K "File") "__init__") (some (some (.ref (gMemI K)))),
  decide (PySem.W.typeIn K (.ref (gMemI K)) = some (.type "function")),
  PySem.W.fnIn K (gMemI K),
  supB K (He.ma K (He.ga K "Sparse") "__init__") (He.ga K "Sparse") d_Sparse_init.qual PySem.Challenge.pw_tarhouse_k89_whole_paths_renamed.main.file,
  He.conB K "Sparse" "KIND" (.str "sparse"),
  decide (PySem.W.mroIn K (He.ga K "Sparse") (.ref (He.ga K "Sparse")) = some true),
  He.eqO (PySem.W.ks_superIn K (He.ga K "Sparse") (He.ga K "Sparse") "__init__") (some (some (.ref (gMemI K)))),
  supB K (He.ma K (He.ga K "Directory") "__init__") (He.ga K "Directory") d_Directory_init.qual PySem.Challenge.pw_tarhouse_k89_whole_paths_renamed.main.file,
  He.conB K "Directory" "KIND" (.str "directory"),
  decide (PySem.W.mroIn K (He.ga K "Directory") (.ref (He.ga K "Directory")) = some true),
  He.eqO (PySem.W.ks_superIn K (He.ga K "Directory") (He.ga K "Directory") "__init__") (some (some (.ref (gMemI K)))),
  supB K (He.ma K (He.ga K "Symlink") "__init__") (He.ga K "Symlink") d_Symlink_init.qual PySem.Challenge.pw_tarhouse_k89_whole_paths_renamed.main.file,
  He.conB K "Symlink" "KIND" (.str "symlink"),
  decide (PySem.W.mroIn K (He.ga K "Symlink") (.ref (He.ga K "Symlink")) = some true),
  He.eqO (PySem.W.ks_superIn K (He.ga K "Symlink") (He.ga K "Symlink") "__init__") (some (some (.ref (gMemI K)))),
  supB K (He.ma K (He.ga K "Link") "__init__") (He.ga K "Link") d_Link_init.qual PySem.Challenge.pw_tarhouse_k89_whole_paths_renamed.main.file,
  He.conB K "Link" "KIND" (.str "link"),
  decide (PySem.W.mroIn K (He.ga K "Link") (.ref (He.ga K "Link")) = some true),
  He.eqO (PySem.W.ks_superIn K (He.ga K "Link") (He.ga K "Link") "__init__") (some (some (.ref (gMemI K)))),
  rtB K (He.ga K "Refused"),
  He.eqO (PySem.W.findIn K (.ref (He.ga K "Refused")) "__setattr__") (some (some (.builtin "object.__setattr__"))),
  decide (PySem.W.subIn K (.ref (He.ga K "Refused")) (.type "BaseException") = some true),
  decide (PySem.W.subIn K (.ref (He.ga K "Refused")) (.type "RuntimeError") = some true),
  decide (PySem.W.typeIn K (.ref (He.ga K "Refused")) = some (.type "type")),
  PySem.W.keepIn K (.ref (He.ga K "Refused")),
  xfB K (He.ga K "Refused"),
  supB K (He.ma K (He.ga K "Refused") "__init__") (He.ga K "Refused") d_Refused_init.qual PySem.Challenge.pw_tarhouse_k89_whole_paths_renamed.main.file,
  He.eqO (PySem.W.findIn K (.ref (He.ga K "Refused")) "__init__") (some (some (.ref (He.ma K (He.ga K "Refused") "__init__")))),
  decide (PySem.W.typeIn K (.ref (He.ma K (He.ga K "Refused") "__init__")) = some (.type "function")),
  decide (PySem.W.mroIn K (He.ga K "Refused") (.ref (He.ga K "Refused")) = some true),
  He.eqO (PySem.W.ks_superIn K (He.ga K "Refused") (He.ga K "Refused") "__init__") (some (some (.builtin "RuntimeError.__init__"))),
  decide (PySem.W.exmOne K (.ref (He.ga K "Refused")) (.ref (He.ga K "Refused")) = some true)]
def entsK : List ((PySem.W.Frag → Addr) × He.DefD) := [
  (fun K => He.ga K "is_integer", d_is_integer),
  (fun K => He.ga K "is_within", d_is_within),
  (fun K => He.ga K "blob", d_blob),
  (fun K => He.ga K "is_name", d_is_name),
  (fun K => He.ga K "is_path", d_is_path),
  (fun K => He.ga K "look_name", d_look_name),
  (fun K => He.ga K "look_stamps", d_look_stamps),
  (fun K => He.ga K "is_piece", d_is_piece),
  (fun K => He.ga K "are_spans", d_are_spans),
  (fun K => He.ga K "are_pieces", d_are_pieces),
  (fun K => He.ma K (He.ga K "File") "content", d_File_content),
  (fun K => He.ma K (He.ga K "Sparse") "content", d_Sparse_content),
  (fun K => He.ga K "above", d_above),
  (fun K => He.ga K "are_stamps", d_are_stamps),
  (fun K => He.ga K "is_thing", d_is_thing),
  (fun K => He.ga K "is_entry", d_is_entry),
  (fun K => He.ga K "are_of_one_house", d_are_of_one_house),
  (fun K => He.ma K (He.ga K "House") "__init__", d_House_init),
  (fun K => He.ma K (He.ga K "House") "set_thing", d_House_set_thing),
  (fun K => He.ma K (He.ga K "House") "share", d_House_share),
  (fun K => He.ma K (He.ga K "House") "settle", d_House_settle),
  (fun K => He.ma K (He.ga K "House") "kind_at", d_House_kind_at),
  (fun K => He.ma K (He.ga K "House") "copied", d_House_copied),
  (fun K => He.ma K (He.ga K "House") "entries", d_House_entries),
  (fun K => He.ma K (He.ga K "House") "sharers", d_House_sharers),
  (fun K => He.ma K (He.ga K "House") "thing_at", d_House_thing_at),
  (fun K => He.ma K (He.ga K "House") "has", d_House_has),
  (fun K => He.ma K (He.ga K "House") "__len__", d_House_len),
  (fun K => He.ga K "refusal", d_refusal),
  (fun K => He.ga K "refusal_at", d_refusal_at),
  (fun K => He.ga K "put_at", d_put_at),
  (fun K => He.ga K "put_member", d_put_member),
  (fun K => He.ga K "unpack_one", d_unpack_one),
  (fun K => He.ga K "unpacked", d_unpacked),
  (fun K => He.ga K "_law_source", d_law_source),
  (fun K => He.ga K "_law_draw", d_law_draw),
  (fun K => He.ga K "_law_path", d_law_path),
  (fun K => He.ga K "_law_numbers", d_law_numbers),
  (fun K => He.ga K "_law_stamps", d_law_stamps),
  (fun K => He.ga K "_law_pieces", d_law_pieces),
  (fun K => He.ga K "_law_spec", d_law_spec),
  (fun K => He.ga K "_law_made", d_law_made),
  (fun K => He.ga K "_law_specs", d_law_specs),
  (fun K => He.ga K "_law_tree", d_law_tree),
  (fun K => He.ga K "_law_copied", d_law_copied),
  (fun K => He.ga K "_law_above", d_law_above),
  (fun K => He.ga K "_law_kind", d_law_kind),
  (fun K => He.ga K "_law_is_path", d_law_is_path),
  (fun K => He.ga K "_law_word", d_law_word),
  (fun K => He.ga K "_law_content", d_law_content),
  (fun K => He.ga K "_law_stepped", d_law_stepped),
  (fun K => He.ga K "_law_entries", d_law_entries),
  (fun K => He.ga K "_law_told", d_law_told),
  (fun K => He.ga K "_law_tree_of", d_law_tree_of),
  (fun K => He.ga K "_law_led", d_law_led),
  (fun K => He.ga K "_law_led_specs", d_law_led_specs),
  (fun K => He.ga K "_law_led_tree", d_law_led_tree),
  (fun K => He.ga K "_law_names_of", d_law_names_of),
  (fun K => He.ga K "_law_right", d_law_right),
  (fun K => He.ga K "law", d_law),
  (fun K => He.ma K (He.ga K "Member") "__init__", d_Member_init),
  (fun K => cmG K (He.ga K "House") "of", d_House_of),
  (fun K => He.ma K (He.ga K "File") "__init__", d_File_init),
  (fun K => He.ma K (He.ga K "Sparse") "__init__", d_Sparse_init),
  (fun K => He.ma K (He.ga K "Directory") "__init__", d_Directory_init),
  (fun K => He.ma K (He.ga K "Symlink") "__init__", d_Symlink_init),
  (fun K => He.ma K (He.ga K "Link") "__init__", d_Link_init),
  (fun K => He.ma K (He.ga K "Refused") "__init__", d_Refused_init)]
def tf : List He.Defn := [("law", none)]
abbrev AlK : Type := Bool × List FnC
def fnRefs (o : Obj) : List Addr := match o.data with
  | .func fd => He.refV fd.code ++ fd.closure.map (·.2)
  | _ => []
def reach (g : Addr → Option Obj) (f : Obj → List Addr) (a : Addr) : List Addr := match g a with
  | some o => f o
  | none => []
/-- a member of a class: a function, a classmethod's record -/
def memRefs (g : Addr → Option Obj) (a : Addr) : List Addr := a :: reach g (fun o => match o.data with
  | .func _ => fnRefs o
  | .fields _ => (He.refsO o).flatMap fun b => b :: reach g fnRefs b
  | _ => []) a
/-- a name of the module -/
def topRefs (g : Addr → Option Obj) (a : Addr) : List Addr := a :: reach g (fun o => match o.data with
  | .func _ => fnRefs o
  | .cls cd => cd.ns :: (reach g He.refsO cd.ns).flatMap (memRefs g)
  | _ => []) a
def asM (g : Addr → Option Obj) : List Addr := cStatics :: mainGlobals :: (reach g He.refsO mainGlobals).flatMap (topRefs g)
def frK (g : Addr → Option Obj) : PySem.W.Frag := He.frT g (asM g)
def allB (g : Addr → Option Obj) (K : PySem.W.Frag) : Bool := (fas.all fun f => f.ok K) && ((exs K).all id && He.tabsB g tf K)
def obsK (g : Addr → Option Obj) : AlK := (allB g (frK g), entsK.map fun e => fnC (frK g) (e.1 (frK g)))
def valK : AlK := (true, entsK.map fun e => valC e.2)
structure SaysK (h : Heap) (K : PySem.W.Frag) : Prop where
  f : ∀ f ∈ fas, f.ok K = true
  x : ∀ b ∈ exs K, b = true
  e : (entsK.map fun e => fnC K (e.1 K)) = entsK.map fun e => valC e.2
  hd : PySem.W.codeHdIn K (He.cT K ("law", none)).1 (He.cT K ("law", none)).2 = true
  out : K.lookup (He.cT K ("law", none)).2 = none
  empty : h.get? (He.cT K ("law", none)).2 = some { cls := .none, data := .fields #[] }
theorem saysK_of {h : Heap} (q : obsK h.get? = valK) : SaysK h (frK h.get?) := by
  have e1 : allB h.get? (frK h.get?) = true := congrArg (fun z : AlK => z.1) q
  have e2 := congrArg (fun z : AlK => z.2) q
  obtain ⟨h1, h2⟩ := He.ba e1
  obtain ⟨h2, h3⟩ := He.ba h2
  obtain ⟨h3, h4⟩ := He.ba (List.all_eq_true.mp h3 ("law", none) List.mem_cons_self)
  obtain ⟨o, q3, z⟩ : ∃ o, h.get? (He.cT (frK h.get?) ("law", none)).2 = some o ∧ He.emptyTab o = true := by
    cases q : h.get? (He.cT (frK h.get?) ("law", none)).2 with
    | none =>
      rw [q] at h4
      cases h4
    | some o =>
      rw [q] at h4
      exact ⟨o, rfl, h4⟩
  exact ⟨fun f hf => List.all_eq_true.mp h1 f hf, fun b hb => List.all_eq_true.mp h2 b hb, e2, h3, He.frT_none q3 z, by rw [q3, He.emptyTab_eq z]⟩
def hookK : PySem.W.Hook where
  α := AlK
  obs := fun s => obsK s.heap.get?
  val := fun _ => valK
  says := fun _ h => ∃ K : PySem.W.Frag, K.In h ∧ SaysK h K
  of := fun _ _ e => ⟨_, He.frT_in, saysK_of e⟩
  keeps := fun _ _ _ ⟨K, hK, c⟩ k => ⟨K, PySem.W.Frag.In.keeps hK k, ⟨c.f, c.x, c.e, c.hd, c.out, k _ _ c.empty⟩⟩
theorem obsK_eq {g : Addr → Option Obj} {s : Shared} (h : ∀ a, g a = s.heap.get? a) : obsK g = hookK.obs s := by
  have e : g = s.heap.get? := funext h
  rw [e] <;> rfl
theorem txt_of {K : PySem.W.Frag} {h : Heap} {mg : Str → Option Value} (KX : K.In h) (G : h.Ns mainGlobals mg) (c : SaysK h K) (htop : (PySem.Challenge.pw_tarhouse_k89_whole_paths_renamed.main.scope.names.lookup ("super" : Str)).isSome = false) : Txt PySem.Challenge.pw_tarhouse_k89_whole_paths_renamed K mg := by
  have hf : ∀ (i : Nat) {f : He.Fa}, fas[i]? = some f → f.ok K = true := fun i f e => c.f f (List.mem_of_getElem? e)
  have hx : ∀ (i : Nat) {b : Bool}, (exs K)[i]? = some b → b = true := fun i b e => c.x b (List.mem_of_getElem? e)
  have he : ∀ (i : Nat) {e : (PySem.W.Frag → Addr) × He.DefD}, entsK[i]? = some e → fnC K (e.1 K) = valC e.2 := fun i e h => by
    have e2 : (entsK.map fun e => fnC K (e.1 K))[i]? = (entsK.map fun e => valC e.2)[i]? := by rw [c.e]
    rw [List.getElem?_map, List.getElem?_map, h] at e2
    exact Option.some.inj e2
  have hs : mg "super" = none := He.free_ok KX G (hf 17 rfl)
  exact {
    f_len := He.free_ok KX G (hf 0 rfl)
    f_isinstance := He.free_ok KX G (hf 1 rfl)
    f_range := He.free_ok KX G (hf 2 rfl)
    f_all := He.free_ok KX G (hf 3 rfl)
    f_any := He.free_ok KX G (hf 4 rfl)
    f_sorted := He.free_ok KX G (hf 5 rfl)
    f_dict := He.free_ok KX G (hf 6 rfl)
    f_list := He.free_ok KX G (hf 7 rfl)
    f_bytes := He.free_ok KX G (hf 8 rfl)
    f_enumerate := He.free_ok KX G (hf 9 rfl)
    f_max := He.free_ok KX G (hf 10 rfl)
    f_min := He.free_ok KX G (hf 11 rfl)
    f_abs := He.free_ok KX G (hf 12 rfl)
    f_int := He.free_ok KX G (hf 13 rfl)
    f_bool := He.free_ok KX G (hf 14 rfl)
    f_str := He.free_ok KX G (hf 15 rfl)
    f_tuple := He.free_ok KX G (hf 16 rfl)
    f_super := He.free_ok KX G (hf 17 rfl)
    c_LETTERS := He.str_ok KX G (hf 18 rfl)
    c_MOST_NAME := He.int_ok KX G (hf 19 rfl)
    c_MOST_DATA := He.int_ok KX G (hf 20 rfl)
    c_MOST_PIECES := He.int_ok KX G (hf 21 rfl)
    c_MOST_MODE := He.int_ok KX G (hf 22 rfl)
    c_MOST_TIME := He.int_ok KX G (hf 23 rfl)
    c_MADE := He.glo_ok KX G (hf 24 rfl)
    t_MADE := fun H => He.tupB_ok (hx 0 rfl) H
    h_is_integer := (plain_funD (he 0 rfl) (hx 1 rfl)).elim fun fd Fd => ⟨_, fd, Fd, He.glo_ok KX G (hf 25 rfl)⟩
    h_is_within := (plain_funD (he 1 rfl) (hx 2 rfl)).elim fun fd Fd => ⟨_, fd, Fd, He.glo_ok KX G (hf 26 rfl)⟩
    h_blob := (plain_funD (he 2 rfl) (hx 3 rfl)).elim fun fd Fd => ⟨_, fd, Fd, He.glo_ok KX G (hf 27 rfl)⟩
    h_is_name := (plain_funD (he 3 rfl) (hx 4 rfl)).elim fun fd Fd => ⟨_, fd, Fd, He.glo_ok KX G (hf 28 rfl)⟩
    h_is_path := (plain_funD (he 4 rfl) (hx 5 rfl)).elim fun fd Fd => ⟨_, fd, Fd, He.glo_ok KX G (hf 29 rfl)⟩
    h_look_name := (plain_funD (he 5 rfl) (hx 6 rfl)).elim fun fd Fd => ⟨_, fd, Fd, He.glo_ok KX G (hf 30 rfl)⟩
    h_look_stamps := (plain_funD (he 6 rfl) (hx 7 rfl)).elim fun fd Fd => ⟨_, fd, Fd, He.glo_ok KX G (hf 31 rfl)⟩
    h_is_piece := (plain_funD (he 7 rfl) (hx 8 rfl)).elim fun fd Fd => ⟨_, fd, Fd, He.glo_ok KX G (hf 32 rfl)⟩
    h_are_spans := (plain_funD (he 8 rfl) (hx 9 rfl)).elim fun fd Fd => ⟨_, fd, Fd, He.glo_ok KX G (hf 33 rfl)⟩
    h_are_pieces := (plain_funD (he 9 rfl) (hx 10 rfl)).elim fun fd Fd => ⟨_, fd, Fd, He.glo_ok KX G (hf 34 rfl)⟩
    h_File_content := (plain_funD (he 10 rfl) (hx 11 rfl)).elim fun fd Fd => ⟨_, fd, Fd, He.meth_ok (hf 35 rfl)⟩
    h_Sparse_content := (plain_funD (he 11 rfl) (hx 12 rfl)).elim fun fd Fd => ⟨_, fd, Fd, He.meth_ok (hf 36 rfl)⟩
    h_above := (plain_funD (he 12 rfl) (hx 13 rfl)).elim fun fd Fd => ⟨_, fd, Fd, He.glo_ok KX G (hf 37 rfl)⟩
    h_are_stamps := (plain_funD (he 13 rfl) (hx 14 rfl)).elim fun fd Fd => ⟨_, fd, Fd, He.glo_ok KX G (hf 38 rfl)⟩
    h_is_thing := (plain_funD (he 14 rfl) (hx 15 rfl)).elim fun fd Fd => ⟨_, fd, Fd, He.glo_ok KX G (hf 39 rfl)⟩
    h_is_entry := (plain_funD (he 15 rfl) (hx 16 rfl)).elim fun fd Fd => ⟨_, fd, Fd, He.glo_ok KX G (hf 40 rfl)⟩
    h_are_of_one_house := (plain_funD (he 16 rfl) (hx 17 rfl)).elim fun fd Fd => ⟨_, fd, Fd, He.glo_ok KX G (hf 41 rfl)⟩
    h_House_init := (plain_funD (he 17 rfl) (hx 18 rfl)).elim fun fd Fd => ⟨_, fd, Fd, He.meth_ok (hf 42 rfl)⟩
    h_House_set_thing := (plain_funD (he 18 rfl) (hx 19 rfl)).elim fun fd Fd => ⟨_, fd, Fd, He.meth_ok (hf 43 rfl)⟩
    h_House_share := (plain_funD (he 19 rfl) (hx 20 rfl)).elim fun fd Fd => ⟨_, fd, Fd, He.meth_ok (hf 44 rfl)⟩
    h_House_settle := (plain_funD (he 20 rfl) (hx 21 rfl)).elim fun fd Fd => ⟨_, fd, Fd, He.meth_ok (hf 45 rfl)⟩
    h_House_kind_at := (plain_funD (he 21 rfl) (hx 22 rfl)).elim fun fd Fd => ⟨_, fd, Fd, He.meth_ok (hf 46 rfl)⟩
    h_House_copied := (plain_funD (he 22 rfl) (hx 23 rfl)).elim fun fd Fd => ⟨_, fd, Fd, He.meth_ok (hf 47 rfl)⟩
    h_House_entries := (plain_funD (he 23 rfl) (hx 24 rfl)).elim fun fd Fd => ⟨_, fd, Fd, He.meth_ok (hf 48 rfl)⟩
    h_House_sharers := (plain_funD (he 24 rfl) (hx 25 rfl)).elim fun fd Fd => ⟨_, fd, Fd, He.meth_ok (hf 49 rfl)⟩
    h_House_thing_at := (plain_funD (he 25 rfl) (hx 26 rfl)).elim fun fd Fd => ⟨_, fd, Fd, He.meth_ok (hf 50 rfl)⟩
    h_House_has := (plain_funD (he 26 rfl) (hx 27 rfl)).elim fun fd Fd => ⟨_, fd, Fd, He.meth_ok (hf 51 rfl)⟩
    h_House_len := (plain_funD (he 27 rfl) (hx 28 rfl)).elim fun fd Fd => ⟨_, fd, Fd, He.meth_ok (hf 52 rfl)⟩
    h_refusal := (plain_funD (he 28 rfl) (hx 29 rfl)).elim fun fd Fd => ⟨_, fd, Fd, He.glo_ok KX G (hf 53 rfl)⟩
    h_refusal_at := (plain_funD (he 29 rfl) (hx 30 rfl)).elim fun fd Fd => ⟨_, fd, Fd, He.glo_ok KX G (hf 54 rfl)⟩
    h_put_at := (plain_funD (he 30 rfl) (hx 31 rfl)).elim fun fd Fd => ⟨_, fd, Fd, He.glo_ok KX G (hf 55 rfl)⟩
    h_put_member := (plain_funD (he 31 rfl) (hx 32 rfl)).elim fun fd Fd => ⟨_, fd, Fd, He.glo_ok KX G (hf 56 rfl)⟩
    h_unpack_one := (plain_funD (he 32 rfl) (hx 33 rfl)).elim fun fd Fd => ⟨_, fd, Fd, He.glo_ok KX G (hf 57 rfl)⟩
    h_unpacked := (plain_funD (he 33 rfl) (hx 34 rfl)).elim fun fd Fd => ⟨_, fd, Fd, He.glo_ok KX G (hf 58 rfl)⟩
    h_law_source := (plain_funD (he 34 rfl) (hx 35 rfl)).elim fun fd Fd => ⟨_, fd, Fd, He.glo_ok KX G (hf 59 rfl)⟩
    h_law_draw := (plain_funD (he 35 rfl) (hx 36 rfl)).elim fun fd Fd => ⟨_, fd, Fd, He.glo_ok KX G (hf 60 rfl)⟩
    h_law_path := (plain_funD (he 36 rfl) (hx 37 rfl)).elim fun fd Fd => ⟨_, fd, Fd, He.glo_ok KX G (hf 61 rfl)⟩
    h_law_numbers := (plain_funD (he 37 rfl) (hx 38 rfl)).elim fun fd Fd => ⟨_, fd, Fd, He.glo_ok KX G (hf 62 rfl)⟩
    h_law_stamps := (plain_funD (he 38 rfl) (hx 39 rfl)).elim fun fd Fd => ⟨_, fd, Fd, He.glo_ok KX G (hf 63 rfl)⟩
    h_law_pieces := (plain_funD (he 39 rfl) (hx 40 rfl)).elim fun fd Fd => ⟨_, fd, Fd, He.glo_ok KX G (hf 64 rfl)⟩
    h_law_spec := (plain_funD (he 40 rfl) (hx 41 rfl)).elim fun fd Fd => ⟨_, fd, Fd, He.glo_ok KX G (hf 65 rfl)⟩
    h_law_made := (plain_funD (he 41 rfl) (hx 42 rfl)).elim fun fd Fd => ⟨_, fd, Fd, He.glo_ok KX G (hf 66 rfl)⟩
    h_law_specs := (plain_funD (he 42 rfl) (hx 43 rfl)).elim fun fd Fd => ⟨_, fd, Fd, He.glo_ok KX G (hf 67 rfl)⟩
    h_law_tree := (plain_funD (he 43 rfl) (hx 44 rfl)).elim fun fd Fd => ⟨_, fd, Fd, He.glo_ok KX G (hf 68 rfl)⟩
    h_law_copied := (plain_funD (he 44 rfl) (hx 45 rfl)).elim fun fd Fd => ⟨_, fd, Fd, He.glo_ok KX G (hf 69 rfl)⟩
    h_law_above := (plain_funD (he 45 rfl) (hx 46 rfl)).elim fun fd Fd => ⟨_, fd, Fd, He.glo_ok KX G (hf 70 rfl)⟩
    h_law_kind := (plain_funD (he 46 rfl) (hx 47 rfl)).elim fun fd Fd => ⟨_, fd, Fd, He.glo_ok KX G (hf 71 rfl)⟩
    h_law_is_path := (plain_funD (he 47 rfl) (hx 48 rfl)).elim fun fd Fd => ⟨_, fd, Fd, He.glo_ok KX G (hf 72 rfl)⟩
    h_law_word := (plain_funD (he 48 rfl) (hx 49 rfl)).elim fun fd Fd => ⟨_, fd, Fd, He.glo_ok KX G (hf 73 rfl)⟩
    h_law_content := (plain_funD (he 49 rfl) (hx 50 rfl)).elim fun fd Fd => ⟨_, fd, Fd, He.glo_ok KX G (hf 74 rfl)⟩
    h_law_stepped := (plain_funD (he 50 rfl) (hx 51 rfl)).elim fun fd Fd => ⟨_, fd, Fd, He.glo_ok KX G (hf 75 rfl)⟩
    h_law_entries := (plain_funD (he 51 rfl) (hx 52 rfl)).elim fun fd Fd => ⟨_, fd, Fd, He.glo_ok KX G (hf 76 rfl)⟩
    h_law_told := (plain_funD (he 52 rfl) (hx 53 rfl)).elim fun fd Fd => ⟨_, fd, Fd, He.glo_ok KX G (hf 77 rfl)⟩
    h_law_tree_of := (plain_funD (he 53 rfl) (hx 54 rfl)).elim fun fd Fd => ⟨_, fd, Fd, He.glo_ok KX G (hf 78 rfl)⟩
    h_law_led := (plain_funD (he 54 rfl) (hx 55 rfl)).elim fun fd Fd => ⟨_, fd, Fd, He.glo_ok KX G (hf 79 rfl)⟩
    h_law_led_specs := (plain_funD (he 55 rfl) (hx 56 rfl)).elim fun fd Fd => ⟨_, fd, Fd, He.glo_ok KX G (hf 80 rfl)⟩
    h_law_led_tree := (plain_funD (he 56 rfl) (hx 57 rfl)).elim fun fd Fd => ⟨_, fd, Fd, He.glo_ok KX G (hf 81 rfl)⟩
    h_law_names_of := (plain_funD (he 57 rfl) (hx 58 rfl)).elim fun fd Fd => ⟨_, fd, Fd, He.glo_ok KX G (hf 82 rfl)⟩
    h_law_right := (plain_funD (he 58 rfl) (hx 59 rfl)).elim fun fd Fd => ⟨_, fd, Fd, He.glo_ok KX G (hf 83 rfl)⟩
    h_law := (plain_funD (he 59 rfl) (hx 60 rfl)).elim fun fd Fd => ⟨_, fd, Fd, He.glo_ok KX G (hf 84 rfl)⟩
    h_Member_init := plain_funD (he 60 rfl) (hx 61 rfl)
    c_House := He.cls_ok (hf 85 rfl)
    g_House := He.glo_ok KX G (hf 86 rfl)
    mk_House := ⟨_, He.mkr_ok (hf 87 rfl), He.meth_ok (hf 42 rfl)⟩
    na_House := (by
    intro f hf0
    simp only [List.mem_cons, List.not_mem_nil, or_false] at hf0
    rcases hf0 with rfl | rfl | rfl
    · exact He.noat_ok (hf 88 rfl)
    · exact He.noat_ok (hf 89 rfl)
    · exact He.noat_ok (hf 90 rfl)
    )
    of_House := (plain_funD (he 61 rfl) (hx 62 rfl)).elim fun fd Fd => ⟨_, _, _, fd, (cm_ok (hx 63 rfl)).1, (cm_ok (hx 63 rfl)).2, Fd⟩
    m_File := ⟨He.cls_ok (hf 99 rfl), He.glo_ok KX G (hf 100 rfl), ⟨_, _, _, He.mkr_ok (hf 101 rfl), sup_ok (he 62 rfl) (hx 64 rfl) hs htop⟩, ⟨of_decide_eq_true (hx 66 rfl), He.eqO_ok (hx 67 rfl), of_decide_eq_true (hx 68 rfl), (hx 69 rfl)⟩, He.conB_ok (hx 65 rfl), (by
      intro f hf0
      simp only [List.mem_cons, List.not_mem_nil, or_false] at hf0
      rcases hf0 with rfl | rfl | rfl | rfl | rfl | rfl | rfl | rfl
      · exact He.noat_ok (hf 91 rfl)
      · exact He.noat_ok (hf 92 rfl)
      · exact He.noat_ok (hf 93 rfl)
      · exact He.noat_ok (hf 94 rfl)
      · exact He.noat_ok (hf 95 rfl)
      · exact He.noat_ok (hf 96 rfl)
      · exact He.noat_ok (hf 97 rfl)
      · exact He.noat_ok (hf 98 rfl)
      )⟩
    m_Sparse := ⟨He.cls_ok (hf 110 rfl), He.glo_ok KX G (hf 111 rfl), ⟨_, _, _, He.mkr_ok (hf 112 rfl), sup_ok (he 63 rfl) (hx 70 rfl) hs htop⟩, ⟨of_decide_eq_true (hx 72 rfl), He.eqO_ok (hx 73 rfl), of_decide_eq_true (hx 68 rfl), (hx 69 rfl)⟩, He.conB_ok (hx 71 rfl), (by
      intro f hf0
      simp only [List.mem_cons, List.not_mem_nil, or_false] at hf0
      rcases hf0 with rfl | rfl | rfl | rfl | rfl | rfl | rfl | rfl
      · exact He.noat_ok (hf 102 rfl)
      · exact He.noat_ok (hf 103 rfl)
      · exact He.noat_ok (hf 104 rfl)
      · exact He.noat_ok (hf 105 rfl)
      · exact He.noat_ok (hf 106 rfl)
      · exact He.noat_ok (hf 107 rfl)
      · exact He.noat_ok (hf 108 rfl)
      · exact He.noat_ok (hf 109 rfl)
      )⟩
    m_Directory := ⟨He.cls_ok (hf 121 rfl), He.glo_ok KX G (hf 122 rfl), ⟨_, _, _, He.mkr_ok (hf 123 rfl), sup_ok (he 64 rfl) (hx 74 rfl) hs htop⟩, ⟨of_decide_eq_true (hx 76 rfl), He.eqO_ok (hx 77 rfl), of_decide_eq_true (hx 68 rfl), (hx 69 rfl)⟩, He.conB_ok (hx 75 rfl), (by
      intro f hf0
      simp only [List.mem_cons, List.not_mem_nil, or_false] at hf0
      rcases hf0 with rfl | rfl | rfl | rfl | rfl | rfl | rfl | rfl
      · exact He.noat_ok (hf 113 rfl)
      · exact He.noat_ok (hf 114 rfl)
      · exact He.noat_ok (hf 115 rfl)
      · exact He.noat_ok (hf 116 rfl)
      · exact He.noat_ok (hf 117 rfl)
      · exact He.noat_ok (hf 118 rfl)
      · exact He.noat_ok (hf 119 rfl)
      · exact He.noat_ok (hf 120 rfl)
      )⟩
    m_Symlink := ⟨He.cls_ok (hf 132 rfl), He.glo_ok KX G (hf 133 rfl), ⟨_, _, _, He.mkr_ok (hf 134 rfl), sup_ok (he 65 rfl) (hx 78 rfl) hs htop⟩, ⟨of_decide_eq_true (hx 80 rfl), He.eqO_ok (hx 81 rfl), of_decide_eq_true (hx 68 rfl), (hx 69 rfl)⟩, He.conB_ok (hx 79 rfl), (by
      intro f hf0
      simp only [List.mem_cons, List.not_mem_nil, or_false] at hf0
      rcases hf0 with rfl | rfl | rfl | rfl | rfl | rfl | rfl | rfl
      · exact He.noat_ok (hf 124 rfl)
      · exact He.noat_ok (hf 125 rfl)
      · exact He.noat_ok (hf 126 rfl)
      · exact He.noat_ok (hf 127 rfl)
      · exact He.noat_ok (hf 128 rfl)
      · exact He.noat_ok (hf 129 rfl)
      · exact He.noat_ok (hf 130 rfl)
      · exact He.noat_ok (hf 131 rfl)
      )⟩
    m_Link := ⟨He.cls_ok (hf 143 rfl), He.glo_ok KX G (hf 144 rfl), ⟨_, _, _, He.mkr_ok (hf 145 rfl), sup_ok (he 66 rfl) (hx 82 rfl) hs htop⟩, ⟨of_decide_eq_true (hx 84 rfl), He.eqO_ok (hx 85 rfl), of_decide_eq_true (hx 68 rfl), (hx 69 rfl)⟩, He.conB_ok (hx 83 rfl), (by
      intro f hf0
      simp only [List.mem_cons, List.not_mem_nil, or_false] at hf0
      rcases hf0 with rfl | rfl | rfl | rfl | rfl | rfl | rfl | rfl
      · exact He.noat_ok (hf 135 rfl)
      · exact He.noat_ok (hf 136 rfl)
      · exact He.noat_ok (hf 137 rfl)
      · exact He.noat_ok (hf 138 rfl)
      · exact He.noat_ok (hf 139 rfl)
      · exact He.noat_ok (hf 140 rfl)
      · exact He.noat_ok (hf 141 rfl)
      · exact He.noat_ok (hf 142 rfl)
      )⟩
    r_g := He.glo_ok KX G (hf 146 rfl)
    r_o := ⟨rt_ok (hx 86 rfl), He.eqO_ok (hx 87 rfl), of_decide_eq_true (hx 88 rfl), of_decide_eq_true (hx 89 rfl), of_decide_eq_true (hx 90 rfl), (hx 91 rfl)⟩
    r_x := xfB_ok (hx 92 rfl)
    r_na := (by
    intro f hf0
    simp only [List.mem_cons, List.not_mem_nil, or_false] at hf0
    rcases hf0 with rfl | rfl
    · exact He.noat_ok (hf 147 rfl)
    · exact He.noat_ok (hf 148 rfl)
    )
    r_i := ⟨_, _, _, He.eqO_ok (hx 94 rfl), of_decide_eq_true (hx 95 rfl), sup_ok (he 67 rfl) (hx 93 rfl) hs htop⟩
    r_s := of_decide_eq_true (hx 96 rfl)
    r_m := He.eqO_ok (hx 97 rfl)
    r_e := of_decide_eq_true (hx 98 rfl)
  }
end K89
set_option Elab.async false
set_option linter.all false
set_option maxRecDepth 100000
set_option maxHeartbeats 0
/-! K89.E3: the head's run. -/
namespace K89
open PySem PySem.W PySem.Spec PySem.Calls PyProof.Rows L2
def loose0 : List Str := ["__name__", "NoBlob", "NoData", "NoName", "NoMode", "NoTime", "NoSize", "NoPieces", "NoHouse", "NoPath", "Refused", "is_integer", "is_within", "blob", "LETTERS", "MOST_NAME", "MOST_DATA", "MOST_PIECES", "MOST_MODE", "MOST_TIME", "is_name", "is_path", "look_name", "look_stamps", "is_piece", "are_spans", "are_pieces", "Member", "File", "Sparse"]
def loose1 : List Str := ["Directory", "Symlink", "Link", "TITLES", "above", "are_stamps", "is_thing", "is_entry", "are_of_one_house", "House", "MADE", "refusal", "refusal_at", "put_at", "put_member", "unpack_one", "unpacked", "_law_source", "_law_draw", "_law_path", "_law_numbers", "_law_stamps", "_law_pieces", "_law_spec", "_law_made", "_law_specs", "_law_tree", "_law_copied", "_law_above", "_law_kind"]
def loose2 : List Str := ["_law_is_path", "_law_word", "_law_content", "_law_stepped", "_law_entries", "_law_told", "_law_tree_of", "_law_led", "_law_led_specs", "_law_led_tree", "_law_names_of", "_law_right"]
def loose : List Str := loose0 ++ loose1 ++ loose2
abbrev R : PySem.W.OpenRow := PySem.W.OpenLaw.row PySem.Challenge.rw_tarhouse_k89_whole_paths_renamed
def ob (s : PySem.W.SharedT) : AlK := obsK (HandSHeadRun.getT s)
theorem ob_eq (s : PySem.W.SharedT) : ob s = hookK.obs s.abs := obsK_eq (HandSHeadRun.getT_eq s)
theorem run_f (w : World) : HandSHeadRun.RunEq R (PySem.W.view R.prog [77]) hookK ob 14000 loose (w.withFollow "special-get-raises" false) := by
  intro os
  kernel_rfl
theorem run_t (w : World) : HandSHeadRun.RunEq R (PySem.W.view R.prog [77]) hookK ob 14000 loose (w.withFollow "special-get-raises" true) := by
  intro os
  kernel_rfl
theorem run_ok (w : World) : HandSHeadRun.RunEq R (PySem.W.view R.prog [77]) hookK ob 14000 loose w := PySem.W.byRow2 "special-get-raises" run_f run_t w
end K89
set_option Elab.async false
set_option linter.all false
set_option maxRecDepth 100000
set_option maxHeartbeats 0
/-! K89.E4: the theorem. -/
namespace K89
open PySem PySem.Spec PyProof.Rows L2
theorem law_at {w : World} {mg : Str → Option Value} {fa : Addr} {h : Heap} {K : PySem.W.Frag} (KX : K.In h) (G : h.Ns mainGlobals mg) (c : SaysK h K) (hm : mg "law" = some (.ref fa))
    (htop : (PySem.Challenge.pw_tarhouse_k89_whole_paths_renamed.main.scope.names.lookup ("super" : Str)).isSome = false) :
    LamX.LawAtS PySem.Challenge.rw_tarhouse_k89_whole_paths_renamed w K CX0 9 63 "_law_script" mg fa h := by
  have Tx := txt_of KX G c htop
  obtain ⟨f, fd, Fd, hm'⟩ := Tx.h_law
  have e : f = fa := by
    rw [hm] at hm'
    injection hm' with z
    injection z with z
    exact z.symm
  subst e
  have ef : He.fAd K ("law", none) = f := by
    show (match PySem.W.nsIn K mainGlobals ("law" : Str) with
      | some (some (.ref a)) => a
      | _ => 0) = f
    have hg : He.Fa.ok K (.glo "law") = true := c.f _ (by simp [fas])
    have h2 := He.glo_ok KX G hg
    rw [hm] at h2
    injection h2 with z
    injection z with z
    exact z.symm
  have b := FunD.bindsA (ps := ["_law_script"]) Fd fun _ _ _ _ _ _ us hl => match us, hl with | [_], _ => rfl
  obtain ⟨oc, od, dV, kV, doc, pm, an, cdv, ct, osl, rfl, lk, hcd, _, _⟩ := Fd.ex
  obtain ⟨cL, rfl⟩ := He.codeIn_ref hcd
  have ec : (He.cT K ("law", none)).1 = cL := He.codeOf_eq (by rw [ef]; exact lk) rfl
  refine ⟨_, [He.cT K ("law", none)], spLaw K (He.cT K ("law", none)).2, fun p hp => ?_, fun p hp => ?_, fun p hp => ?_, fun s u => b s [u] rfl, fun H a ns hl _ hH hS => ⟨a, ns, rfl, hS, by omega, hH _ List.mem_cons_self, fun _ => rfl⟩, fun base _ _ TB => ?_⟩
  · rw [List.mem_singleton.mp hp]; exact c.empty
  · rw [List.mem_singleton.mp hp]; exact c.out
  · rw [List.mem_singleton.mp hp]; exact PySem.W.codeHd_of_K KX c.hd
  · refine ok_law Tx lk hcd ?_
    have := TB _ List.mem_cons_self
    rw [ec] at this
    exact this
end K89
open PySem PySem.W PySem.Calls PyProof.Rows
theorem PySem.Challenge.cw_tarhouse_k89_whole_paths_renamed_holds : PySem.Challenge.rw_tarhouse_k89_whole_paths_renamed.Holds := by
  w_on; o_law
  refine HandSHeadRun.head_any (r := OpenLaw.row PySem.Challenge.rw_tarhouse_k89_whole_paths_renamed) (q := view (OpenLaw.row PySem.Challenge.rw_tarhouse_k89_whole_paths_renamed).prog [77]) (H := K89.hookK) (ob := K89.ob) (M := 14000) (loose := K89.loose) (d := HandSHeadRun.topDef (OpenLaw.row PySem.Challenge.rw_tarhouse_k89_whole_paths_renamed).prog 77) (kwd := []) K89.ob_eq
    (by kernel_rfl) (fun s => by kernel_rfl) K89.run_ok (by kernel_rfl) (by kernel_rfl) (by kernel_rfl) (by rfl) (by first | assumption | decide +kernel) (by decide +kernel) ⟨rfl, rfl, rfl, rfl, rfl, by decide +kernel⟩ ?hw ?hc
  case hw => w_witness2
  case hc =>
    refine LamX.walk_ofTsE (l := PySem.Challenge.rw_tarhouse_k89_whole_paths_renamed) (n := 63) (k := 9) (x := "_law_script") (CX := fun _ => L2.CX0) rfl (by decide) (by kernel_rfl) ⟨rfl, by decide, by decide⟩ ?F (fun _ _ _ _ _ z => z)
    intro w mg fa h Y G hmg0
    obtain ⟨K, KX, c⟩ := Y
    have hmg : mg ("law" : PySem.Str) = some (.ref fa) := by
      have e : (HandSHeadRun.topDef (OpenLaw.row PySem.Challenge.rw_tarhouse_k89_whole_paths_renamed).prog 77).name = ("law" : PySem.Str) := by kernel_rfl
      rw [← e]
      exact hmg0
    exact ⟨K, KX, K89.law_at KX G c hmg (by decide +kernel)⟩
