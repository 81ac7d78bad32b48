import PyProof.Rows.All
import Wide.All
import OpenK.AllK
import Wide.FinOn
import KE.KStateDown
import Lean
import HandS.ForMost
import HandS.ForExc
import HandS.More
import HandS.Zip
import HandS.Walk
import HandS.Conv
import HandS.TryMany
import HandS.ExcCtx
import HandS.Hot
import HandS.HotCalls
import HandS.SuiteRaise
import HandS.RaiseFrom
import HandS.RaiseMore
import HandS.StrMore
import HandS.IsInst
import HandS.ExcIs
import HandS.Defaults
import HandS.WordsDict
import HandS.Head0
import HandS.Head1
import HandS.Head2
import HandS.HeadEnd
import HandS.HeadHook1
import HandS.HeadHook2
import HandS.HeadHook3
import HandS.HeadHook4
import PySem.Challenge.RW_wornband_k50_whole_chronicles_read
import KE.GoesEnum
set_option Elab.async false
set_option linter.all false
set_option maxRecDepth 100000
set_option maxHeartbeats 4000000

set_option maxHeartbeats 0
namespace Hd
open PySem PySem.Spec PyProof.Rows L2
def top (i : Nat) : Stmt := PySem.Challenge.pw_wornband_k50_whole_chronicles_read.main.body.getD i (.Pass ⟨0, 0, 0, 0⟩)
abbrev R : PySem.W.OpenRow := PySem.W.OpenLaw.row PySem.Challenge.rw_wornband_k50_whole_chronicles_read
abbrev s_is_colour : Stmt := top 19
def d_is_colour : He.DefD := ⟨("is_colour", none), "is_colour", "is_colour", defArgs s_is_colour, defBody s_is_colour, defScope s_is_colour, [], []⟩
abbrev s_made : Stmt := top 20
def d_made : He.DefD := ⟨("made", none), "made", "made", defArgs s_made, defBody s_made, defScope s_made, [], []⟩
abbrev s_top : Stmt := top 21
def d_top : He.DefD := ⟨("top", none), "top", "top", defArgs s_top, defBody s_top, defScope s_top, [], []⟩
abbrev s_bottom : Stmt := top 22
def d_bottom : He.DefD := ⟨("bottom", none), "bottom", "bottom", defArgs s_bottom, defBody s_bottom, defScope s_bottom, [], []⟩
abbrev s_advance : Stmt := top 23
def d_advance : He.DefD := ⟨("advance", none), "advance", "advance", defArgs s_advance, defBody s_advance, defScope s_advance, [], []⟩
abbrev s_twisting : Stmt := top 24
def d_twisting : He.DefD := ⟨("twisting", none), "twisting", "twisting", defArgs s_twisting, defBody s_twisting, defScope s_twisting, [], []⟩
abbrev s_turned : Stmt := top 25
def d_turned : He.DefD := ⟨("turned", none), "turned", "turned", defArgs s_turned, defBody s_turned, defScope s_turned, [], []⟩
abbrev s_flipped : Stmt := top 26
def d_flipped : He.DefD := ⟨("flipped", none), "flipped", "flipped", defArgs s_flipped, defBody s_flipped, defScope s_flipped, [], []⟩
abbrev s_slant_of : Stmt := top 28
def d_slant_of : He.DefD := ⟨("slant_of", none), "slant_of", "slant_of", defArgs s_slant_of, defBody s_slant_of, defScope s_slant_of, [], []⟩
abbrev s_place_of : Stmt := top 29
def d_place_of : He.DefD := ⟨("place_of", none), "place_of", "place_of", defArgs s_place_of, defBody s_place_of, defScope s_place_of, [], []⟩
abbrev s_pick_of : Stmt := top 30
def d_pick_of : He.DefD := ⟨("pick_of", none), "pick_of", "pick_of", defArgs s_pick_of, defBody s_pick_of, defScope s_pick_of, [], []⟩
abbrev s_fits : Stmt := top 32
def d_fits : He.DefD := ⟨("fits", none), "fits", "fits", defArgs s_fits, defBody s_fits, defScope s_fits, [], []⟩
abbrev s_taken_by : Stmt := top 34
def d_taken_by : He.DefD := ⟨("taken_by", none), "taken_by", "taken_by", defArgs s_taken_by, defBody s_taken_by, defScope s_taken_by, [], []⟩
abbrev s_Stage_init : Stmt := inClass (top 35) 0
def d_Stage_init : He.DefD := ⟨("Stage", some "__init__"), "__init__", "Stage.__init__", defArgs s_Stage_init, defBody s_Stage_init, defScope s_Stage_init, [], []⟩
abbrev s_first_stage : Stmt := top 36
def d_first_stage : He.DefD := ⟨("first_stage", none), "first_stage", "first_stage", defArgs s_first_stage, defBody s_first_stage, defScope s_first_stage, [], []⟩
abbrev s_twisted : Stmt := top 37
def d_twisted : He.DefD := ⟨("twisted", none), "twisted", "twisted", defArgs s_twisted, defBody s_twisted, defScope s_twisted, [], []⟩
abbrev s_drawn_off : Stmt := top 38
def d_drawn_off : He.DefD := ⟨("drawn_off", none), "drawn_off", "drawn_off", defArgs s_drawn_off, defBody s_drawn_off, defScope s_drawn_off, [], []⟩
abbrev s_stage_behind : Stmt := top 39
def d_stage_behind : He.DefD := ⟨("stage_behind", none), "stage_behind", "stage_behind", defArgs s_stage_behind, defBody s_stage_behind, defScope s_stage_behind, [], []⟩
abbrev s_stage_flipped : Stmt := top 40
def d_stage_flipped : He.DefD := ⟨("stage_flipped", none), "stage_flipped", "stage_flipped", defArgs s_stage_flipped, defBody s_stage_flipped, defScope s_stage_flipped, [], []⟩
abbrev s_Loom_init : Stmt := inClass (top 41) 0
def d_Loom_init : He.DefD := ⟨("Loom", some "__init__"), "__init__", "Loom.__init__", defArgs s_Loom_init, defBody s_Loom_init, defScope s_Loom_init, [], []⟩
abbrev s_Loom_put_deed : Stmt := inClass (top 41) 1
def d_Loom_put_deed : He.DefD := ⟨("Loom", some "put_deed"), "put_deed", "Loom.put_deed", defArgs s_Loom_put_deed, defBody s_Loom_put_deed, defScope s_Loom_put_deed, [], []⟩
abbrev s_Loom_weave : Stmt := inClass (top 41) 2
def d_Loom_weave : He.DefD := ⟨("Loom", some "weave"), "weave", "Loom.weave", defArgs s_Loom_weave, defBody s_Loom_weave, defScope s_Loom_weave, [], []⟩
abbrev s_Loom_flip : Stmt := inClass (top 41) 3
def d_Loom_flip : He.DefD := ⟨("Loom", some "flip"), "flip", "Loom.flip", defArgs s_Loom_flip, defBody s_Loom_flip, defScope s_Loom_flip, [], []⟩
abbrev s_Loom_tablets : Stmt := inClass (top 41) 7
def d_Loom_tablets : He.DefD := ⟨("Loom", some "tablets"), "tablets", "Loom.tablets", defArgs s_Loom_tablets, defBody s_Loom_tablets, defScope s_Loom_tablets, [], []⟩
abbrev s_Loom_band : Stmt := inClass (top 41) 8
def d_Loom_band : He.DefD := ⟨("Loom", some "band"), "band", "Loom.band", defArgs s_Loom_band, defBody s_Loom_band, defScope s_Loom_band, [], []⟩
abbrev s_Loom_deeds : Stmt := inClass (top 41) 9
def d_Loom_deeds : He.DefD := ⟨("Loom", some "deeds"), "deeds", "Loom.deeds", defArgs s_Loom_deeds, defBody s_Loom_deeds, defScope s_Loom_deeds, [], []⟩
abbrev s_Loom_twist : Stmt := inClass (top 41) 10
def d_Loom_twist : He.DefD := ⟨("Loom", some "twist"), "twist", "Loom.twist", defArgs s_Loom_twist, defBody s_Loom_twist, defScope s_Loom_twist, [], []⟩
abbrev s_Loom_peak : Stmt := inClass (top 41) 11
def d_Loom_peak : He.DefD := ⟨("Loom", some "peak"), "peak", "Loom.peak", defArgs s_Loom_peak, defBody s_Loom_peak, defScope s_Loom_peak, [], []⟩
abbrev s_Loom_rest : Stmt := inClass (top 41) 12
def d_Loom_rest : He.DefD := ⟨("Loom", some "rest"), "rest", "Loom.rest", defArgs s_Loom_rest, defBody s_Loom_rest, defScope s_Loom_rest, [], []⟩
abbrev s_told : Stmt := top 46
def d_told : He.DefD := ⟨("told", none), "told", "told", defArgs s_told, defBody s_told, defScope s_told, [], []⟩
abbrev s_number_of : Stmt := top 47
def d_number_of : He.DefD := ⟨("number_of", none), "number_of", "number_of", defArgs s_number_of, defBody s_number_of, defScope s_number_of, [], []⟩
abbrev s_begun : Stmt := top 48
def d_begun : He.DefD := ⟨("begun", none), "begun", "begun", defArgs s_begun, defBody s_begun, defScope s_begun, [], []⟩
abbrev s_read_spools : Stmt := top 49
def d_read_spools : He.DefD := ⟨("read_spools", none), "read_spools", "read_spools", defArgs s_read_spools, defBody s_read_spools, defScope s_read_spools, [], []⟩
abbrev s_read_tablet : Stmt := top 50
def d_read_tablet : He.DefD := ⟨("read_tablet", none), "read_tablet", "read_tablet", defArgs s_read_tablet, defBody s_read_tablet, defScope s_read_tablet, [], []⟩
abbrev s_read_draft : Stmt := top 51
def d_read_draft : He.DefD := ⟨("read_draft", none), "read_draft", "read_draft", defArgs s_read_draft, defBody s_read_draft, defScope s_read_draft, [], []⟩
abbrev s_do_line : Stmt := top 52
def d_do_line : He.DefD := ⟨("do_line", none), "do_line", "do_line", defArgs s_do_line, defBody s_do_line, defScope s_do_line, [], []⟩
abbrev s_brought : Stmt := top 53
def d_brought : He.DefD := ⟨("brought", none), "brought", "brought", defArgs s_brought, defBody s_brought, defScope s_brought, [], []⟩
abbrev s_l_row : Stmt := top 55
def d_l_row : He.DefD := ⟨("_law_row", none), "_law_row", "_law_row", defArgs s_l_row, defBody s_l_row, defScope s_l_row, [], []⟩
abbrev s_l_holes : Stmt := top 56
def d_l_holes : He.DefD := ⟨("_law_holes", none), "_law_holes", "_law_holes", defArgs s_l_holes, defBody s_l_holes, defScope s_l_holes, [], []⟩
abbrev s_l_card : Stmt := top 57
def d_l_card : He.DefD := ⟨("_law_card", none), "_law_card", "_law_card", defArgs s_l_card, defBody s_l_card, defScope s_l_card, [], []⟩
abbrev s_l_at : Stmt := top 58
def d_l_at : He.DefD := ⟨("_law_at", none), "_law_at", "_law_at", defArgs s_l_at, defBody s_l_at, defScope s_l_at, [], []⟩
abbrev s_l_draft : Stmt := top 59
def d_l_draft : He.DefD := ⟨("_law_draft", none), "_law_draft", "_law_draft", defArgs s_l_draft, defBody s_l_draft, defScope s_l_draft, [], []⟩
abbrev s_l_spools : Stmt := top 60
def d_l_spools : He.DefD := ⟨("_law_spools", none), "_law_spools", "_law_spools", defArgs s_l_spools, defBody s_l_spools, defScope s_l_spools, [], []⟩
abbrev s_l_most : Stmt := top 61
def d_l_most : He.DefD := ⟨("_law_most", none), "_law_most", "_law_most", defArgs s_l_most, defBody s_l_most, defScope s_l_most, [], []⟩
abbrev s_l_begin : Stmt := top 62
def d_l_begin : He.DefD := ⟨("_law_begin", none), "_law_begin", "_law_begin", defArgs s_l_begin, defBody s_l_begin, defScope s_l_begin, [], []⟩
abbrev s_l_loom_parts : Stmt := top 63
def d_l_loom_parts : He.DefD := ⟨("_law_loom_parts", none), "_law_loom_parts", "_law_loom_parts", defArgs s_l_loom_parts, defBody s_l_loom_parts, defScope s_l_loom_parts, [], []⟩
abbrev s_l_turns : Stmt := top 64
def d_l_turns : He.DefD := ⟨("_law_turns", none), "_law_turns", "_law_turns", defArgs s_l_turns, defBody s_l_turns, defScope s_l_turns, [], []⟩
abbrev s_l_sign : Stmt := top 65
def d_l_sign : He.DefD := ⟨("_law_sign", none), "_law_sign", "_law_sign", defArgs s_l_sign, defBody s_l_sign, defScope s_l_sign, [], []⟩
abbrev s_l_spoil : Stmt := top 66
def d_l_spoil : He.DefD := ⟨("_law_spoil", none), "_law_spoil", "_law_spoil", defArgs s_l_spoil, defBody s_l_spoil, defScope s_l_spoil, [], []⟩
abbrev s_l_rowtext : Stmt := top 67
def d_l_rowtext : He.DefD := ⟨("_law_rowtext", none), "_law_rowtext", "_law_rowtext", defArgs s_l_rowtext, defBody s_l_rowtext, defScope s_l_rowtext, [], []⟩
abbrev s_l_go : Stmt := top 68
def d_l_go : He.DefD := ⟨("_law_go", none), "_law_go", "_law_go", defArgs s_l_go, defBody s_l_go, defScope s_l_go, [], []⟩
abbrev s_l_behind : Stmt := top 69
def d_l_behind : He.DefD := ⟨("_law_behind", none), "_law_behind", "_law_behind", defArgs s_l_behind, defBody s_l_behind, defScope s_l_behind, [], []⟩
abbrev s_l_twist : Stmt := top 70
def d_l_twist : He.DefD := ⟨("_law_twist", none), "_law_twist", "_law_twist", defArgs s_l_twist, defBody s_l_twist, defScope s_l_twist, [], []⟩
abbrev s_l_after : Stmt := top 71
def d_l_after : He.DefD := ⟨("_law_after", none), "_law_after", "_law_after", defArgs s_l_after, defBody s_l_after, defScope s_l_after, [], []⟩
abbrev s_l_turnover : Stmt := top 72
def d_l_turnover : He.DefD := ⟨("_law_turnover", none), "_law_turnover", "_law_turnover", defArgs s_l_turnover, defBody s_l_turnover, defScope s_l_turnover, [], []⟩
abbrev s_l_pick : Stmt := top 73
def d_l_pick : He.DefD := ⟨("_law_pick", none), "_law_pick", "_law_pick", defArgs s_l_pick, defBody s_l_pick, defScope s_l_pick, [], []⟩
abbrev s_l_same : Stmt := top 74
def d_l_same : He.DefD := ⟨("_law_same", none), "_law_same", "_law_same", defArgs s_l_same, defBody s_l_same, defScope s_l_same, [], []⟩
abbrev s_l_stands : Stmt := top 75
def d_l_stands : He.DefD := ⟨("_law_stands", none), "_law_stands", "_law_stands", defArgs s_l_stands, defBody s_l_stands, defScope s_l_stands, [], []⟩
abbrev s_l_lines : Stmt := top 76
def d_l_lines : He.DefD := ⟨("_law_lines", none), "_law_lines", "_law_lines", defArgs s_l_lines, defBody s_l_lines, defScope s_l_lines, [], []⟩
abbrev s_l_kinds : Stmt := top 77
def d_l_kinds : He.DefD := ⟨("_law_kinds", none), "_law_kinds", "_law_kinds", defArgs s_l_kinds, defBody s_l_kinds, defScope s_l_kinds, [], []⟩
abbrev s_l_number : Stmt := top 78
def d_l_number : He.DefD := ⟨("_law_number", none), "_law_number", "_law_number", defArgs s_l_number, defBody s_l_number, defScope s_l_number, [], []⟩
abbrev s_l_head : Stmt := top 79
def d_l_head : He.DefD := ⟨("_law_head", none), "_law_head", "_law_head", defArgs s_l_head, defBody s_l_head, defScope s_l_head, [], []⟩
abbrev s_l_line : Stmt := top 80
def d_l_line : He.DefD := ⟨("_law_line", none), "_law_line", "_law_line", defArgs s_l_line, defBody s_l_line, defScope s_l_line, [], []⟩
abbrev s_l_read : Stmt := top 81
def d_l_read : He.DefD := ⟨("_law_read", none), "_law_read", "_law_read", defArgs s_l_read, defBody s_l_read, defScope s_l_read, [], []⟩
abbrev s_l_built : Stmt := top 82
def d_l_built : He.DefD := ⟨("_law_built", none), "_law_built", "_law_built", defArgs s_l_built, defBody s_l_built, defScope s_l_built, [], []⟩
abbrev s_l_tried : Stmt := top 83
def d_l_tried : He.DefD := ⟨("_law_tried", none), "_law_tried", "_law_tried", defArgs s_l_tried, defBody s_l_tried, defScope s_l_tried, [], []⟩
abbrev s_law : Stmt := top 84
def d_law : He.DefD := ⟨("law", none), "law", "law", defArgs s_law, defBody s_law, defScope s_law, [], []⟩
def fn : List He.DefD := ([d_is_colour, d_made, d_top, d_bottom, d_advance, d_twisting, d_turned, d_flipped, d_slant_of, d_place_of, d_pick_of, d_fits, d_taken_by, d_Stage_init, d_first_stage, d_twisted, d_drawn_off, d_stage_behind, d_stage_flipped, d_Loom_init, d_Loom_put_deed, d_Loom_weave, d_Loom_flip, d_Loom_tablets, d_Loom_band, d_Loom_deeds, d_Loom_twist, d_Loom_peak, d_Loom_rest, d_told] : List He.DefD) ++ ([d_number_of, d_begun, d_read_spools, d_read_tablet, d_read_draft, d_do_line, d_brought, d_l_row, d_l_holes, d_l_card, d_l_at, d_l_draft, d_l_spools, d_l_most, d_l_begin, d_l_loom_parts, d_l_turns, d_l_sign, d_l_spoil, d_l_rowtext, d_l_go, d_l_behind, d_l_twist, d_l_after, d_l_turnover, d_l_pick, d_l_same, d_l_stands, d_l_lines, d_l_kinds] : List He.DefD) ++ ([d_l_number, d_l_head, d_l_line, d_l_read, d_l_built, d_l_tried, d_law] : List He.DefD)
def fa : List He.Fa := ([.glo "BandError", .glo "BadTablet", .glo "BadRow", .glo "BadText", .glo "BadMark", .glo "TooLong", .glo "TooTight", .glo "SpoolDry", .glo "NoTablet", .glo "NothingLeft", .glo "SeenThread", .glo "NoSuchWay", .glo "Barred", .glo "Unlike", .glo "TURNS", .glo "is_colour", .glo "made", .glo "top", .glo "bottom", .glo "advance", .glo "twisting", .glo "turned", .glo "flipped", .glo "slant_of", .glo "place_of", .glo "pick_of", .glo "fits", .glo "taken_by", .glo "Stage", .glo "first_stage"] : List He.Fa) ++ ([.glo "twisted", .glo "drawn_off", .glo "stage_behind", .glo "stage_flipped", .glo "Loom", .glo "told", .glo "number_of", .glo "begun", .glo "read_spools", .glo "read_tablet", .glo "read_draft", .glo "do_line", .glo "brought", .glo "_law_row", .glo "_law_holes", .glo "_law_card", .glo "_law_at", .glo "_law_draft", .glo "_law_spools", .glo "_law_most", .glo "_law_begin", .glo "_law_loom_parts", .glo "_law_turns", .glo "_law_sign", .glo "_law_spoil", .glo "_law_rowtext", .glo "_law_go", .glo "_law_behind", .glo "_law_twist", .glo "_law_after"] : List He.Fa) ++ ([.glo "_law_turnover", .glo "_law_pick", .glo "_law_same", .glo "_law_stands", .glo "_law_lines", .glo "_law_kinds", .glo "_law_number", .glo "_law_head", .glo "_law_line", .glo "_law_read", .glo "_law_built", .glo "_law_tried", .glo "law", .str "COLOURS" "abcdefghijklmnopqrstuvwxyz", .str "FIGURES" "0123456789", .int "MOST_FIGURES" 9, .int "MOST_CARDS" 8, .free "len", .free "zip", .free "list", .free "dict", .free "enumerate", .free "abs", .free "max", .free "min", .free "int", .free "str", .free "isinstance", .free "range", .free "sorted"] : List He.Fa) ++ ([.free "bool", .free "tuple", .free "ValueError", .cls "Stage", .mkr "Stage", .cls "Loom", .mkr "Loom", .noat "Stage" "cards", .noat "Stage" "turned_by", .noat "Stage" "farthest", .noat "Stage" "lengths", .noat "Loom" "draft", .noat "Loom" "most", .noat "Loom" "spools", .noat "Loom" "stages", .noat "Loom" "done", .noat "Loom" "undone", .meth "Loom" "put_deed", .meth "Loom" "weave", .meth "Loom" "flip", .meth "Loom" "tablets", .meth "Loom" "band", .meth "Loom" "deeds", .meth "Loom" "twist", .meth "Loom" "peak", .meth "Loom" "rest", .exc "BadTablet", .exc "BadRow", .exc "BadText", .exc "TooTight"] : List He.Fa) ++ ([.exc "SpoolDry", .exc "NoTablet"] : List He.Fa)
def isB (K : PySem.W.Frag) (D : Addr) : Bool := He.eqO (PySem.W.findIn K (.ref D) "__getattribute__") (some (some (.builtin "BaseException.__getattribute__"))) && (He.eqO (PySem.W.findIn K (.ref D) "__getattr__") (some none) && (PySem.W.hasDictIn K D && (He.eqO (PySem.W.findIn K (.ref D) "__class__") (some (some (.builtin "object.__class__"))) &&
  (He.eqO (PySem.W.specialIn K (.builtin "object.__class__") "__get__") (some (some (.builtin "getset_descriptor.__get__"))) && (decide (PySem.W.takesIn K (.builtin "object.__class__") = some true) && decide (PySem.W.mroIn K D (.type "object") = some true))))))
def kitB2 (K : PySem.W.Frag) (x y : Str) (b : Bool) : Bool := decide (PySem.W.kitOne K (.ref (He.ga K x)) (.ref (He.ga K y)) = some b)
def exB (K : PySem.W.Frag) : Bool := He.tupB K "TURNS" [.str "f", .str "b", .str "i"] && (isB K (He.ga K "BadText") && (decide (PySem.W.kitOne K (.ref (He.ga K "BadText")) (.type "ValueError") = some true) &&
  (((["BadTablet", "BadRow", "BadMark", "TooLong", "TooTight", "SpoolDry", "NoTablet", "NothingLeft", "Unlike", "SeenThread", "NoSuchWay", "Barred"] : List Str).all fun y => kitB2 K "BadText" y false) && (kitB2 K "BadText" "BadText" true && (kitB2 K "BadText" "BandError" true &&
  ((["BadRow", "NoTablet", "SpoolDry", "TooTight", "BadTablet"] : List Str).all fun x => (["BadRow", "NoTablet", "SpoolDry", "TooTight", "BadTablet"] : List Str).all fun y => decide (PySem.W.exmOne K (.ref (He.ga K x)) (.ref (He.ga K y)) = some (decide (x = y)))) &&
  (["BadRow", "NoTablet", "SpoolDry", "TooTight", "BadTablet"] : List Str).all fun y => decide (PySem.W.exmOne K (.ref (He.ga K "BadText")) (.ref (He.ga K y)) = some false)))))) && decide (PySem.W.exmOne K (.ref (He.ga K "BadText")) (.ref (He.ga K "BandError")) = some true)
abbrev hk : PySem.W.Hook := He.hookX 5 fa fn [] [] exB
def ob (s : PySem.W.SharedT) : He.AlX := He.obsX 5 fa fn [] [] exB (HandSHeadRun.getT s)
theorem ob_eq (s : PySem.W.SharedT) : ob s = hk.obs s.abs := He.obsX_eq (HandSHeadRun.getT_eq s)
def loose : List PySem.Str := (["_wall", "BandError", "BadTablet", "BadRow", "BadText", "BadMark", "TooLong", "TooTight", "SpoolDry", "NoTablet", "NothingLeft", "SeenThread", "NoSuchWay", "Barred", "Unlike", "COLOURS", "TURNS", "is_colour", "made", "top", "bottom", "advance", "twisting", "turned", "flipped", "slant_of", "place_of", "pick_of", "fits", "taken_by"] : List PySem.Str) ++ (["Stage", "first_stage", "twisted", "drawn_off", "stage_behind", "stage_flipped", "Loom", "FIGURES", "MOST_FIGURES", "MOST_CARDS", "told", "number_of", "begun", "read_spools", "read_tablet", "read_draft", "do_line", "brought", "_law_row", "_law_holes", "_law_card", "_law_at", "_law_draft", "_law_spools", "_law_most", "_law_begin", "_law_loom_parts", "_law_turns", "_law_sign", "_law_spoil"] : List PySem.Str) ++ (["_law_rowtext", "_law_go", "_law_behind", "_law_twist", "_law_after", "_law_turnover", "_law_pick", "_law_same", "_law_stands", "_law_lines", "_law_kinds", "_law_number", "_law_head", "_law_line", "_law_read", "_law_built", "_law_tried"] : List PySem.Str)
theorem run (w : World) : HandSHeadRun.RunEq R (PySem.W.view R.prog [84]) hk ob 6000 loose w := by
  intro os
  kernel_rfl
end Hd

open PySem PySem.W PySem.Calls PyProof.Rows in
theorem Hd.last (F : ∀ (w : PySem.World) (mg : PySem.Str → Option PySem.Value) (fa : PySem.Addr) (h : PySem.Heap), (∃ K : PySem.W.Frag, K.In h ∧ He.SaysX Hd.fa Hd.fn [] [] Hd.exB w h K) → h.Ns PySem.mainGlobals mg → mg ("law" : PySem.Str) = some (.ref fa) →
      ∃ (K : PySem.W.Frag) (fd : PySem.FuncData) (sp : L2.Sp), K.In h ∧ (∀ (s : PySem.Shared) (u : PySem.Value), PySem.BindsTo s fd ⟨[u], []⟩ [("_law_script", u)]) ∧
        (∀ (H : L2.Hp) (a : PySem.Addr) (ns : List Int), ns.length ≤ 63 → L2.Only H → L2.SqL K H a (ns.map L2.V.int) → sp [.ref a] H (fun v _ => v = .bl true) fun _ _ _ => False) ∧
        ∀ base : PySem.Heap, K.In base → base.Ns PySem.mainGlobals mg → L2.FnOk (PySem.Challenge.rw_wornband_k50_whole_chronicles_read).prog w K mg base L2.CX0 10 fa fd ["_law_script"] sp) : PySem.Challenge.rw_wornband_k50_whole_chronicles_read.Holds := by
  w_on; o_law
  refine HandSHeadRun.head_any (r := OpenLaw.row PySem.Challenge.rw_wornband_k50_whole_chronicles_read) (q := view (OpenLaw.row PySem.Challenge.rw_wornband_k50_whole_chronicles_read).prog [84]) (H := Hd.hk) (ob := Hd.ob) (M := 6000) (loose := Hd.loose) (d := HandSHeadRun.topDef (OpenLaw.row PySem.Challenge.rw_wornband_k50_whole_chronicles_read).prog 84) (kwd := []) Hd.ob_eq
    (by kernel_rfl) (fun s => by kernel_rfl) Hd.run (by kernel_rfl) (by kernel_rfl) (by kernel_rfl) (by rfl) (by first | assumption | decide +kernel) (by decide +kernel) ⟨rfl, rfl, rfl, rfl, rfl, by decide +kernel⟩ ?hw ?hc
  case hw => w_witness2
  case hc =>
    refine L2.walk_ofE (l := PySem.Challenge.rw_wornband_k50_whole_chronicles_read) (n := 63) (k := 10) (x := "_law_script") (CX := L2.CX0) rfl (by decide) (by kernel_rfl) ⟨rfl, by decide, by decide⟩ ?F (fun _ _ _ _ z => z)
    intro w mg fa h Y G hmg0
    have hmg : mg ("law" : PySem.Str) = some (.ref fa) := by
      have e : (HandSHeadRun.topDef (OpenLaw.row PySem.Challenge.rw_wornband_k50_whole_chronicles_read).prog 84).name = ("law" : PySem.Str) := by kernel_rfl
      rw [← e]
      exact hmg0
    exact F w mg fa h Y G hmg

set_option maxHeartbeats 4000000
/-! Wb: the text by its places. -/
namespace Wb
open PySem PySem.Spec PyProof.Rows L2
def top (i : Nat) : Stmt := PySem.Challenge.pw_wornband_k50_whole_chronicles_read.main.body.getD i (.Pass ⟨0, 0, 0, 0⟩)
theorem sc_by {N ps : List Str} {sc : Scope} (a : sc.kind = .function) (b : sc.isCoroutine = false) (c : sc.isGenerator = false) (d : N.Nodup) (e : N.take ps.length = ps)
    (f : ∀ x ∈ ps, sc.names.lookup x = some .local ∨ sc.names.lookup x = some .cell) (g : ∀ y ∈ sc.names, y.2 ≠ .free) : FnScope N ps sc := ⟨a, b, c, d, e, f, g⟩
abbrev s_Unlike_init : Stmt := inClass (top 15) 0
abbrev N_Unlike_init : List Str := ["self", "pick", "side"]
theorem sc_Unlike_init : FnScope N_Unlike_init ["self", "pick", "side"] (defScope s_Unlike_init) := sc_by rfl rfl rfl (by decide +kernel) rfl (by decide +kernel) (by decide +kernel)
abbrev s_is_colour : Stmt := top 19
abbrev N_is_colour : List Str := ["sign"]
theorem sc_is_colour : FnScope N_is_colour ["sign"] (defScope s_is_colour) := sc_by rfl rfl rfl (by decide +kernel) rfl (by decide +kernel) (by decide +kernel)
abbrev s_made : Stmt := top 20
abbrev N_made : List Str := ["lay", "holes", "stand", "colour"]
theorem sc_made : FnScope N_made ["lay", "holes", "stand"] (defScope s_made) := sc_by rfl rfl rfl (by decide +kernel) rfl (by decide +kernel) (by decide +kernel)
abbrev s_top : Stmt := top 21
abbrev N_top : List Str := ["tablet"]
theorem sc_top : FnScope N_top ["tablet"] (defScope s_top) := sc_by rfl rfl rfl (by decide +kernel) rfl (by decide +kernel) (by decide +kernel)
abbrev s_bottom : Stmt := top 22
abbrev N_bottom : List Str := ["tablet"]
theorem sc_bottom : FnScope N_bottom ["tablet"] (defScope s_bottom) := sc_by rfl rfl rfl (by decide +kernel) rfl (by decide +kernel) (by decide +kernel)
abbrev s_advance : Stmt := top 23
abbrev N_advance : List Str := ["turn"]
theorem sc_advance : FnScope N_advance ["turn"] (defScope s_advance) := sc_by rfl rfl rfl (by decide +kernel) rfl (by decide +kernel) (by decide +kernel)
abbrev s_twisting : Stmt := top 24
abbrev N_twisting : List Str := ["tablet", "turn"]
theorem sc_twisting : FnScope N_twisting ["tablet", "turn"] (defScope s_twisting) := sc_by rfl rfl rfl (by decide +kernel) rfl (by decide +kernel) (by decide +kernel)
abbrev s_turned : Stmt := top 25
abbrev N_turned : List Str := ["tablet", "turn"]
theorem sc_turned : FnScope N_turned ["tablet", "turn"] (defScope s_turned) := sc_by rfl rfl rfl (by decide +kernel) rfl (by decide +kernel) (by decide +kernel)
abbrev s_flipped : Stmt := top 26
abbrev N_flipped : List Str := ["tablet", "lay", "holes"]
theorem sc_flipped : FnScope N_flipped ["tablet"] (defScope s_flipped) := sc_by rfl rfl rfl (by decide +kernel) rfl (by decide +kernel) (by decide +kernel)
abbrev s_slant_of : Stmt := top 28
abbrev N_slant_of : List Str := ["twist"]
theorem sc_slant_of : FnScope N_slant_of ["twist"] (defScope s_slant_of) := sc_by rfl rfl rfl (by decide +kernel) rfl (by decide +kernel) (by decide +kernel)
abbrev s_place_of : Stmt := top 29
abbrev N_place_of : List Str := ["tablet", "turn"]
theorem sc_place_of : FnScope N_place_of ["tablet", "turn"] (defScope s_place_of) := sc_by rfl rfl rfl (by decide +kernel) rfl (by decide +kernel) (by decide +kernel)
abbrev s_pick_of : Stmt := top 30
abbrev N_pick_of : List Str := ["tablets", "row", "behind", "pick", "tablet", "turn"]
theorem sc_pick_of : FnScope N_pick_of ["tablets", "row"] (defScope s_pick_of) := sc_by rfl rfl rfl (by decide +kernel) rfl (by decide +kernel) (by decide +kernel)
abbrev s_fits : Stmt := top 32
abbrev N_fits : List Str := ["row", "width", "turn"]
theorem sc_fits : FnScope N_fits ["row", "width"] (defScope s_fits) := sc_by rfl rfl rfl (by decide +kernel) rfl (by decide +kernel) (by decide +kernel)
abbrev s_taken_by : Stmt := top 34
abbrev N_taken_by : List Str := ["tablets", "row", "lengths", "tablet", "turn", "each", "colour"]
theorem sc_taken_by : FnScope N_taken_by ["tablets", "row"] (defScope s_taken_by) := sc_by rfl rfl rfl (by decide +kernel) rfl (by decide +kernel) (by decide +kernel)
abbrev s_Stage_init : Stmt := inClass (top 35) 0
abbrev N_Stage_init : List Str := ["self", "tablets", "twists", "peaks", "spools"]
theorem sc_Stage_init : FnScope N_Stage_init ["self", "tablets", "twists", "peaks", "spools"] (defScope s_Stage_init) := sc_by rfl rfl rfl (by decide +kernel) rfl (by decide +kernel) (by decide +kernel)
abbrev s_first_stage : Stmt := top 36
abbrev N_first_stage : List Str := ["draft", "spools", "tablet"]
theorem sc_first_stage : FnScope N_first_stage ["draft", "spools"] (defScope s_first_stage) := sc_by rfl rfl rfl (by decide +kernel) rfl (by decide +kernel) (by decide +kernel)
abbrev s_twisted : Stmt := top 37
abbrev N_twisted : List Str := ["stage", "row", "most", "behind", "k", "turn", "twist"]
theorem sc_twisted : FnScope N_twisted ["stage", "row", "most"] (defScope s_twisted) := sc_by rfl rfl rfl (by decide +kernel) rfl (by decide +kernel) (by decide +kernel)
abbrev s_drawn_off : Stmt := top 38
abbrev N_drawn_off : List Str := ["stage", "row", "behind", "colour", "length"]
theorem sc_drawn_off : FnScope N_drawn_off ["stage", "row"] (defScope s_drawn_off) := sc_by rfl rfl rfl (by decide +kernel) rfl (by decide +kernel) (by decide +kernel)
abbrev s_stage_behind : Stmt := top 39
abbrev N_stage_behind : List Str := ["stage", "row", "most", "behind", "farthest", "far", "twist"]
theorem sc_stage_behind : FnScope N_stage_behind ["stage", "row", "most"] (defScope s_stage_behind) := sc_by rfl rfl rfl (by decide +kernel) rfl (by decide +kernel) (by decide +kernel)
abbrev s_stage_flipped : Stmt := top 40
abbrev N_stage_flipped : List Str := ["stage", "k", "cards"]
theorem sc_stage_flipped : FnScope N_stage_flipped ["stage", "k"] (defScope s_stage_flipped) := sc_by rfl rfl rfl (by decide +kernel) rfl (by decide +kernel) (by decide +kernel)
abbrev s_Loom_init : Stmt := inClass (top 41) 0
abbrev N_Loom_init : List Str := ["self", "draft", "most", "spools"]
theorem sc_Loom_init : FnScope N_Loom_init ["self", "draft", "most", "spools"] (defScope s_Loom_init) := sc_by rfl rfl rfl (by decide +kernel) rfl (by decide +kernel) (by decide +kernel)
abbrev s_Loom_put_deed : Stmt := inClass (top 41) 1
abbrev N_Loom_put_deed : List Str := ["self", "deed", "stage"]
theorem sc_Loom_put_deed : FnScope N_Loom_put_deed ["self", "deed", "stage"] (defScope s_Loom_put_deed) := sc_by rfl rfl rfl (by decide +kernel) rfl (by decide +kernel) (by decide +kernel)
abbrev s_Loom_weave : Stmt := inClass (top 41) 2
abbrev N_Loom_weave : List Str := ["self", "row", "stage"]
theorem sc_Loom_weave : FnScope N_Loom_weave ["self", "row"] (defScope s_Loom_weave) := sc_by rfl rfl rfl (by decide +kernel) rfl (by decide +kernel) (by decide +kernel)
abbrev s_Loom_flip : Stmt := inClass (top 41) 3
abbrev N_Loom_flip : List Str := ["self", "k"]
theorem sc_Loom_flip : FnScope N_Loom_flip ["self", "k"] (defScope s_Loom_flip) := sc_by rfl rfl rfl (by decide +kernel) rfl (by decide +kernel) (by decide +kernel)
abbrev s_Loom_follow : Stmt := inClass (top 41) 4
abbrev N_Loom_follow : List Str := ["self", "program"]
theorem sc_Loom_follow : FnScope N_Loom_follow ["self", "program"] (defScope s_Loom_follow) := sc_by rfl rfl rfl (by decide +kernel) rfl (by decide +kernel) (by decide +kernel)
abbrev s_Loom_undo : Stmt := inClass (top 41) 5
abbrev N_Loom_undo : List Str := ["self", "deed"]
theorem sc_Loom_undo : FnScope N_Loom_undo ["self"] (defScope s_Loom_undo) := sc_by rfl rfl rfl (by decide +kernel) rfl (by decide +kernel) (by decide +kernel)
abbrev s_Loom_redo : Stmt := inClass (top 41) 6
abbrev N_Loom_redo : List Str := ["self"]
theorem sc_Loom_redo : FnScope N_Loom_redo ["self"] (defScope s_Loom_redo) := sc_by rfl rfl rfl (by decide +kernel) rfl (by decide +kernel) (by decide +kernel)
abbrev s_Loom_tablets : Stmt := inClass (top 41) 7
abbrev N_Loom_tablets : List Str := ["self"]
theorem sc_Loom_tablets : FnScope N_Loom_tablets ["self"] (defScope s_Loom_tablets) := sc_by rfl rfl rfl (by decide +kernel) rfl (by decide +kernel) (by decide +kernel)
abbrev s_Loom_band : Stmt := inClass (top 41) 8
abbrev N_Loom_band : List Str := ["self", "picks", "deed", "stage"]
theorem sc_Loom_band : FnScope N_Loom_band ["self"] (defScope s_Loom_band) := sc_by rfl rfl rfl (by decide +kernel) rfl (by decide +kernel) (by decide +kernel)
abbrev s_Loom_deeds : Stmt := inClass (top 41) 9
abbrev N_Loom_deeds : List Str := ["self"]
theorem sc_Loom_deeds : FnScope N_Loom_deeds ["self"] (defScope s_Loom_deeds) := sc_by rfl rfl rfl (by decide +kernel) rfl (by decide +kernel) (by decide +kernel)
abbrev s_Loom_twist : Stmt := inClass (top 41) 10
abbrev N_Loom_twist : List Str := ["self", "k"]
theorem sc_Loom_twist : FnScope N_Loom_twist ["self", "k"] (defScope s_Loom_twist) := sc_by rfl rfl rfl (by decide +kernel) rfl (by decide +kernel) (by decide +kernel)
abbrev s_Loom_peak : Stmt := inClass (top 41) 11
abbrev N_Loom_peak : List Str := ["self", "k"]
theorem sc_Loom_peak : FnScope N_Loom_peak ["self", "k"] (defScope s_Loom_peak) := sc_by rfl rfl rfl (by decide +kernel) rfl (by decide +kernel) (by decide +kernel)
abbrev s_Loom_rest : Stmt := inClass (top 41) 12
abbrev N_Loom_rest : List Str := ["self", "colour"]
theorem sc_Loom_rest : FnScope N_Loom_rest ["self", "colour"] (defScope s_Loom_rest) := sc_by rfl rfl rfl (by decide +kernel) rfl (by decide +kernel) (by decide +kernel)
abbrev s_told : Stmt := top 46
abbrev N_told : List Str := ["loom", "lines", "colour", "lay", "holes", "stand", "word", "what"]
theorem sc_told : FnScope N_told ["loom"] (defScope s_told) := sc_by rfl rfl rfl (by decide +kernel) rfl (by decide +kernel) (by decide +kernel)
abbrev s_number_of : Stmt := top 47
abbrev N_number_of : List Str := ["figures", "sign"]
theorem sc_number_of : FnScope N_number_of ["figures"] (defScope s_number_of) := sc_by rfl rfl rfl (by decide +kernel) rfl (by decide +kernel) (by decide +kernel)
abbrev s_begun : Stmt := top 48
abbrev N_begun : List Str := ["lines", "at", "word"]
theorem sc_begun : FnScope N_begun ["lines", "at", "word"] (defScope s_begun) := sc_by rfl rfl rfl (by decide +kernel) rfl (by decide +kernel) (by decide +kernel)
abbrev s_read_spools : Stmt := top 49
abbrev N_read_spools : List Str := ["lines", "at", "spools", "last"]
theorem sc_read_spools : FnScope N_read_spools ["lines", "at"] (defScope s_read_spools) := sc_by rfl rfl rfl (by decide +kernel) rfl (by decide +kernel) (by decide +kernel)
abbrev s_read_tablet : Stmt := top 50
abbrev N_read_tablet : List Str := ["words"]
theorem sc_read_tablet : FnScope N_read_tablet ["words"] (defScope s_read_tablet) := sc_by rfl rfl rfl (by decide +kernel) rfl (by decide +kernel) (by decide +kernel)
abbrev s_read_draft : Stmt := top 51
abbrev N_read_draft : List Str := ["lines", "at", "draft"]
theorem sc_read_draft : FnScope N_read_draft ["lines", "at"] (defScope s_read_draft) := sc_by rfl rfl rfl (by decide +kernel) rfl (by decide +kernel) (by decide +kernel)
abbrev s_do_line : Stmt := top 52
abbrev N_do_line : List Str := ["loom", "words"]
theorem sc_do_line : FnScope N_do_line ["loom", "words"] (defScope s_do_line) := sc_by rfl rfl rfl (by decide +kernel) rfl (by decide +kernel) (by decide +kernel)
abbrev s_brought : Stmt := top 53
abbrev N_brought : List Str := ["text", "lines", "spools", "at", "draft", "loom", "words", "line"]
theorem sc_brought : FnScope N_brought ["text"] (defScope s_brought) := sc_by rfl rfl rfl (by decide +kernel) rfl (by decide +kernel) (by decide +kernel)
abbrev s_l_row : Stmt := top 55
abbrev N_l_row : List Str := ["_law_cell", "_law_many", "_law_base", "_law_now", "_law_far", "_law_mix", "_law_out", "_law_k"]
theorem sc_l_row : FnScope N_l_row ["_law_cell", "_law_many", "_law_base"] (defScope s_l_row) := sc_by rfl rfl rfl (by decide +kernel) rfl (by decide +kernel) (by decide +kernel)
abbrev s_l_holes : Stmt := top 56
abbrev N_l_holes : List Str := ["_law_cell", "_law_size", "_law_draws", "_law_out", "_law_d"]
theorem sc_l_holes : FnScope N_l_holes ["_law_cell"] (defScope s_l_holes) := sc_by rfl rfl rfl (by decide +kernel) rfl (by decide +kernel) (by decide +kernel)
abbrev s_l_card : Stmt := top 57
abbrev N_l_card : List Str := ["_law_cell"]
theorem sc_l_card : FnScope N_l_card ["_law_cell"] (defScope s_l_card) := sc_by rfl rfl rfl (by decide +kernel) rfl (by decide +kernel) (by decide +kernel)
abbrev s_l_at : Stmt := top 58
abbrev N_l_at : List Str := ["_law_script", "_law_k"]
theorem sc_l_at : FnScope N_l_at ["_law_script", "_law_k"] (defScope s_l_at) := sc_by rfl rfl rfl (by decide +kernel) rfl (by decide +kernel) (by decide +kernel)
abbrev s_l_draft : Stmt := top 59
abbrev N_l_draft : List Str := ["_law_script", "_law_at_here", "_law_width", "_law_k"]
theorem sc_l_draft : FnScope N_l_draft ["_law_script", "_law_at_here", "_law_width"] (defScope s_l_draft) := sc_by rfl rfl rfl (by decide +kernel) rfl (by decide +kernel) (by decide +kernel)
abbrev s_l_spools : Stmt := top 60
abbrev N_l_spools : List Str := ["_law_draft_here", "_law_cell", "_law_out", "_law_draws", "_law_k", "_law_card_here", "_law_colour", "_law_left_out"]
theorem sc_l_spools : FnScope N_l_spools ["_law_draft_here", "_law_cell"] (defScope s_l_spools) := sc_by rfl rfl rfl (by decide +kernel) rfl (by decide +kernel) (by decide +kernel)
abbrev s_l_most : Stmt := top 61
abbrev N_l_most : List Str := ["_law_cell"]
theorem sc_l_most : FnScope N_l_most ["_law_cell"] (defScope s_l_most) := sc_by rfl rfl rfl (by decide +kernel) rfl (by decide +kernel) (by decide +kernel)
abbrev s_l_begin : Stmt := top 62
abbrev N_l_begin : List Str := ["_law_draft_here", "_law_spools_here", "_law_card_here"]
theorem sc_l_begin : FnScope N_l_begin ["_law_draft_here", "_law_spools_here"] (defScope s_l_begin) := sc_by rfl rfl rfl (by decide +kernel) rfl (by decide +kernel) (by decide +kernel)
abbrev s_l_loom_parts : Stmt := top 63
abbrev N_l_loom_parts : List Str := ["_law_script", "_law_width", "_law_draft_here"]
theorem sc_l_loom_parts : FnScope N_l_loom_parts ["_law_script"] (defScope s_l_loom_parts) := sc_by rfl rfl rfl (by decide +kernel) rfl (by decide +kernel) (by decide +kernel)
abbrev s_l_turns : Stmt := top 64
abbrev N_l_turns : List Str := ["_law_cell", "_law_many", "_law_d"]
theorem sc_l_turns : FnScope N_l_turns ["_law_cell", "_law_many"] (defScope s_l_turns) := sc_by rfl rfl rfl (by decide +kernel) rfl (by decide +kernel) (by decide +kernel)
abbrev s_l_sign : Stmt := top 65
abbrev N_l_sign : List Str := ["_law_cell", "_law_some"]
theorem sc_l_sign : FnScope N_l_sign ["_law_cell"] (defScope s_l_sign) := sc_by rfl rfl rfl (by decide +kernel) rfl (by decide +kernel) (by decide +kernel)
abbrev s_l_spoil : Stmt := top 66
abbrev N_l_spoil : List Str := ["_law_text", "_law_cell", "_law_at_here", "_law_sign_here", "_law_twin"]
theorem sc_l_spoil : FnScope N_l_spoil ["_law_text", "_law_cell"] (defScope s_l_spoil) := sc_by rfl rfl rfl (by decide +kernel) rfl (by decide +kernel) (by decide +kernel)
abbrev s_l_rowtext : Stmt := top 67
abbrev N_l_rowtext : List Str := ["_law_cell", "_law_width"]
theorem sc_l_rowtext : FnScope N_l_rowtext ["_law_cell", "_law_width"] (defScope s_l_rowtext) := sc_by rfl rfl rfl (by decide +kernel) rfl (by decide +kernel) (by decide +kernel)
abbrev s_l_go : Stmt := top 68
abbrev N_l_go : List Str := ["_law_turn"]
theorem sc_l_go : FnScope N_l_go ["_law_turn"] (defScope s_l_go) := sc_by rfl rfl rfl (by decide +kernel) rfl (by decide +kernel) (by decide +kernel)
abbrev s_l_behind : Stmt := top 69
abbrev N_l_behind : List Str := ["_law_card_here", "_law_turn"]
theorem sc_l_behind : FnScope N_l_behind ["_law_card_here", "_law_turn"] (defScope s_l_behind) := sc_by rfl rfl rfl (by decide +kernel) rfl (by decide +kernel) (by decide +kernel)
abbrev s_l_twist : Stmt := top 70
abbrev N_l_twist : List Str := ["_law_card_here", "_law_turn"]
theorem sc_l_twist : FnScope N_l_twist ["_law_card_here", "_law_turn"] (defScope s_l_twist) := sc_by rfl rfl rfl (by decide +kernel) rfl (by decide +kernel) (by decide +kernel)
abbrev s_l_after : Stmt := top 71
abbrev N_l_after : List Str := ["_law_state", "_law_row_here", "_law_most_here", "_law_cards", "_law_now", "_law_far", "_law_left", "_law_card_here", "_law_turn", "_law_colour", "_law_one", "_law_other"]
theorem sc_l_after : FnScope N_l_after ["_law_state", "_law_row_here", "_law_most_here"] (defScope s_l_after) := sc_by rfl rfl rfl (by decide +kernel) rfl (by decide +kernel) (by decide +kernel)
abbrev s_l_turnover : Stmt := top 72
abbrev N_l_turnover : List Str := ["_law_card_here", "_law_holes_here"]
theorem sc_l_turnover : FnScope N_l_turnover ["_law_card_here"] (defScope s_l_turnover) := sc_by rfl rfl rfl (by decide +kernel) rfl (by decide +kernel) (by decide +kernel)
abbrev s_l_pick : Stmt := top 73
abbrev N_l_pick : List Str := ["_law_cards", "_law_row_here", "_law_out", "_law_card_here", "_law_turn", "_law_slant"]
theorem sc_l_pick : FnScope N_l_pick ["_law_cards", "_law_row_here"] (defScope s_l_pick) := sc_by rfl rfl rfl (by decide +kernel) rfl (by decide +kernel) (by decide +kernel)
abbrev s_l_same : Stmt := top 74
abbrev N_l_same : List Str := ["_law_found", "_law_due", "_law_one", "_law_other"]
theorem sc_l_same : FnScope N_l_same ["_law_found", "_law_due"] (defScope s_l_same) := sc_by rfl rfl rfl (by decide +kernel) rfl (by decide +kernel) (by decide +kernel)
abbrev s_l_stands : Stmt := top 75
abbrev N_l_stands : List Str := ["_law_loom", "_law_state", "_law_band", "_law_done", "_law_k", "_law_colour"]
theorem sc_l_stands : FnScope N_l_stands ["_law_loom", "_law_state", "_law_band", "_law_done"] (defScope s_l_stands) := sc_by rfl rfl rfl (by decide +kernel) rfl (by decide +kernel) (by decide +kernel)
abbrev s_l_lines : Stmt := top 76
abbrev N_l_lines : List Str := ["_law_draft_here", "_law_most_here", "_law_spools_here", "_law_done", "_law_out", "_law_colour", "_law_card_here", "_law_deed"]
theorem sc_l_lines : FnScope N_l_lines ["_law_draft_here", "_law_most_here", "_law_spools_here", "_law_done"] (defScope s_l_lines) := sc_by rfl rfl rfl (by decide +kernel) rfl (by decide +kernel) (by decide +kernel)
abbrev s_l_kinds : Stmt := top 77
abbrev N_l_kinds : List Str := ["_law_e", "_law_known", "_law_name", "_law_so"]
theorem sc_l_kinds : FnScope N_l_kinds ["_law_e"] (defScope s_l_kinds) := sc_by rfl rfl rfl (by decide +kernel) rfl (by decide +kernel) (by decide +kernel)
abbrev s_l_number : Stmt := top 78
abbrev N_l_number : List Str := ["_law_text", "_law_sign_here"]
theorem sc_l_number : FnScope N_l_number ["_law_text"] (defScope s_l_number) := sc_by rfl rfl rfl (by decide +kernel) rfl (by decide +kernel) (by decide +kernel)
abbrev s_l_head : Stmt := top 79
abbrev N_l_head : List Str := ["_law_lines_here", "_law_spools_here", "_law_draft_here", "_law_words", "_law_good", "_law_sign_here", "_law_one"]
theorem sc_l_head : FnScope N_l_head ["_law_lines_here"] (defScope s_l_head) := sc_by rfl rfl rfl (by decide +kernel) rfl (by decide +kernel) (by decide +kernel)
abbrev s_l_line : Stmt := top 80
abbrev N_l_line : List Str := ["_law_state", "_law_words", "_law_most_here", "_law_at_here", "_law_cards"]
theorem sc_l_line : FnScope N_l_line ["_law_state", "_law_words", "_law_most_here"] (defScope s_l_line) := sc_by rfl rfl rfl (by decide +kernel) rfl (by decide +kernel) (by decide +kernel)
abbrev s_l_read : Stmt := top 81
abbrev N_l_read : List Str := ["_law_text", "_law_lines_here", "_law_head_here", "_law_state", "_law_band", "_law_done", "_law_words", "_law_line_here"]
theorem sc_l_read : FnScope N_l_read ["_law_text"] (defScope s_l_read) := sc_by rfl rfl rfl (by decide +kernel) rfl (by decide +kernel) (by decide +kernel)
abbrev s_l_built : Stmt := top 82
abbrev N_l_built : List Str := ["_law_script", "_law_draft_here", "_law_most_here", "_law_spools_here", "_law_done", "_law_k", "_law_cell", "_law_lines_here", "_law_at_here", "_law_more", "_law_text"]
theorem sc_l_built : FnScope N_l_built ["_law_script"] (defScope s_l_built) := sc_by rfl rfl rfl (by decide +kernel) rfl (by decide +kernel) (by decide +kernel)
abbrev s_l_tried : Stmt := top 83
abbrev N_l_tried : List Str := ["_law_text", "_law_loom", "_law_e"]
theorem sc_l_tried : FnScope N_l_tried ["_law_text"] (defScope s_l_tried) := sc_by rfl rfl rfl (by decide +kernel) rfl (by decide +kernel) (by decide +kernel)
abbrev s_law : Stmt := top 84
abbrev N_law : List Str := ["_law_script", "_law_text", "_law_due", "_law_refused", "_law_loom"]
theorem sc_law : FnScope N_law ["_law_script"] (defScope s_law) := sc_by rfl rfl rfl (by decide +kernel) rfl (by decide +kernel) (by decide +kernel)
end Wb

/-! E3: exceptions that bear a context of their own (raised from None in an except suite), out of defs. -/
namespace Wb
open PySem PySem.Spec PyProof.Rows L2
/-! ### the context's field -/
def cV : Option (Addr × Obj) → Value
  | none => .none
  | some p => .ref p.1
theorem fld2_steady (z : Value) : PXN.Steady1 (fun o => ∀ ws : Array Value, o.data = .fields ws → ws[2]? = some z) := by
  intro o x hy ws hw
  obtain ⟨oc, od, dt, sl⟩ := o
  cases dt with
  | fields us =>
    have q : us.setIfInBounds 1 x = ws := Data.fields.inj hw
    have q2 : (us.setIfInBounds 1 x)[2]? = us[2]? := by simp [Array.getElem?_setIfInBounds]
    rw [← q, q2]
    exact hy us rfl
  | _ => exact absurd hw (by intro z; cases z)
/-- class, dict, and which exception is its context -/
def Zk (c : Option (Addr × Obj)) (cls : Value) (d : Option Addr) : Obj → Prop := fun o => o.cls = cls ∧ o.dict = d ∧ ∀ ws : Array Value, o.data = .fields ws → ws[2]? = some (cV c)
theorem zk_steady {c : Option (Addr × Obj)} {cls : Value} {d : Option Addr} : PXN.Steady1 (Zk c cls d) := fun o v q => ⟨PXN.steady_cls o v q.1, PXN.steady_dict o v q.2.1, fld2_steady (cV c) o v q.2.2⟩
theorem Zk.zc {c : Option (Addr × Obj)} {cls : Value} {d : Option Addr} {o : Obj} (q : Zk c cls d o) : Zc cls d o := ⟨q.1, q.2.1⟩
theorem zk_of {cls : Value} {d : Option Addr} {o : Obj} (q : L2N.Zn cls d o) : Zk none cls d o := ⟨q.1, q.2.1, q.2.2⟩
/-- the context stands in the ground, untracked, and has none itself -/
def Ck (c : Option (Addr × Obj)) (B : Heap) (H : Hp) : Prop := ∀ p, c = some p → B.get? p.1 = some p.2 ∧ H p.1 = none ∧ ∃ ws : Array Value, p.2.data = .fields ws ∧ ws[2]? = some .none
theorem ck_none {B : Heap} {H : Hp} : Ck none B H := fun _ q => nomatch q
/-! ### in the air -/
def XE3 (X : Cx) (W : WX) (u : Value) (s' : Shared) : Prop :=
  ∃ (c : Option (Addr × Obj)) (a : Addr) (B : Heap) (sI : Shared) (pins : List (Addr × Obj)) (σ : L2.St) (H : Hp) (cls : Value) (d : Option Addr),
    u = .ref a ∧ Inv X pins σ H sI ∧ (∀ b o, sI.heap.get? b = some o → b ∉ frs X.stack → B.get? b = some o) ∧ sI.heap.UpToSlots s'.heap ∧
      Sky B X.stack a (Zk c cls d) X.env.locals s'.heap ∧ H a = none ∧ Ck c B H ∧ s'.os = sI.os ∧ AllBare s'.gens ∧ W cls d σ H
def Takes3 (X : Cx) (W : WX) : Prop := ∀ u s', XE3 X W u s' → X.xe u s'
def CX3 (P : Program) (w : World) (outer : List Env) (H : Hp) (s : Shared) (E : XK) (u : Value) (s' : Shared) : Prop :=
  ∃ (c : Option (Addr × Obj)) (a : Addr) (B : Heap) (H' : Hp) (cls : Value) (d : Option Addr), u = .ref a ∧ HandSPX.FlyingZ B outer a (Zk c cls d) s'.heap ∧ HOk P w H' B ∧ UB (frs outer) H H' s.heap B s'.heap ∧
    H' a = none ∧ Ck c B H' ∧ s'.os = s.os ∧ AllBare s'.gens ∧ E cls d H'
theorem sky_imp {B : Heap} {l : List Env} {a L : Addr} {Z Z' : Obj → Prop} {h : Heap} (i : ∀ o, Z o → Z' o) (k : Sky B l a Z L h) : Sky B l a Z' L h := by
  rcases k with ⟨k1, k2, k3, oe, vs, k4, k5, k6⟩ | k | ⟨k1, k2, k3, k4⟩
  · exact .inl ⟨k1, k2, k3, oe, vs, k4, i _ k5, k6⟩
  · exact .inr (.inl (L2H.flyingZ_imp i k))
  · exact .inr (.inr ⟨k1, k2, k3, L2H.tracedZ_imp i k4⟩)
section
variable {X : Cx} {pins : List (Addr × Obj)} {σ : L2.St} {H : Hp} {sI s s' : Shared} {B : Heap} {W : WX} {E : XK}
theorem XE3.ofN {u : Value} (x : L2N.XE X W u s') : XE3 X W u s' := by
  obtain ⟨a, B, t, pi, τ, G, cls, d, x1, x2, x3, x4, x5, x6, x7⟩ := x
  exact ⟨none, a, B, t, pi, τ, G, cls, d, x1, x2, x3, x4, sky_imp (fun _ => zk_of) x5, x6, ck_none, x7⟩
theorem Takes3.n (t : Takes3 X W) : L2N.Takes X W := fun u s' x => t u s' (XE3.ofN x)
theorem XE3.to2 {u : Value} (x : XE3 X W u s') : L2.XE X W u s' := by
  obtain ⟨c, a, B, t, pi, τ, G, cls, d, x1, x2, x3, x4, x5, x6, _, x7⟩ := x
  exact ⟨a, B, t, pi, τ, G, cls, d, x1, x2, x3, x4, sky_imp (fun _ => Zk.zc) x5, x6, x7⟩
/-- out of a call -/
theorem XE3.of_call (I : Inv X pins σ H s) (hW : ∀ cls d H', E cls d H' → W cls d σ H') {u : Value} (k : CX3 X.prog X.w X.stack H s E u s') : XE3 X W u s' := by
  obtain ⟨c, a, B, G', cls, d, rfl, fly, okB, ub, na, ck, os, ag, hE⟩ := k
  obtain ⟨G, g1, g2⟩ := restrict s'.heap fun b => (B.get? b).isSome || decide (b ∈ frs X.stack)
  have stay : B.StaysIn s'.heap := fly.1
  have inB : ∀ b o, B.get? b = some o → G.get? b = some o := fun b o q => (g1 b (by simp [q])).trans (stay b o q)
  have inF : ∀ b, b ∈ frs X.stack → G.get? b = s'.heap.get? b := fun b q => g1 b (by simp [q])
  have back : ∀ b o, G.get? b = some o → s'.heap.get? b = some o ∧ ((B.get? b).isSome = true ∨ b ∈ frs X.stack) := by
    intro b o q
    cases z : ((B.get? b).isSome || decide (b ∈ frs X.stack)) with
    | false =>
      rw [g2 b z] at q
      cases q
    | true => exact ⟨(g1 b z).symm.trans q, by simpa [Bool.or_eq_true] using z⟩
  refine ⟨c, a, B, { s with heap := G, gens := s'.gens, drawn := s'.drawn, toks := s'.toks }, pins, σ, G', cls, d, rfl, ?_, fun b o q nb => ?_, Heap.UpToSlots.of_keeps fun b o q => (back b o q).1, .inr (.inl fly), na, ck, os, ag, hW _ _ _ hE⟩
  · refine I.call (ch := []) ⟨fun b o q n nb _ => inB b o (ub.keep b o q n nb), fun b o q n nb _ => ?_, fun b o q n _ => ub.free b o q n, fun b o q _ => ?_, ub.tups, ub.frzs, ub.tbls⟩ (okB.kept inB) ag (fun _ z => nomatch z)
    · obtain ⟨sl, z⟩ := ub.slot b o q nb
      exact ⟨sl, (inF b nb).trans z⟩
    · by_cases nb : b ∈ frs X.stack
      · obtain ⟨sl, z⟩ := ub.slot b o q nb
        exact ⟨_, (inF b nb).trans z⟩
      · obtain ⟨o', z⟩ := ub.there b o q nb
        exact ⟨o', inB b o' z⟩
  · obtain ⟨q1, q2⟩ := back b o q
    rcases q2 with q2 | q2
    · obtain ⟨o', z⟩ := Option.isSome_iff_exists.mp q2
      have z2 := (stay b o' z).symm.trans q1
      cases z2
      exact z
    · exact absurd q2 nb
/-- a new one -/
theorem XE3.new {c : Option (Addr × Obj)} {a : Addr} {oe : Obj} {vs : Array Value} {cls : Value} {d : Option Addr} (I : Inv X pins σ H sI) (k : ∀ b o, sI.heap.get? b = some o → s'.heap.get? b = some o) (gone : sI.heap.get? a = none)
    (here : s'.heap.get? a = some oe) (hz : Zk c cls d oe) (hd : oe.data = .fields vs) (h1 : vs[1]? = some .none) (na : H a = none) (hc : ∀ p, c = some p → sI.heap.get? p.1 = some p.2 ∧ p.1 ∉ frs X.stack ∧ H p.1 = none ∧ ∃ ws : Array Value, p.2.data = .fields ws ∧ ws[2]? = some .none)
    (os : s'.os = sI.os) (ag : AllBare s'.gens) (w : W cls d σ H) : XE3 X W (.ref a) s' := by
  refine ⟨c, a, PySem.W.hideAll sI.heap (frs X.stack), sI, pins, σ, H, cls, d, rfl, I, fun b o q nb => PySem.W.hideAll_get _ q nb, Heap.UpToSlots.of_keeps k, .inl ⟨fun b o q => k b o (PySem.W.of_hideAll _ q), ?_, ?_, oe, vs, here, hz, hd, h1⟩, na, fun p q => ?_, os, ag, w⟩
  · cases q : (PySem.W.hideAll sI.heap (frs X.stack)).get? a with
    | none => rfl
    | some o => exact absurd (gone.symm.trans (PySem.W.of_hideAll _ q)) (by intro z; cases z)
  · exact Heap.FunFrames.of_keeps (fun b o q _ => ⟨o, k b o q, rfl⟩) (funFrames_none I.stack fun b nb => PySem.W.hideAll_none _ nb)
  · obtain ⟨q1, q2, q3, q4⟩ := hc p q
    exact ⟨PySem.W.hideAll_get _ q1 q2, q3, q4⟩
/-- it goes out of the def -/
theorem XE3.leave (hs : X.stack = X.env :: X.outer) (hf : X.env.frame = some X.env.locals) (hex : X.ex = []) {E₁ : Value → Shared → Prop} (hW : ∀ cls d σ H, W cls d σ H → E cls d H) {u : Value} (x : XE3 X W u s') :
    wpAny (model X.prog X.w) X.A (leaving X.env u) (fun _ s2 => CX3 X.prog X.w X.outer X.H_0 X.s_0 E u s2) E₁ s' := by
  obtain ⟨c, a, B, t, pi, τ, G, cls, d, rfl, I, nb, up, sky, na, ck, os, ag, w⟩ := x
  have fr : X.A.frames = some (X.env :: X.outer) := by rw [I.ok.frames, hs]
  have noex : ∀ b, b ∉ X.ex := fun b q => by
    rw [hex] at q
    cases q
  have apart : ∀ b o, X.s_0.heap.get? b = some o → b ∉ X.fs → b ∉ frs X.stack := by
    intro b o q nf m
    rcases List.mem_cons.mp (I.stkSub b m) with z | z
    · have z1 := Heap.lt_size q
      rw [z] at z1
      exact absurd (Nat.lt_of_lt_of_le z1 I.ok.above) (Nat.lt_irrefl _)
    · exact nf z
  have ground := I.inGround nb
  have fin : ∀ h', HandSPX.FlyingZ B X.outer a (Zk c cls d) h' → s'.heap.UpToSlots h' → CX3 X.prog X.w X.outer X.H_0 X.s_0 E (.ref a) { s' with heap := h' } := by
    intro h' fly up'
    refine ⟨c, a, B, G, cls, d, rfl, fly, ground, ⟨fun b o q n nf => nb b o (I.base.keep b o q n nf (noex b)) (apart b o q nf), fun b o q nf => ?_, fun b o q n => I.base.free b o q n (noex b), fun b o q nf => ?_, I.base.tups, I.base.frzs, I.base.tbls⟩, na, ck, os.trans I.os, ag, hW _ _ _ _ w⟩
    · obtain ⟨_, o0, z0, z1⟩ := I.ok.funs.mem nf
      have z2 := q.symm.trans z0
      cases z2
      obtain ⟨sl, y1⟩ := I.base.slot b o q (I.ok.frf b nf) nf (noex b)
      obtain ⟨sl2, y2⟩ := up b _ y1 z1
      obtain ⟨sl3, y3⟩ := up' b _ y2 z1
      exact ⟨sl3, y3⟩
    · obtain ⟨o', y1⟩ := I.base.there b o q (noex b)
      exact ⟨o', nb b o' y1 (apart b o q nf)⟩
  rw [hs] at sky
  rcases sky with ⟨k1, k2, k3, oe, vs, k4, k5, k6, k7⟩ | fly | held
  · exact PXN.leaving_firstZ zk_steady fr k3 hf k4 k1 k2 k6 k7 k5 fin
  · exact PXN.leaves_onZ zk_steady fr hf fly fin
  · exact HandSPX.leaves_heldZ hf held fin
theorem takes3_of (hs : X.stack = X.env :: X.outer) (hf : X.env.frame = some X.env.locals) (hex : X.ex = []) {E₁ : Value → Shared → Prop}
    (hx : X.xe = fun e s' => wpAny (model X.prog X.w) X.A (leaving X.env e) (fun _ s2 => CX3 X.prog X.w X.outer X.H_0 X.s_0 E e s2) E₁ s') : Takes3 X (fun cls d _ H => E cls d H) := by
  intro u s' x
  rw [hx]
  exact XE3.leave (E := E) hs hf hex (fun _ _ _ _ q => q) x
theorem passes3 (tk : Takes3 X W) (hW : ∀ cls d σ H, E cls d H → W cls d σ H) : Passes (CX3 X.prog X.w) X E :=
  fun _ σ _ _ e s' I k => tk e s' (XE3.of_call I (fun cls d H' q => hW cls d σ H' q) k)
theorem passesN (tk : L2N.Takes X W) (hW : ∀ cls d σ H, E cls d H → W cls d σ H) : Passes (L2N.CX X.prog X.w) X E := L2N.passes_call tk hW
theorem pass3At (tk : Takes3 X W) (σ : L2.St) : PassesAt (CX3 X.prog X.w) X σ (WE W σ) := fun _ _ _ e s' I k => tk e s' (XE3.of_call I (fun _ _ _ q => q) k)
end
end Wb

/-! E4: try .. except (one name, or four in a tuple): a suite that raises. -/
namespace Wb
open PySem PySem.Spec PyProof.Rows L2
/-! ### what a clause's expression catches -/
def Caught (X : Cx) (t : Expr) (f : Value → Option Bool) : Prop :=
  ∀ (a : Addr) (oe : Obj) (cls : Value) (d : Option Addr) (pn : List (Addr × Obj)) (σ : L2.St) (H : Hp) (s : Shared), Inv (X.suite a ((a, oe) :: pn)) [] σ H s → Zc cls d oe → ∀ b, f cls = some b →
    ∀ (Q : Bool → Shared → Prop) (E : Value → Shared → Prop), (∀ h', (∀ x o, s.heap.get? x = some o → h'.get? x = some o) → Q b { s with heap := h' }) →
      wpAny (model X.prog X.w) (X.A.mark (some (.ref a))) (eval t X.env) (fun c s1 => wpAny (model X.prog X.w) (X.A.mark (some (.ref a))) (excMatches (.ref a) c) Q E s1) E s
theorem nm_ld {X : Cx} {x : Str} {c : Value} (n : Names X x c) {p : Pos} {a : Addr} {pn : List (Addr × Obj)} {σ : L2.St} {H : Hp} {s : Shared} (I : Inv (X.suite a pn) [] σ H s) {Q : Value → Shared → Prop} {E : Value → Shared → Prop} (q : Q c s) :
    wpAny (model X.prog X.w) (X.A.mark (some (.ref a))) (eval (.Name x p) X.env) Q E s := by
  obtain ⟨n1, n2, n3 | ⟨n3, n4, n5⟩⟩ := n
  · exact ld_glob (X := X.suite a pn) I n1 n3 q n2
  · exact ld_blt (X := X.suite a pn) I n1 n3 n4 q n5 n2
theorem caught_name {X : Cx} {x : Str} {c : Value} {p : Pos} (n : Names X x c) : Caught X (.Name x p) (fun cls => PySem.W.exmOne X.K cls c) := by
  intro a oe cls d pn σ H s I hz b hb Q E q
  obtain ⟨hg, _⟩ := I.pin (a, oe) (List.mem_append_left _ List.mem_cons_self)
  have LT : PySem.W.Looks (model X.prog X.w) s.heap (typeOf (.ref a)) cls := fun A Q E s k q => wpAny_typeOf_ref (k _ _ hg) (by rw [hz.1]; exact q)
  exact nm_ld n I ((PySem.W.exm_one (M := model X.prog X.w) I.kIn LT hb).here (q s.heap fun _ _ z => z))
theorem caught_four {X : Cx} {x1 x2 x3 x4 : Str} {c1 c2 c3 c4 : Value} {p1 p2 p3 p4 p : Pos} {k : Nat} (n1 : Names X x1 c1) (n2 : Names X x2 c2) (n3 : Names X x3 c3) (n4 : Names X x4 c4) :
    Caught X (.Tuple [.Name x1 p1, .Name x2 p2, .Name x3 p3, .Name x4 p4] k p) (fun cls => PySem.W.exmAny X.K cls [c1, c2, c3, c4]) := by
  intro a oe cls d pn σ H s I hz b hb Q E q
  obtain ⟨hg, _⟩ := I.pin (a, oe) (List.mem_append_left _ List.mem_cons_self)
  have LT : PySem.W.Looks (model X.prog X.w) s.heap (typeOf (.ref a)) cls := fun A Q E s k q => wpAny_typeOf_ref (k _ _ hg) (by rw [hz.1]; exact q)
  have kp : ∀ x o, s.heap.get? x = some o → (s.heap.push { cls := .type "tuple", data := .seq [c1, c2, c3, c4].toArray }).get? x = some o := fun x o z => Heap.get?_push_of_some _ z
  refine wpAny_Tuple_spliced (spliced_more (nm_ld n1 I (spliced_more (nm_ld n2 I (spliced_more (nm_ld n3 I (spliced_more (nm_ld n4 I (spliced_none ⟨?_, ?_⟩)) rfl)) rfl)) rfl)) rfl)
  · show 4 ≤ sizeLine
    decide
  · exact (PySem.W.exm_tup4 (M := model X.prog X.w) (PySem.W.Frag.In.keeps I.kIn kp) (LT.keeps kp) (Heap.get?_push_size s.heap rfl) hb).here (q _ kp)
theorem tracedZ_grow {h h' B : Heap} {a : Addr} {Z : Obj → Prop} {fl : Value} (k : ∀ b o, h.get? b = some o → h'.get? b = some o) (x : HandSPX.TracedZ h B a Z fl) : HandSPX.TracedZ h' B a Z fl := by
  obtain ⟨oe, vs, T, oT, ts, q1, q2, q3, q4, q5, q6, q7, q8⟩ := x
  exact ⟨oe, vs, T, oT, ts, k _ _ q1, q2, q3, q4, q5, q6, k _ _ q7, q8⟩
theorem flyingZ_grow {h h' B : Heap} {a : Addr} {l : List Env} {Z : Obj → Prop} (k : ∀ b o, h.get? b = some o → h'.get? b = some o) (x : HandSPX.FlyingZ B l a Z h) : HandSPX.FlyingZ B l a Z h' := by
  obtain ⟨x1, x2, x3, x4⟩ := x
  exact ⟨fun b o q => k b o (x1 b o q), x2, Heap.FunFrames.of_keeps (fun b o q _ => ⟨o, k b o q, rfl⟩) x3, tracedZ_grow k x4⟩
/-- what is wanted of an exception that a clause looks at -/
def wOn (f : Value → Option Bool) (ts : Addr → Value → Option Addr → TS) (Wout : WX) (D : Ends) : WX := fun cls d σ H =>
  ∃ b, f cls = some b ∧ (b = true → ∀ a, H a = none → ts a cls d D σ H) ∧ (b = false → Wout cls d σ H)
section
variable {X : Cx} {t : Expr} {f : Value → Option Bool} {body suite : List Stmt} {b₀ : Stmt} {pos pos' : Pos} {tb : WX → TS} {ts : Addr → Value → Option Addr → TS} {Wout : WX}
theorem ps_try3 (hs : X.stack = X.env :: X.outer) (hf : X.env.frame = some X.env.locals) (ct : Caught X t f) (hpa : ∀ hd : Option Value, PassesOwnAt (model X.prog X.w) (X.A.mark hd) X.A X.env X.xe) (tk : Takes3 X Wout)
    (hb : ∀ (W : WX) (pn : List (Addr × Obj)) (xe : Value → Shared → Prop), L2N.Takes (X.tr pn xe) W → PassesOwn (model X.prog X.w) X.A X.env xe → PSs (X.tr pn xe) body (tb W))
    (hsu : ∀ (a : Addr) (oe : Obj) (cls : Value) (d : Option Addr) (pn : List (Addr × Obj)), L2N.Zn cls d oe → (∃ vs, oe.data = .fields vs) → Takes3 (L2H.suiteX X a ((a, oe) :: pn)) Wout → L2H.HotC (L2H.suiteX X a ((a, oe) :: pn)) →
      PSs (L2H.suiteX X a ((a, oe) :: pn)) (b₀ :: suite) (ts a cls d)) :
    PS X (.Try body [.ExceptHandler (some t) none (b₀ :: suite) pos'] [] [] pos) (fun D σ H => tb (wOn f ts Wout D) D σ H) := by
  refine ⟨fun pins s σ H D I h => ?_⟩
  have ok := I.ok
  have fr : X.A.frames = some (X.env :: X.outer) := by rw [ok.frames, hs]
  refine wpAny_Try_except ?_
  refine wpAny_mono ((hb (wOn f ts Wout D) (X.pn ++ pins) (fun e s₁ => wpAny (model X.prog X.w) X.A (noteFrame e X.env) (fun _ s₂ => wpAny (model X.prog X.w) X.A (setFlight e none) (fun _ s₃ =>
    wpAny (model X.prog X.w) X.A (handleBy e X.env [.ExceptHandler (some t) none (b₀ :: suite) pos']) (SP X pins D) X.xe s₃) X.xe s₂) X.xe s₁) (fun u s' xx => ?_) PassesOwn.looking).run [] s σ H D (I.toTry _) h) (fun g s1 hsp => ?_) (fun e s1 he => he)
  · obtain ⟨a, B, sI, pins', τ, G, cls, d, rfl, J', nb, up, sky, na, os, ag, b, hb1, hyes, hno⟩ := xx
    have J : Inv X pins τ G sI := J'.ofTry ok
    have sky2 : Sky B (X.env :: X.outer) a (L2N.Zn cls d) X.env.locals s'.heap := by
      rw [← hs]
      exact sky
    show wpAny (model X.prog X.w) X.A (noteFrame (.ref a) X.env) _ _ _
    refine L2N.Sky.land L2N.Zn.steady fr hf sky2 fun h3 fly3 up3 => ?_
    have J3 : Inv X pins τ G { s' with heap := h3 } := J.landed nb fly3.1 (up.trans up3) os ag
    obtain ⟨o3, v3, at3, z3, d3⟩ := fly3.there
    have notF : a ∉ frs (X.env :: X.outer) := fun m => by
      obtain ⟨_, o', e', nf⟩ := fly3.2.2.1.mem m
      have z := at3.symm.trans e'
      cases z
      exact nf _ d3
    have notL : a ≠ X.env.locals := fun z => notF (List.mem_filterMap.mpr ⟨X.env, List.mem_cons_self, by rw [hf, z]⟩)
    have notO : a ∉ X.fs := fun m => by
      obtain ⟨e, he, q⟩ := List.mem_filterMap.mp m
      exact notF (List.mem_filterMap.mpr ⟨e, List.mem_cons_of_mem _ he, q⟩)
    have S3 := J3.suite at3 d3 na notL notO
    refine wpAny_handleBy_cons (codeAny_handlers_test ?_) (by intro q; cases q)
    refine ct a o3 cls d _ τ G _ S3 z3.zc b hb1 _ _ fun h5 k5 => ?_
    have fly5 := flyingZ_grow k5 fly3
    have J5 : Inv X pins τ G { s' with heap := h5 } := J3.kept (t' := s'.toks) k5
    have up5 : sI.heap.UpToSlots h5 := (up.trans up3).trans (Heap.UpToSlots.of_keeps k5)
    cases b with
    | true =>
      refine codeAny_handlers_suite ?_
      refine HandSPX.lands_againZ fly5 fun h4 fly4 up4 => ?_
      have J4 : Inv X pins τ G { s' with heap := h4 } := J.landed nb fly4.1 (up5.trans up4) os ag
      obtain ⟨o4, v4, at4, z4, d4⟩ := fly4.there
      have S4 := J4.suite at4 d4 na notL notO
      have tkS : Takes3 (L2H.suiteX X a ((a, o4) :: (X.pn ++ pins))) Wout := fun u2 s2 x2 => by
        obtain ⟨c2, a2, B2, t2, pn2, σ2, H2, cls2, d2, e2, I2, r2⟩ := x2
        exact tk u2 s2 ⟨c2, a2, B2, t2, pins, σ2, H2, cls2, d2, e2, L2H.unsuiteX I2 ok, r2⟩
      have hot : L2H.HotC (L2H.suiteX X a ((a, o4) :: (X.pn ++ pins))) := ⟨(a, o4), ⟨rfl, v4, d4, z4.2.2 v4 d4⟩, List.mem_cons_self⟩
      refine wpAny_mono ((hsu a o4 cls d (X.pn ++ pins) z4 ⟨_, d4⟩ tkS hot).run [] _ _ G _ (L2H.suiteX_of S4) (hyes rfl a na)) (fun g s6 q6 => ?_) (fun e6 s6 z => hpa (some (.ref a)) e6 s6 z)
      cases g with
      | next =>
        obtain ⟨σ6, H6, S6, r6⟩ := q6
        exact ⟨_, _, L2H.unsuiteX S6 ok, r6⟩
      | brk =>
        obtain ⟨σ6, H6, S6, r6⟩ := q6
        exact ⟨_, _, L2H.unsuiteX S6 ok, r6⟩
      | cont =>
        obtain ⟨σ6, H6, S6, r6⟩ := q6
        exact ⟨_, _, L2H.unsuiteX S6 ok, r6⟩
      | ret u =>
        obtain ⟨v6, σ6, H6, S6, r6, q6⟩ := q6
        exact ⟨_, _, _, L2H.unsuiteX S6 ok, r6, q6⟩
    | false =>
      show wpAny _ X.A (handleBy (.ref a) X.env []) _ _ _
      refine wpAny_handleBy_nil ?_
      obtain ⟨k1, k2, k3, oe, vs, T, oT, ts', he, hz, hd, h1, hr⟩ := id fly5
      unfold PySem.passOn
      refine wpAny_bind (wpAny_field he hd h1 ?_)
      rw [if_neg (show ¬ ((Value.ref T == Value.none) = true) from by simp)]
      have fin : wpAny (model X.prog X.w) X.A (setFlight (.ref a) X.env.frame) (fun _ s4 => wpAny (model X.prog X.w) X.A (throw (.ref a) : Sem Flow) (SP X pins D) X.xe s4) X.xe { s' with heap := h5 } := by
        rw [hf]
        refine HandSPX.setFlight_upZ fly5 fun h4 held4 up4 => wpAny_throw (tk _ _ (XE3.ofN ?_))
        exact ⟨a, B, sI, pins, τ, G, cls, d, rfl, J, nb, up5.trans up4, .inr (.inr (by rw [hs]; exact held4)), na, os, ag, hno rfl⟩
      first
        | exact wpAny_bind (wpAny_pure (wpAny_bind fin))
        | exact wpAny_bind fin
  · cases g with
    | next =>
      obtain ⟨τ, G, J', q⟩ := hsp
      exact wpAny_execs_nil ⟨τ, G, J'.ofTry ok, q⟩
    | brk =>
      obtain ⟨τ, G, J', q⟩ := hsp
      exact ⟨τ, G, J'.ofTry ok, q⟩
    | cont =>
      obtain ⟨τ, G, J', q⟩ := hsp
      exact ⟨τ, G, J'.ofTry ok, q⟩
    | ret u =>
      obtain ⟨v, τ, G, J', r, q⟩ := hsp
      exact ⟨v, τ, G, J'.ofTry ok, r, q⟩
/-- raise X(..) from None, in such a suite: the handled one is its context -/
theorem ps_raise3 {W : WX} {e : Expr} {te : L2.St → Hp → XK → Prop} {j : Nat} {cpos pos : Pos} (hc : L2H.HotC X) (tk : Takes3 X W) (he : L2H.PMk5 X e te) :
    PS X (.Raise (some e) (some (.Constant .none j cpos)) pos) (fun _ σ H => te σ H fun cls d H' => W cls d σ H') := by
  refine ⟨fun pins s σ H D I h => ?_⟩
  obtain ⟨p, ⟨hh, v1, e1, c1⟩, hp⟩ := hc
  show wpAny _ _ (do standAt pos; raiseStmt X.env (some (do let v ← eval e X.env; standAt pos; pure v)) (some (do let v ← eval (.Constant .none j cpos) X.env; standAt pos; pure v))) _ _ _
  refine wpAny_bind (wpAny_standAt (HotX.raise_made_hotN (x1 := p.1) (fun s2 Q2 q2 => wpAny_bind (Constant_none (wpAny_bind (wpAny_standAt (wpAny_pure q2))))) (wpAny_bind (wpAny_mono (he pins s σ H _ I h) (fun u s1 hu => wpAny_bind (wpAny_standAt (wpAny_pure ?_))) fun _ _ x => x))))
  obtain ⟨⟨a, oe, vs, sI, G, cls, d, rfl, J, k, gone, at1, hz, hd, h1, na, os, ag, r, q⟩, six⟩ := hu
  have hi : 4 < vs.size := six a oe vs rfl at1 hd
  have k4 : ∀ b u, sI.heap.get? b = some u → (HotX.noneFrom s1.heap a).get? b = some u := fun b u z => by
    have nab : a ≠ b := fun y => absurd (gone.symm.trans (y ▸ z)) (by intro w; cases w)
    rw [HotX.noneFrom_other nab]
    exact k b u z
  obtain ⟨r1, _⟩ := r (model X.prog X.w) s1.heap (J.kIn.keeps k)
  obtain ⟨_, r2⟩ := r (model X.prog X.w) (HotX.noneFrom s1.heap a) (J.kIn.keeps k4)
  obtain ⟨P1, P2, P3, P4, _⟩ := J.pin p (List.mem_append_left _ hp)
  have nap : p.1 ≠ a := fun z => absurd (gone.symm.trans (z ▸ P1)) (by intro w; cases w)
  obtain ⟨at4, d4⟩ := HotX.noneFrom_at at1 hd
  have sz2 : 2 < ((vs.setIfInBounds 3 Value.none).setIfInBounds 4 (Value.bool true)).size := by rw [HotX.set_size, HotX.set_size]; omega
  have f1 : (((vs.setIfInBounds 3 Value.none).setIfInBounds 4 (Value.bool true)).setIfInBounds 2 (Value.ref p.1))[1]? = some Value.none := HotX.set_other (by decide) (HotX.set_other (by decide) (HotX.set_other (by decide) h1))
  have f2 : (((vs.setIfInBounds 3 Value.none).setIfInBounds 4 (Value.bool true)).setIfInBounds 2 (Value.ref p.1))[2]? = some (Value.ref p.1) := by
    rw [Array.getElem?_setIfInBounds]
    simp [sz2]
    simpa [HotX.set_size] using sz2
  have d6 := Obj.data_mapFields d4 (·.setIfInBounds 2 (Value.ref p.1))
  refine ⟨a, oe, vs, cls, rfl, at1, hz.1, hd, h1, hi, nap, ⟨hh, p.2, v1, k _ _ P1, e1, c1⟩, r1, r2, tk _ _ (XE3.new (c := some p) J (fun b u z => ?_) gone (Heap.get?_update_self _ at4 (Obj.isFreed_of_fields d6))
    ⟨by rw [Obj.cls_mapFields, Obj.cls_mapFields, Obj.cls_mapFields]; exact hz.1, by rw [HandSPX.dict_mapFields, HandSPX.dict_mapFields, HandSPX.dict_mapFields]; exact hz.2.1, fun ws hw => ?_⟩ d6 f1 na (fun p' ep => ?_) os ag q)⟩
  · have nab : a ≠ b := fun y => absurd (gone.symm.trans (y ▸ z)) (by intro w; cases w)
    show ((HotX.noneFrom s1.heap a).update a (Obj.mapFields (·.setIfInBounds 2 (.ref p.1)))).get? b = some u
    rw [Heap.get?_update_other _ _ nab]
    exact k4 b u z
  · have ew := d6.symm.trans hw
    have ew2 := Data.fields.inj ew
    rw [← ew2]
    exact f2
  · have ep2 : p = p' := Option.some.inj ep
    rw [← ep2]
    exact ⟨P1, fun hm => (List.mem_cons.mp (J.stkSub p.1 hm)).elim P3 P4, P2, v1, e1, c1⟩
end
end Wb

/-! E5: iterators that end while an exception is handled whose context has none. -/
namespace Wb
open PySem PySem.Spec PyProof.Rows L2
/-- what is handled: a record whose context is None, or a record whose context is None -/
def HotK (A : Around) (h : Heap) : Prop := ∃ (x : Addr) (o : Obj) (vs : Array Value), A.handled = some (.ref x) ∧ h.get? x = some o ∧ o.data = .fields vs ∧
  (vs[2]? = some .none ∨ ∃ (y : Addr) (o2 : Obj) (ws : Array Value), vs[2]? = some (.ref y) ∧ h.get? y = some o2 ∧ o2.data = .fields ws ∧ ws[2]? = some .none)
theorem HotK.grow {A : Around} {h h' : Heap} (k : ∀ b o, h.get? b = some o → h'.get? b = some o) (x : HotK A h) : HotK A h' := by
  obtain ⟨a, o, vs, q1, q2, q3, q4⟩ := x
  refine ⟨a, o, vs, q1, k _ _ q2, q3, ?_⟩
  rcases q4 with q4 | ⟨y, o2, ws, q5, q6, q7⟩
  · exact .inl q4
  · exact .inr ⟨y, o2, ws, q5, k _ _ q6, q7⟩
section
variable {prog : Program} {w : World} {A : Around} {E : Value → Shared → Prop} {s : Shared}
theorem unchain_ends {x1 a sl : Addr} {tg : Bool} {o1 : Obj} {vs1 : Array Value} {R : Result → Shared → Prop} (h1 : s.heap.get? x1 = some o1) (d1 : o1.data = .fields vs1) (c1 : vs1[2]? = some .none) (q : R (.ok (.ret .none)) s) :
    codeAny (model prog w) A (.builtin "proto.unchain" ⟨[.ref a, .ref x1, .ref sl, .bool tg], []⟩) R s := by
  refine codeAny_builtin HotX.entry_unchain ?_
  show wpAny _ _ (field (.ref x1) 2 >>= _) _ _ s
  refine wpAny_bind (wpAny_field h1 d1 c1 ?_)
  rw [if_pos (show (Value.none == Value.none) = true from rfl)]
  first
  | exact wpAny_bind (wpAny_pure (wpAny_pure q))
  | exact wpAny_pure q
theorem unchainK {x a : Addr} {o : Obj} {vs : Array Value} {Q : Value → Shared → Prop} (hx : s.heap.get? x = some o) (dx : o.data = .fields vs)
    (c : vs[2]? = some .none ∨ ∃ (y : Addr) (o2 : Obj) (ws : Array Value), vs[2]? = some (.ref y) ∧ s.heap.get? y = some o2 ∧ o2.data = .fields ws ∧ ws[2]? = some .none) (ha : ∀ y, vs[2]? = some (.ref y) → y ≠ a) (q : Q .none s) :
    wpAny (model prog w) A (holding [Value.ref a] (runValue (.builtin "proto.unchain" ⟨[.ref a, .ref x, .ref x, .bool false], []⟩))) Q E s := by
  rcases c with c | ⟨y, o2, ws, c, hy, dy, cy⟩
  · exact HotX.unchained hx dx c q
  · refine wpAny_holding (wpAny_runValue (codeAny_builtin HotX.entry_unchain ?_))
    show wpAny _ _ (field (.ref x) 2 >>= _) _ _ s
    refine wpAny_bind (wpAny_field hx dx c ?_)
    have n1 : (Value.ref y == Value.none) = false := rfl
    have n2 : (Value.ref y == Value.ref a) = false := by simpa using ha y c
    have n3 : (Value.ref y == Value.ref x) = false := by
      have nyx : y ≠ x := fun z => by
        rw [z] at hy
        have e := hx.symm.trans hy
        cases e
        have e2 := dx.symm.trans dy
        cases e2
        have e3 := c.symm.trans cy
        cases e3
      simpa using nyx
    rw [if_neg (by rw [n1]; exact Bool.false_ne_true)]
    rw [if_neg (by rw [n2]; exact Bool.false_ne_true), if_neg (by rw [n3]; exact Bool.false_ne_true)]
    dsimp only
    rw [if_neg Bool.false_ne_true]
    refine wpAny_bind (wpAny_pure ?_)
    show wpAny _ _ (pure (Fin.again _)) _ _ _
    exact wpAny_pure ⟨Code.quiet_builtin _ (by decide +kernel), unchain_ends hy dy cy q⟩
theorem raiseNewK {α : Type} {a : Addr} {oe : Obj} {us : Array Value} {Q : α → Shared → Prop} (hot : HotK A s.heap) (fresh : ∀ (x : Addr) (o : Obj) (vs : Array Value), A.handled = some (.ref x) → s.heap.get? x = some o → o.data = .fields vs → x ≠ a ∧ ∀ y, vs[2]? = some (.ref y) → y ≠ a)
    (ha : s.heap.get? a = some oe) (da : oe.data = .fields us) (hi : 2 < us.size) (hE : ∀ v, E (.ref a) { s with heap := s.heap.update a (Obj.mapFields (·.setIfInBounds 2 v)) }) : wpAny (model prog w) A (raiseNew (.ref a) : Sem α) Q E s := by
  obtain ⟨x, o, vs, hh, hx, dx, c⟩ := hot
  obtain ⟨f1, f2⟩ := fresh x o vs hh hx dx
  unfold raiseNew
  refine wpAny_bind (wpAny_handled ?_)
  rw [hh]
  have hb : (Value.ref x != Value.ref a) = true := HotX.ref_bne f1
  first
  | (show wpAny _ _ (if (Value.ref x != Value.ref a) = true then _ else _) _ _ _
     rw [if_pos hb]
     first
     | exact wpAny_bind (unchainK hx dx c f2 (wpAny_bind (HotX.chained ha da hi (wpAny_throw (hE _)))))
     | exact wpAny_bind (wpAny_bind (unchainK hx dx c f2 (HotX.chained ha da hi (wpAny_throw (hE _))))))
  | (refine wpAny_bind ?_
     show wpAny _ _ (if (Value.ref x != Value.ref a) = true then _ else _) _ _ _
     rw [if_pos hb]
     exact wpAny_bind (unchainK hx dx c f2 (HotX.chained ha da hi (wpAny_throw (hE _)))))
end
end Wb

/-! E6: lists and tuples walked to their ends there. -/
namespace Wb
open PySem PySem.Spec PyProof.Rows L2
/-- a record of two fields is not what is handled -/
theorem HotK.upd2 {A : Around} {h : Heap} {it : Addr} {o : Obj} {us : Array Value} {f : Obj → Obj} (hi : h.get? it = some o) (di : o.data = .fields us) (sz : us.size = 2) (x : HotK A h) : HotK A (h.update it f) := by
  obtain ⟨a, oa, vs, q1, q2, q3, q4⟩ := x
  have far : ∀ (b : Addr) (ob : Obj) (ws : Array Value) (v : Value), h.get? b = some ob → ob.data = .fields ws → ws[2]? = some v → it ≠ b := by
    intro b ob ws v z1 z2 z3 e
    rw [← e] at z1
    have e1 := hi.symm.trans z1
    cases e1
    have e2 := di.symm.trans z2
    cases e2
    have e3 := (Array.getElem?_eq_some_iff.mp z3).1
    omega
  have one : ∃ v, vs[2]? = some v := by
    rcases q4 with q4 | ⟨y, _, _, q4, _⟩
    · exact ⟨_, q4⟩
    · exact ⟨_, q4⟩
  obtain ⟨v, hv⟩ := one
  refine ⟨a, oa, vs, q1, (Heap.get?_update_other _ _ (far a oa vs v q2 q3 hv)).trans q2, q3, ?_⟩
  rcases q4 with q4 | ⟨y, o2, ws, q4, q5, q6, q7⟩
  · exact .inl q4
  · exact .inr ⟨y, o2, ws, q4, (Heap.get?_update_other _ _ (far y o2 ws _ q5 q6 q7)).trans q5, q6, q7⟩
section
variable {prog : Program} {w : World} {A : Around} {E : Value → Shared → Prop} {s : Shared}
/-- what is handled stands below -/
theorem HotK.below {h h' : Heap} {a : Addr} (hot : HotK A h) (k : ∀ b o, h.get? b = some o → h'.get? b = some o) (sz : h.objs.size ≤ a) :
    ∀ (x : Addr) (o : Obj) (vs : Array Value), A.handled = some (.ref x) → h'.get? x = some o → o.data = .fields vs → x ≠ a ∧ ∀ y, vs[2]? = some (.ref y) → y ≠ a := by
  intro x o vs hh hx dx
  obtain ⟨x', o', vs', q1, q2, q3, q4⟩ := hot
  have e1 := q1.symm.trans hh
  cases e1
  have e2 := (k _ _ q2).symm.trans hx
  cases e2
  have e3 := q3.symm.trans dx
  cases e3
  refine ⟨Nat.ne_of_lt (Nat.lt_of_lt_of_le (Heap.lt_size q2) sz), fun y hy => ?_⟩
  rcases q4 with q4 | ⟨y', o2, ws, q4, q5, _⟩
  · have e := q4.symm.trans hy
    cases e
  · have e := q4.symm.trans hy
    cases e
    exact Nat.ne_of_lt (Nat.lt_of_lt_of_le (Heap.lt_size q5) sz)
/-- the end of a list -/
theorem list_endK {it l : Addr} {i : Nat} {items : Array Value} {Q : Option Value → Shared → Prop} (hot : HotK A s.heap) (hit : s.heap.IsListIter it l i) (hl : s.heap.IsList l items) (hx : items[i]? = none)
    (hQ : ∀ h', Heap.ExtBut it s.heap h' → Q none { s with heap := h' }) : wpAny (model prog w) A (pyNext (.ref it)) Q E s := by
  obtain ⟨o, ho, hc, hd⟩ := id hit
  obtain ⟨ol, hol, _, nl, hdl⟩ := hl
  unfold pyNext
  refine wpAny_bind (wpAny_attempt (wpAny_callSpecial?_slot (name := Str.ofString "__next__") hit.typeIs slot_listiter_next (wpAny_call_entry slot_listiter_next hit.typeIs entry_listiter_next ?_ (args_listiter_next _))))
  show wpAny _ _ (field (.ref it) 0 >>= _) _ _ s
  refine wpAny_bind (wpAny_field ho hd (x := .ref l) rfl ?_)
  show wpAny _ _ (if (Value.ref l == Value.none) = true then _ else _) _ _ s
  rw [if_neg (show ¬ ((Value.ref l == Value.none) = true) from Bool.false_ne_true)]
  show wpAny _ _ (field (.ref it) 1 >>= _) _ _ s
  refine wpAny_bind (wpAny_field ho hd (x := .int i 0) rfl ?_)
  show wpAny _ _ (seqItems? (.ref l) >>= _) _ _ s
  refine wpAny_bind (wpAny_seqItems hol hdl ?_)
  simp only [Int.toNat_natCast, hx]
  refine wpAny_bind (wpAny_rule (wpAny_bind (wpAny_setField ho hd (by simp) ?_)))
  show wpAny _ _ (newExc (.type "StopIteration") [] >>= _) _ _ _
  refine wpAny_bind ?_
  simp only [newExc, newTuple]
  refine wpAny_bind (wpAny_newObj_type ?_ (by size_fits))
  refine wpAny_bind (m := firstArgMember _ _) (wpAny_of_eq (a := Value.none) (by first | rfl | (simp only [firstArgMember]; rfl)) ?_)
  refine wpAny_newObj_type ?_ (by size_fits)
  have hot1 : HotK A.in1 _ := HotK.upd2 (f := Obj.mapFields (·.setIfInBounds 0 Value.none)) ho hd rfl (show HotK A.in1 s.heap from hot)
  refine raiseNewK (hot1.grow fun b o e => Heap.get?_push_of_some _ (Heap.get?_push_of_some _ e)) ?_ (Heap.get?_push_size _ rfl) rfl (by first | (simp; done) | (simp; omega) | (simp only [Array.size_append]; simp; omega)) fun v => ?_
  · exact HotK.below hot1 (fun b o e => Heap.get?_push_of_some _ (Heap.get?_push_of_some _ e)) (by rw [Heap.size_push]; exact Nat.le_succ _)
  · refine wpAny_bind (wpAny_isInstance (T := "StopIteration") (b := true) ⟨_, Heap.get?_update_self _ (Heap.get?_push_size _ rfl) rfl, rfl⟩ isSubtype_stop ?_)
    refine wpAny_pure (hQ _ fun b ob hb e => ?_)
    have e0 := (Heap.SameBut.update s.heap it (Obj.mapFields (·.setIfInBounds 0 Value.none))).extBut b ob hb e
    rw [Heap.get?_update_other _ _ (Nat.ne_of_gt (Heap.lt_size (Heap.get?_push_of_some _ e0)))]
    exact Heap.get?_push_of_some _ (Heap.get?_push_of_some _ e0)
/-- the end of a tuple -/
theorem tuple_endK {it t : Addr} {i : Nat} {items : Array Value} {Q : Option Value → Shared → Prop} (hot : HotK A s.heap) (hit : IsTupIter s.heap it t i) (ht : IsTup s.heap t items) (hx : items[i]? = none)
    (hQ : ∀ h', Heap.ExtBut it s.heap h' → Q none { s with heap := h' }) : wpAny (model prog w) A (pyNext (.ref it)) Q E s := by
  obtain ⟨o, ho, hc, hd⟩ := id hit
  obtain ⟨ol, hol, _, nl, hdl⟩ := ht
  unfold pyNext
  refine wpAny_bind (wpAny_attempt (wpAny_callSpecial?_slot (name := Str.ofString "__next__") hit.typeIs slot_tupleiter_next (wpAny_call_entry slot_tupleiter_next hit.typeIs entry_tupleiter_next ?_ (args_tupleiter_next _))))
  show wpAny _ _ (field (.ref it) 0 >>= _) _ _ s
  refine wpAny_bind (wpAny_field ho hd (x := .ref t) rfl ?_)
  show wpAny _ _ (if (Value.ref t == Value.none) = true then _ else _) _ _ s
  rw [if_neg (show ¬ ((Value.ref t == Value.none) = true) from Bool.false_ne_true)]
  show wpAny _ _ (field (.ref it) 1 >>= _) _ _ s
  refine wpAny_bind (wpAny_field ho hd (x := .int i 0) rfl ?_)
  show wpAny _ _ (seqItems? (.ref t) >>= _) _ _ s
  refine wpAny_bind (wpAny_seqItems hol hdl ?_)
  simp only [Int.toNat_natCast, hx]
  refine wpAny_bind (wpAny_rule (wpAny_bind (wpAny_setField ho hd (by simp) ?_)))
  show wpAny _ _ (newExc (.type "StopIteration") [] >>= _) _ _ _
  refine wpAny_bind ?_
  simp only [newExc, newTuple]
  refine wpAny_bind (wpAny_newObj_type ?_ (by size_fits))
  refine wpAny_bind (m := firstArgMember _ _) (wpAny_of_eq (a := Value.none) (by first | rfl | (simp only [firstArgMember]; rfl)) ?_)
  refine wpAny_newObj_type ?_ (by size_fits)
  have hot1 : HotK A.in1 _ := HotK.upd2 (f := Obj.mapFields (·.setIfInBounds 0 Value.none)) ho hd rfl (show HotK A.in1 s.heap from hot)
  refine raiseNewK (hot1.grow fun b o e => Heap.get?_push_of_some _ (Heap.get?_push_of_some _ e)) ?_ (Heap.get?_push_size _ rfl) rfl (by first | (simp; done) | (simp; omega) | (simp only [Array.size_append]; simp; omega)) fun v => ?_
  · exact HotK.below hot1 (fun b o e => Heap.get?_push_of_some _ (Heap.get?_push_of_some _ e)) (by rw [Heap.size_push]; exact Nat.le_succ _)
  · refine wpAny_bind (wpAny_isInstance (T := "StopIteration") (b := true) ⟨_, Heap.get?_update_self _ (Heap.get?_push_size _ rfl) rfl, rfl⟩ isSubtype_stop ?_)
    refine wpAny_pure (hQ _ fun b ob hb e => ?_)
    have e0 := (Heap.SameBut.update s.heap it (Obj.mapFields (·.setIfInBounds 0 Value.none))).extBut b ob hb e
    rw [Heap.get?_update_other _ _ (Nat.ne_of_gt (Heap.lt_size (Heap.get?_push_of_some _ e0)))]
    exact Heap.get?_push_of_some _ (Heap.get?_push_of_some _ e0)
/-- HotK through an iterator's turns -/
theorem HotK.same {h h' : Heap} {it : Addr} {o : Obj} {us : Array Value} (hi : h.get? it = some o) (di : o.data = .fields us) (sz : us.size = 2) (k : ∀ b ob, b ≠ it → h.get? b = some ob → h'.get? b = some ob) (x : HotK A h) : HotK A h' := by
  obtain ⟨a, oa, vs, q1, q2, q3, q4⟩ := x
  have far : ∀ (b : Addr) (ob : Obj) (ws : Array Value) (v : Value), h.get? b = some ob → ob.data = .fields ws → ws[2]? = some v → b ≠ it := by
    intro b ob ws v z1 z2 z3 e
    rw [e] at z1
    have e1 := hi.symm.trans z1
    cases e1
    have e2 := di.symm.trans z2
    cases e2
    have e3 := (Array.getElem?_eq_some_iff.mp z3).1
    omega
  have one : ∃ v, vs[2]? = some v := by
    rcases q4 with q4 | ⟨y, _, _, q4, _⟩
    · exact ⟨_, q4⟩
    · exact ⟨_, q4⟩
  obtain ⟨v, hv⟩ := one
  refine ⟨a, oa, vs, q1, k _ _ (far a oa vs v q2 q3 hv) q2, q3, ?_⟩
  rcases q4 with q4 | ⟨y, o2, ws, q4, q5, q6, q7⟩
  · exact .inl q4
  · exact .inr ⟨y, o2, ws, q4, k _ _ (far y o2 ws _ q5 q6 q7) q5, q6, q7⟩
/-- a tuple to several names -/
theorem assign_tupK {env : Env} {elts : List Expr} {x1 : Nat} {pos : Pos} {t : Addr} {items : Array Value} {Q : Unit → Shared → Prop} (hot : HotK A s.heap) (ht : IsTup s.heap t items)
    (hn : (assignEach elts env).length = items.size) (hstar : (assignEach elts env).findIdx? (·.1) = none)
    (h : ∀ h', Heap.ExtBut s.heap.objs.size s.heap h' → wpAny (model prog w) A (assignInOrder ((assignEach elts env).map (·.2)) items.toList) Q E { s with heap := h' }) :
    wpAny (model prog w) A (assign (.Tuple elts x1 pos) env (.ref t)) Q E s := by
  rw [assign_Tuple]
  refine wpAny_bind (wpAny_standAt ?_)
  unfold unpack
  rw [hn, hstar]
  refine wpAny_bind (wpAny_holding ?_)
  have hlt : t ≠ s.heap.objs.size := by
    obtain ⟨o, ho, _⟩ := ht
    exact Nat.ne_of_lt (Heap.lt_size ho)
  unfold unpackItems
  refine wpAny_bind ?_
  unfold notIterableAtAll
  refine wpAny_bind (wpAny_specialOf ht.typeIs slot_tuple_iter.lookup ?_)
  refine wpAny_pure ?_
  simp only [Bool.false_eq_true, if_false]
  refine wpAny_bind (wpAny_holding (iter_tuple ht ?_))
  have hit0 : IsTupIter (s.heap.push { cls := .type "tuple_iterator", data := .fields #[.ref t, .int 0 0] }) s.heap.objs.size t 0 := ⟨_, Heap.get?_push_size _ rfl, rfl, rfl⟩
  refine wpAny_bind (wpAny_holding (draw_tuple hlt items.size 0 _ _ hit0 (ht.push _) (by omega) fun h1 hit1 hs1 => ?_))
  have all : List.take items.size (List.drop 0 items.toList) = items.toList := by
    rw [List.drop_zero]
    exact List.take_of_length_le (by simp)
  rw [all]
  rw [if_neg (by simp)]
  have ht1 : IsTup h1 t items := (ht.push _).extBut hs1.extBut hlt
  have hot1 : HotK A h1 := HotK.same (it := s.heap.objs.size) (Heap.get?_push_size _ rfl) rfl rfl (fun b ob hb e => hs1.extBut b ob hb e) (hot.grow fun b o e => Heap.get?_push_of_some _ e)
  refine wpAny_bind (wpAny_holding (tuple_endK hot1 hit1 ht1 (by simp) fun h2 he2 => ?_))
  simp only [Option.isSome_none, Bool.false_eq_true, if_false]
  exact wpAny_pure (h h2 fun b o hb e => he2 b o hb (hs1.extBut b o hb (Heap.get?_push_of_some _ e)))
end
end Wb

/-! E7: a list comprehension over a list there, its target a tuple of names. -/
namespace Wb
open PySem PySem.Spec PyProof.Rows L2
/-- the pins bear what is handled, its context too -/
def HotP (X : Cx) : Prop := ∃ (p : Addr × Obj) (vs : Array Value), X.A.handled = some (.ref p.1) ∧ p ∈ X.pn ∧ p.2.data = .fields vs ∧
  (vs[2]? = some .none ∨ ∃ (q : Addr × Obj) (ws : Array Value), q ∈ X.pn ∧ vs[2]? = some (.ref q.1) ∧ q.2.data = .fields ws ∧ ws[2]? = some .none)
def HotI (X : Cx) : Prop := ∀ (pins : List (Addr × Obj)) (σ : L2.St) (H : Hp) (s : Shared), Inv X pins σ H s → HotK X.A s.heap
theorem HotP.i {X : Cx} (x : HotP X) : HotI X := by
  intro pins σ H s I
  obtain ⟨p, vs, q1, q2, q3, q4⟩ := x
  refine ⟨p.1, p.2, vs, q1, (I.pin p (List.mem_append_left _ q2)).1, q3, ?_⟩
  rcases q4 with q4 | ⟨q, ws, m, q5, q6, q7⟩
  · exact .inl q4
  · exact .inr ⟨q.1, q.2, ws, q5, (I.pin q (List.mem_append_left _ m)).1, q6, q7⟩
/-- .. in the block of a comprehension -/
theorem HotP.blk {X : Cx} {pins : List (Addr × Obj)} {σ : L2.St} {H : Hp} {s : Shared} {scope : Scope} {ce : Env} {fp : List Addr} (x : HotP X) (I : Inv X pins σ H s) (f : ∀ b ∈ fp, FpOk X pins H b) : HotI (X.blk s H scope ce fp) := by
  intro pins' τ G t J
  obtain ⟨p, vs, q1, q2, q3, q4⟩ := x
  have st : ∀ r ∈ X.pn, t.heap.get? r.1 = some r.2 := by
    intro r hr
    obtain ⟨z1, z2, z3, z4, _⟩ := I.pin r (List.mem_append_left _ hr)
    exact J.base.keep r.1 r.2 z1 z2 (fun m => (List.mem_cons.mp (I.stkSub r.1 m)).elim z3 z4) fun m => (f r.1 m).2.2.2.2.2 r (List.mem_append_left _ hr) rfl
  refine ⟨p.1, p.2, vs, q1, st p q2, q3, ?_⟩
  rcases q4 with q4 | ⟨q, ws, m, q5, q6, q7⟩
  · exact .inl q4
  · exact .inr ⟨q.1, q.2, ws, q5, st q m, q6, q7⟩
section
variable {X : Cx} {pins : List (Addr × Obj)} {σ : L2.St} {H : Hp} {s : Shared}
theorem pg_tupK {es : List Expr} {k : Nat} {t : TGs} {n : Nat} {pos : Pos} (hot : HotI X) (h : PGs X es t) (hn : (assignEach es X.env).length = n := by rfl) (hst : (assignEach es X.env).findIdx? (·.1) = none := by rfl) : PG X (.Tuple es k pos) (gTup X.K n t) := by
  refine ⟨fun pins s σ H v u Q I r hw => ?_⟩
  obtain ⟨a, xs, e1, hq, hl, hw⟩ := hw
  subst e1
  cases r
  obtain ⟨its, rv, ht, hz⟩ := I.tuple hq
  refine assign_tupK (hot _ _ _ _ I) ht (by simp [hn, ← hl, rv.length]) hst fun h' hx => ?_
  have I1 : Inv X pins σ H { s with heap := h' } := I.kept (t' := s.toks) fun b o e => hx b o (Nat.ne_of_lt (Heap.lt_size e)) e
  exact h.run pins _ σ H xs _ Q I1 (by simpa using rv) hw
/-- one turn of a list's iterator -/
theorem listI_item {a it : Addr} {i : Nat} {x : V} {xs : List V} {tg : Expr} {E : Value → Shared → Prop} (I : Inv X pins σ H s) (f : FpOk X pins H it) (st : s.heap.IsListIter it a i) (hq : SqL X.K H a xs) (hx : xs[i]? = some x) :
    wpAny (model X.prog X.w) X.A (pyNext (.ref it)) (fun r s1 => ∃ u, r = some u ∧ wpAny (model X.prog X.w) X.A (letOwnedTupleGo tg (.ref it) u) (fun _ s2 => Inv X pins σ H s2 ∧ RelV x u ∧ s2.heap.IsListIter it a (i + 1)) E s1) E s := by
  obtain ⟨its, rv, p, hz⟩ := I.list hq
  obtain ⟨u, hu, ru⟩ := rv.get hx
  obtain ⟨f0, f1, f2, f3, f4, f5⟩ := f
  refine wpAny_pyNext_list_item st p.isList (x := u) (by simpa using hu) fun h' st' sb => ?_
  have I1 : Inv X pins σ H { s with heap := h' } := I.turned (t' := s.toks) (fun b o hb e => (sb.2 b hb).trans e) f0 f1 f3 f4 f5
  obtain ⟨o, e, c, d⟩ := id st'
  exact ⟨u, rfl, go_of (s := { s with heap := h' }) e c d (by decide) ⟨I1, ru, st'⟩⟩
theorem listI_done {a it : Addr} {i : Nat} {xs : List V} {E : Value → Shared → Prop} (hot : HotI X) (I : Inv X pins σ H s) (f : FpOk X pins H it) (st : s.heap.IsListIter it a i) (hq : SqL X.K H a xs) (hx : xs.length ≤ i) :
    wpAny (model X.prog X.w) X.A (pyNext (.ref it)) (fun r s1 => r = none ∧ Inv X pins σ H s1) E s := by
  obtain ⟨its, rv, p, hz⟩ := I.list hq
  obtain ⟨f0, f1, f2, f3, f4, f5⟩ := f
  have hl := rv.length
  exact list_endK (hot _ _ _ _ I) st p.isList (by simp; omega) fun h' eb => ⟨rfl, I.turned (t' := s.toks) (fun b o hb e => eb b o hb e) f0 f1 f3 f4 f5⟩
/-- [elt for target in list if test] -/
theorem pe_lcK {elt tg iter : Expr} {ifs : List Expr} {scope : Scope} {own : List (Str × Nat)} {pos : Pos} {tl : TE} {g : TG} {tt : TT} {te : TE} (hot : HotP X) (hN : X.N.Nodup) (hl : PE X iter tl) (ok : BlkOk X.N X.env.scope scope own)
    (hg : ∀ (s : Shared) (H : Hp) (C : Addr) (cl : List (Str × Addr)) (fp : List Addr), HotI (X.blk s H scope (compEnvC scope cl C X.env) fp) → PG (X.blk s H scope (compEnvC scope cl C X.env) fp) tg g)
    (ht : ∀ (s : Shared) (H : Hp) (C : Addr) (cl : List (Str × Addr)) (fp : List Addr), PTs (X.blk s H scope (compEnvC scope cl C X.env) fp) ifs tt)
    (he : ∀ (s : Shared) (H : Hp) (C : Addr) (cl : List (Str × Addr)) (fp : List Addr), PE (X.blk s H scope (compEnvC scope cl C X.env) fp) elt te) (hs : ∀ x, foldedSetIterable iter X.env x = pure x := by intro _; rfl) :
    PE X (.ListComp elt [⟨tg, iter, ifs, 0⟩] scope pos) (tLc (iList X.K tl) g tt te (own.map (·.2))) := by
  refine ⟨fun pins s σ H Q I h => ?_⟩
  rw [eval_ListComp]
  have hfree : ∀ y ∈ scope.names, y.2 = .free → ∃ c, X.env.cells.lookup y.1 = some c := fun y hy e => (ok.free y hy e).elim (fun k => I.ok.has _ (.inl k)) fun k => I.ok.has _ (.inr k)
  refine wpAny_comprehension_free (use := none) rfl hs (closure_ok hfree) ok.kind (fun y hy e => by rw [ok.uniq y hy, e]) (thn (hl.run pins s σ H _ I h) fun xv s1 hx => ?_)
  obtain ⟨v0, H2, I1, r1, a, e0, ⟨xs0, hq0⟩, q⟩ := hx
  subst e0
  cases r1
  obtain ⟨its, rv, pl, _⟩ := I1.list hq0
  refine wpAny_pyIter_list pl.isList ?_
  generalize hit : s1.heap.objs.size = it
  generalize hs2 : ({ s1 with heap := s1.heap.push { cls := .type "list_iterator", data := .fields #[.ref a, .int 0 0] } } : Shared) = s2
  have I2 : Inv X pins σ H2 s2 := by
    rw [← hs2]
    exact I1.kept (t' := s1.toks) fun b o e => Heap.get?_push_of_some _ e
  have st2 : s2.heap.IsListIter it a 0 := by
    rw [← hs2, ← hit]
    exact ⟨_, Heap.get?_push_size _ rfl, rfl, rfl⟩
  have f2 : ∀ b ∈ [it], FpOk X pins H2 b := fun b hb => by
    have e : b = it := by simpa using hb
    rw [e, ← hit]
    exact I1.fpOk (Nat.le_refl _) (I1.hok.fresh (Nat.le_refl _))
  refine wpAny_newObj_type (newEnv_comp ?_) (by show 0 ≤ sizeLine; decide)
  generalize hD : s2.heap.objs.size = D
  have hDn : H2 D = none := I2.hok.fresh (Nat.le_of_eq hD)
  obtain ⟨W, ⟨m0, w0⟩, turn⟩ := q D hDn
  generalize hs3 : ({ s2 with heap := s2.heap.push { cls := .type "list", data := .seq ([] : List Value).toArray } } : Shared) = s3
  have I3 : Inv X pins σ (upd H2 D (.lst [])) s3 := by
    rw [← hs3]
    refine I2.laid (t' := s2.toks) (fun b o e => Heap.get?_push_of_some _ e) (Nat.le_of_eq hD) ⟨Nat.zero_le _, [], 0, .nil, ?_⟩
    rw [← hD]
    exact Heap.get?_push_size _ rfl
  have h3 : s3.heap = s2.heap.push { cls := .type "list", data := .seq ([] : List Value).toArray } := by rw [← hs3]
  have lt2 : it < s2.heap.objs.size := by
    obtain ⟨o, e, _⟩ := st2
    exact Heap.lt_size e
  have f3 : ∀ b ∈ [it], FpOk X pins (upd H2 D (.lst [])) b ∧ b < s3.heap.objs.size := fun b hb => by
    have e : b = it := by simpa using hb
    refine ⟨⟨?_, (f2 b hb).2⟩, by rw [e, h3, Heap.size_push]; exact Nat.lt_succ_of_lt lt2⟩
    rw [upd_ne (by rw [← hD, e]; exact Nat.ne_of_lt lt2)]
    exact (f2 b hb).1
  have st3 : s3.heap.IsListIter it a 0 := st2.at fun o e => by
    rw [h3]
    exact Heap.get?_push_of_some _ e
  have I4 := block_start I3 ok hN f3
  have hotB : HotI (X.blk s3 (upd H2 D (.lst [])) scope (compEnvC scope (cellsFrom (s3.heap.objs.size + 1) scope.names (cloFrom X.env.cells scope.names [])) s3.heap.objs.size X.env) [it]) := hot.blk I3 fun b hb => (f3 b hb).1
  have pg := hg s3 (upd H2 D (.lst [])) s3.heap.objs.size (cellsFrom (s3.heap.objs.size + 1) scope.names (cloFrom X.env.cells scope.names [])) [it] hotB
  have pt := ht s3 (upd H2 D (.lst [])) s3.heap.objs.size (cellsFrom (s3.heap.objs.size + 1) scope.names (cloFrom X.env.cells scope.names [])) [it]
  have pe := he s3 (upd H2 D (.lst [])) s3.heap.objs.size (cellsFrom (s3.heap.objs.size + 1) scope.names (cloFrom X.env.cells scope.names [])) [it]
  show codeAny _ _ (.compStart (.ListComp elt [⟨tg, iter, ifs, 0⟩] scope pos) 0 (.ref it) (.ref D) (compEnvC scope (cellsFrom (s3.heap.objs.size + 1) scope.names (cloFrom X.env.cells scope.names [])) s3.heap.objs.size X.env)) (compPost (model X.prog X.w) X.A X.xe none _ (.ref D) s3.heap.objs.size) { s3 with heap := pushCells (s3.heap.push { cls := .type "dict", data := .dict #[] }) scope.names }
  have nfp : (upd H2 D (.lst [])) it = none := (f3 it List.mem_cons_self).1.1
  generalize hce : compEnvC scope (cellsFrom (s3.heap.objs.size + 1) scope.names (cloFrom X.env.cells scope.names [])) s3.heap.objs.size X.env = ce at I4 pg pt pe hotB ⊢
  have cL : ce.locals = s3.heap.objs.size := by
    subst hce
    rfl
  generalize hH3 : upd H2 D (.lst []) = H3 at I3 I4 pg pt pe w0 nfp f3 hotB
  generalize hs4 : ({ s3 with heap := pushCells (s3.heap.push { cls := .type "dict", data := .dict #[] }) scope.names } : Shared) = s4 at I4 ⊢
  have st4 : s4.heap.IsListIter it a 0 := st3.at fun o e => by
    rw [← hs4]
    exact pushCells_keeps _ _ _ _ (Heap.get?_push_of_some _ e)
  have stat : ∀ {σ' : L2.St} {H' : Hp} {s' : Shared}, Inv (X.blk s3 H3 scope ce [it]) [] σ' H' s' → H' it = none → FpOk (X.blk s3 H3 scope ce [it]) [] H' it := fun {σ' H' s'} I' hn =>
    ⟨hn, (I'.ok.exf it List.mem_cons_self).1, I'.ok.exfs it List.mem_cons_self, .inl List.mem_cons_self, fun x c e => (I'.ok.exf it List.mem_cons_self).2 x c e, fun p hp => absurd (show p ∈ ([] : List (Addr × Obj)) ++ [] from hp) (by simp)⟩
  have loop : codeAny (model X.prog X.w) X.A (.compLoop (.ListComp elt [⟨tg, iter, ifs, 0⟩] scope pos) 0 (.ref it) (.ref D) ce) (compPost (model X.prog X.w) X.A X.xe none (EP X pins σ Q) (.ref D) s3.heap.objs.size) s4 := by
    refine compLoop_any (fun n s' => ∃ i H', Inv (X.blk s3 H3 scope ce [it]) [] (wipe σ (own.map (·.2))) H' s' ∧ s'.heap.IsListIter it a i ∧ H' it = none ∧ W i n H') ?_ m0 ⟨0, H3, I4, st4, nfp, w0⟩
    rintro n s5 ⟨i, H5, I5, st5, n5, w5⟩
    rcases turn i n H5 w5 with ⟨⟨xs, hq, hx⟩, qq⟩ | ⟨⟨xs, x, hq, hx⟩, Nx, hNx, step⟩
    · refine thnF (listI_done (X := X.blk s3 H3 scope ce [it]) hotB I5 (stat I5 n5) st5 hq hx) fun r s6 ⟨hr, I6⟩ => ?_
      subst hr
      have I7 : Inv X pins σ H5 s6 := I3.call' (ch := [it]) I6.os I6.base I6.hok I6.bare fun b hb => ⟨(f3 b hb).1.2.2.2.1, (f3 b hb).1.2.1, (f3 b hb).1.2.2.2.2.1, (f3 b hb).1.2.2.2.2.2⟩
      have nC : H5 s3.heap.objs.size = none := by
        have z : H5 ce.locals = none := I6.free
        rw [cL] at z
        exact z
      obtain ⟨m, hn, _⟩ := I6.loc
      have hn : s6.heap.Ns ce.locals m := hn
      rw [cL] at hn
      obtain ⟨g0, g1, g2, g3, g4, g5⟩ := I3.fpOk (Nat.le_refl _) nC
      exact ⟨m, hn, fun h'' sb => ⟨.ref D, H5, I7.turned (t' := s6.toks) (fun b o hb e => (sb.2 b hb).trans e) g0 g1 g3 g4 g5, rfl, qq⟩⟩
    · refine thnF (listI_item (X := X.blk s3 H3 scope ce [it]) (tg := tg) I5 (stat I5 n5) st5 hq hx) fun r s6 ⟨u, hr, h6⟩ => ?_
      subst hr
      refine thnF h6 fun _ s7 ⟨I7, r7, st7⟩ => ?_
      have obj7 : ∀ b ∈ [it], ∃ o, s7.heap.get? b = some o ∧ ∀ v, o.data ≠ .cell v := fun b hb => by
        have e : b = it := by simpa using hb
        obtain ⟨o, e1, _, d⟩ := st7
        rw [e]
        exact ⟨o, e1, fun v z => by rw [d] at z; cases z⟩
      have I7' := I7.pinned (fp := [it]) (fun b hb => by rw [show b = it by simpa using hb]; exact stat I7 n5) obj7
      have st' := step x H5 ⟨rfl, fun ys hy => by rw [I5.list_inj hy hq]; exact hx⟩
      refine thnF (pg.run _ s7 _ H5 x u _ I7' r7 st') fun _ s8 ⟨σ8, H8, I8, hw8, q8⟩ => ?_
      refine thnF (pt.run _ s8 σ8 H8 _ I8 q8) fun b s9 ⟨H9, I9, q9⟩ => ?_
      have fin : ∀ {s' : Shared} {H' : Hp}, Inv (X.blk s3 H3 scope ce [it]) ([] ++ pinsAt [it] s7.heap) σ8 H' s' → Nx H' → ∃ m, m < n ∧ ∃ i H', Inv (X.blk s3 H3 scope ce [it]) [] (wipe σ (own.map (·.2))) H' s' ∧ s'.heap.IsListIter it a i ∧ H' it = none ∧ W i m H' := fun {s' H'} I' nx => by
        obtain ⟨m', hm, w'⟩ := hNx H' nx
        obtain ⟨o, e1, e2⟩ := id st7
        obtain ⟨z1, z2, _⟩ := I'.pin (it, o) (List.mem_append_right _ (List.mem_append_right _ (mem_pinsAt List.mem_cons_self e1)))
        have hlen : (wipe σ (own.map (·.2))).length = σ8.length := by rw [← hw8, wipe_length]
        refine ⟨m', hm, i + 1, H', (I'.unpinned (pins := [])).weak hlen (fun j v e => ?_), ⟨o, z1, e2⟩, z2, w'⟩
        rw [← hw8] at e
        exact (wipe_some e).1
      cases b with
      | false =>
        simp only [Bool.false_eq_true, if_false] at q9 ⊢
        exact fin I9 q9
      | true =>
        simp only [if_true] at q9 ⊢
        refine thnF (pe.run _ s9 σ8 H9 _ I9 q9) fun z s10 ⟨yv, H10, I10, r10, acc, hD10, hz10, nx⟩ => ?_
        exact app_ok (X := X.blk s3 H3 scope ce [it]) I10 hD10 hz10 r10 fun s11 I11 => fin I11 nx
  exact codeAny_compStart_list loop (wpAny_pyIter_listiter st4 loop)
end
end Wb

/-! E8: a def that is handed the exception that its caller's suite handles. -/
namespace Wb
open PySem PySem.Spec PyProof.Rows L2
/-- the caller's side: the handled one p, of class D and without a dict, its context c -/
structure Held3 (A : Around) (D : Addr) (p : Addr × Obj) (c : Option (Addr × Obj)) : Prop where
  hh : A.handled = some (.ref p.1)
  zk : Zk c (.ref D) none p.2
  fs : ∃ vs, p.2.data = .fields vs
  cx : ∀ q, c = some q → ∃ ws : Array Value, q.2.data = .fields ws ∧ ws[2]? = some .none
structure FnK (P : Program) (w : World) (K : PySem.W.Frag) (mg : Str → Option Value) (base : Heap) (k : Nat) (f : Addr) (fd : FuncData) (ps : List Str) (D : Addr) (sp : Addr → Sp) : Prop where
  len : ∀ a vs H Q E, sp a vs H Q E → vs.length = ps.length
  run : ∀ (A : Around) (outer : List Env) (s : Shared) (H : Hp) (args : Args) (us : List Value) (vs : List V) (Q : VK) (E : XK) (p : Addr × Obj) (c : Option (Addr × Obj)), L2H.RoomH k A → Held3 A D p c → L2H.PinOk outer H s p → (∀ q, c = some q → L2H.PinOk outer H s q) →
    Env0 P w K mg base A outer s H → BindsTo s fd args (ps.zip us) → Vals vs us → sp p.1 vs H Q E → codeAny (model P w) A (.call (.ref f) args) (CR CX0 outer P w H s Q E) s
def cxK (P : Program) (w : World) (K : PySem.W.Frag) (mg : Str → Option Value) (base : Heap) (N : List Str) (qual : Str) (scope : Scope) (f : Addr) (cd : Value) (A : Around) (outer : List Env) (s : Shared) (H : Hp) (E : XK) (p : Addr × Obj) (c : Option (Addr × Obj)) : Cx :=
  { cxOf CX0 P w K mg base N qual scope f cd A outer s H E with calm := false, pn := p :: c.toList }
theorem inv_startK {P : Program} {w : World} {K : PySem.W.Frag} {mg : Str → Option Value} {base : Heap} {N ps : List Str} {qual : Str} {scope : Scope} {f : Addr} {cd : Value} {A : Around} {outer : List Env} {s s1 : Shared} {H : Hp} {E : XK} {us : List Value} {vs : List V}
    (S : FnScope N ps scope) {p : Addr × Obj} {c : Option (Addr × Obj)} (hp : L2H.PinOk outer H s p) (hc : ∀ q, c = some q → L2H.PinOk outer H s q) (e0 : Env0 P w K mg base A outer s H) (hl : vs.length = ps.length) (r : Vals vs us)
    (x : InCallC s s.heap.objs.size (bindL (envOfC qual scope s.heap.objs.size f cd).kindOf (ps.zip us) fun _ => none) (cellsFrom (s.heap.objs.size + 1) scope.names []) (bindC (envOfC qual scope s.heap.objs.size f cd).kindOf (ps.zip us) fun _ => none) s1) :
    Inv (cxK P w K mg base N qual scope f cd A outer s H E p c) [] (L2.start N vs) H s1 := by
  have I := L2H.inv_startH (CX := CX0) (P := P) (K := K) (mg := mg) (E := E) S hp e0 hl r x
  obtain ⟨h1, tk, e1, hk⟩ := x.done
  refine ⟨⟨I.ok.mod, I.ok.kind, I.ok.glob, I.ok.blt, I.ok.above, I.ok.inj, I.ok.has, I.ok.cab, I.ok.hd, I.ok.frames, I.ok.stk, I.ok.exf, I.ok.bs, I.ok.bsz, I.ok.noex, I.ok.exfs, I.ok.funs, I.ok.frf⟩, I.os, I.bare, I.base, I.loc, I.cell, I.free, I.freeC, fun q hq => ?_, I.hok, I.len⟩
  have hq2 : q ∈ p :: c.toList := by simpa using (show q ∈ (p :: c.toList) ++ ([] : List (Addr × Obj)) from hq)
  have okq : L2H.PinOk outer H s q := by
    rcases List.mem_cons.mp hq2 with z | z
    · rw [z]
      exact hp
    · cases c with
      | none => exact absurd z (by simp)
      | some y =>
        have z2 : q = y := by simpa using z
        exact hc q (by rw [z2])
  refine ⟨?_, okq.free, Nat.ne_of_lt (Heap.lt_size okq.get), okq.nofs, okq.nocell⟩
  rw [e1]
  exact hk q.1 q.2 okq.get
theorem fn_ofK {P : Program} {w : World} {K : PySem.W.Frag} {mg : Str → Option Value} {base : Heap} {k : Nat} {x qual : Str} {params : Arguments} {body : List Stmt} {scope : Scope} {f : Addr} {fd : FuncData} {N ps : List Str} {D : Addr} {sp : Addr → Sp}
    (F : FunD K x qual params body scope [] [] f fd) (S : FnScope N ps scope) (len : ∀ a vs H Q E, sp a vs H Q E → vs.length = ps.length)
    (hbody : ∀ (cdv : Value) (A : Around) (outer : List Env) (s : Shared) (H : Hp) (vs : List V) (Q : VK) (E : XK) (p : Addr × Obj) (c : Option (Addr × Obj)), Held3 A D p c → L2H.RoomH k (A.deeper (envOfC qual scope s.heap.objs.size f cdv)) → sp p.1 vs H Q E →
      ∃ t, PSs (cxK P w K mg base N qual scope f cdv A outer s H E p c) body t ∧ t { nx := fun _ H' => Q .non H', rt := Q } (L2.start N vs) H) :
    FnK P w K mg base (k + 1) f fd ps D sp := by
  obtain ⟨oc, od, dV, kV, doc, pm, an, cdv, ct, osl, rfl, lk, hcd, _, _⟩ := F.ex
  refine ⟨len, fun A outer s H args us vs Q E p c hr held hp hc e0 hb r hsp => ?_⟩
  have hl := len _ _ _ _ _ hsp
  have KX : K.In s.heap := e0.mod.kin.keeps fun b o e => (e0.bs b o e).1
  have lim : s.heap.NoLimit := e0.mod.nolimit.keeps fun b o e => (e0.bs b o e).1
  have kinds : ∀ y ∈ ps.zip us, scope.names.lookup y.1 = some .local ∨ (scope.names.lookup y.1 = some .cell ∧ ((cellsFrom (s.heap.objs.size + 1) scope.names []).lookup y.1).isSome = true) := fun ⟨n, v⟩ hy => by
    rcases S.par n (List.of_mem_zip hy).1 with q | q
    · exact .inl q
    · exact .inr ⟨q, PySem.W.cellsFrom_some _ _ _ (.inl q)⟩
  refine codeAny_call_function hr.depth (KX _ _ lk) rfl S.co S.gen rfl (PySem.W.codeRec_of KX hcd) (hb _ _ _ _ ?_)
  refine wpAny_newFunctionEnv_cells S.kind kinds fun env he s1 x => ?_
  subst he
  refine ⟨lim.keeps x.toInCall.keep, codeAny_func ?_⟩
  obtain ⟨t, ht, hq⟩ := hbody cdv A outer s H vs Q E p c held (hr.deeper _) hsp
  have I := inv_startK (P := P) (w := w) (K := K) (mg := mg) (base := base) (f := f) (cd := cdv) (A := A) (E := E) S hp hc e0 hl r x
  refine wpAny_mono (ht.run [] s1 (L2.start N vs) H _ I hq) (fun fl s' hs => ?_) fun e s' hs => hs
  have fin : ∀ {σ' : L2.St} {H' : Hp} {v : V} {u : Value}, Inv (cxK P w K mg base N qual scope f cdv A outer s H E p c) [] σ' H' s' → RelV v u → Q v H' → CE outer P w H s Q u s' :=
    fun {σ' H' v u} J rv q => ⟨v, H', J.os, J.bare, J.base, J.hok, rv, q⟩
  cases fl with
  | ret u =>
    obtain ⟨v, σ', H', J, rv, q⟩ := hs
    exact fin J rv q
  | next =>
    obtain ⟨σ', H', J, q⟩ := hs
    exact fin (v := V.non) (u := Value.none) J rfl q
  | brk =>
    obtain ⟨_, _, _, q⟩ := hs
    exact q.elim
  | cont =>
    obtain ⟨_, _, _, q⟩ := hs
    exact q.elim
theorem cxK_hot {P : Program} {w : World} {K : PySem.W.Frag} {mg : Str → Option Value} {base : Heap} {N : List Str} {qual : Str} {scope : Scope} {f : Addr} {cd : Value} {A : Around} {outer : List Env} {s : Shared} {H : Hp} {E : XK} {D : Addr} {p : Addr × Obj} {c : Option (Addr × Obj)} (h : Held3 A D p c) :
    HotP (cxK P w K mg base N qual scope f cd A outer s H E p c) := by
  obtain ⟨vs, hv⟩ := h.fs
  refine ⟨p, vs, h.hh, List.mem_cons_self, hv, ?_⟩
  have z := h.zk.2.2 vs hv
  cases c with
  | none => exact .inl z
  | some q =>
    obtain ⟨ws, w1, w2⟩ := h.cx q rfl
    exact .inr ⟨q, ws, List.mem_cons_of_mem _ List.mem_cons_self, z, w1, w2⟩
/-- isinstance(e, C), e an exception that the pins bear -/
theorem call_isK {X : Cx} {D : Addr} {p : Addr × Obj} (C : ExcC X.K D) (hz : Zc (.ref D) none p.2) (hf : ∃ vs, p.2.data = .fields vs) (hp : p ∈ X.pn) : CallR X (.builtin "isinstance") (rIsE X.K D p.1) := by
  intro pins s σ H xs us Q I r h
  obtain ⟨c, cv, b, rfl, hcv, e, q⟩ := h
  cases r with
  | cons rx rr =>
    cases rr with
    | cons rt rr =>
      cases rr
      cases rx
      have ec := hcv _ rt
      subst ec
      obtain ⟨hg, _⟩ := I.pin p (List.mem_append_left _ hp)
      obtain ⟨vs, hv⟩ := hf
      have J : PySem.W.InstAt s.heap p.1 p.2 D none := by
        obtain ⟨pa, ⟨oc, od, oda, osl⟩⟩ := p
        obtain ⟨h1, h2⟩ := hz
        dsimp only at h1 h2 hv
        subst h1 h2 hv
        exact ⟨hg, rfl, rfl, trivial⟩
      exact PySem.W.kia_one (PySem.W.handS_kitx_exc C.hg C.hk C.hs C.hd C.ha C.hn C.ht C.hm) I.kIn J e (fun z => nomatch z) fun tk => ⟨.bl b, H, I.kept (t' := tk) fun _ _ z => z, rfl, q⟩
/-- f(e) in the suite that holds e -/
def tCallK (a D : Addr) (cls : Value) (d : Option Addr) (sp : Addr → Sp) (t : TA) : TE := fun σ H Q => t σ H fun vs H1 => cls = .ref D ∧ d = none ∧ sp a vs H1 Q E0
theorem pe_callK3 {X : Cx} {k : Nat} {f : Addr} {fd : FuncData} {ps : List Str} {D : Addr} {sp : Addr → Sp} {x : Str} {q pos : Pos} {e : Expr} {es : List Expr} {t : TA} {a : Addr} {oe : Obj} {cls : Value} {d : Option Addr} {c : Option (Addr × Obj)} {pn : List (Addr × Obj)}
    (F : FnK X.prog X.w X.K X.mg X.base k f fd ps D sp) (hr : Room k X.A) (hz : Zk c cls d oe) (hf : ∃ vs, oe.data = .fields vs) (hc : ∀ y, c = some y → y ∈ pn ∧ ∃ ws : Array Value, y.2.data = .fields ws ∧ ws[2]? = some .none)
    (hg : Gl X x) (hm : X.mg x = some (.ref f)) (hk : PySem.W.keepIn X.K (.ref f) = true) (hb : Binds X.K fd ps []) (ha : PA (X.suite a ((a, oe) :: pn)) (e :: es) t) (hdb : (x == ("__debug__" : Str)) = false := by decide)
    (he : starEach (e :: es) X.env = (false, eval e X.env) :: starEach es X.env := by rfl) (hpl : (backTo pos (starEach es X.env)).any (·.1) = false := by rfl) :
    PE (X.suite a ((a, oe) :: pn)) (.Call (.Name x q) (e :: es) [] pos) (tCallK a D cls d sp t) := by
  refine ⟨fun pins s σ H Q I h => ?_⟩
  refine wpAny_Call_Name_kw (ld_glob (X := X.suite a ((a, oe) :: pn)) I hg hm ?_ hdb)
  refine PySem.W.callWith_K (h₀ := X.base) I.ok.mod.kin hk (thn (ha.run pos pins s σ H _ I h) fun us s1 ⟨vs, H1, I1, r, ec, ed, hsp⟩ => ⟨I1.kIn, ?_⟩) he hpl
  subst ec ed
  have hl : us.length = ps.length := by
    rw [← r.length]
    exact F.len _ _ _ _ _ hsp
  have b := hb s1 us I1.kIn (by rw [List.append_nil]; exact hl)
  rw [List.append_nil] at b
  have pin : ∀ y ∈ (a, oe) :: pn, L2H.PinOk X.stack H1 s1 y := fun y hy => by
    obtain ⟨y1, y2, y3, y4, y5⟩ := I1.pin y (List.mem_append_left _ hy)
    exact ⟨y1, y2, fun m => (List.mem_cons.mp (I1.stkSub y.1 m)).elim y3 y4, y5⟩
  refine wpAny_call (codeAny_mono (F.run (X.A.mark (some (.ref a))) X.stack s1 H1 ⟨us, []⟩ us vs Q E0 (a, oe) c ⟨hr.dp, hr.un⟩ ⟨rfl, hz, hf, fun y ey => (hc y ey).2⟩ (pin _ List.mem_cons_self) (fun y ey => pin y (List.mem_cons_of_mem _ (hc y ey).1)) I1.env0 b r hsp) fun res s' hq => ?_)
  cases res with
  | error e => exact hq.elim
  | ok fl =>
    cases fl with
    | ret u => exact I1.after hq
    | next => exact False.elim hq
    | brk => exact False.elim hq
    | cont => exact False.elim hq
section
variable {X : Cx} {x n : Str} {c0 : Value} {i : Nat} {body suite : List Stmt} {b₀ : Stmt} {np pos pos' : Pos} {tb : WX → TS} {ts : Addr → Value → Option Addr → TS} {Wout : WX}
/-- try .. except x as n, where the exceptions may bear a context -/
theorem ps_try_as3 (hs : X.stack = X.env :: X.outer) (hf : X.env.frame = some X.env.locals) (hN : X.N.Nodup) (hi : X.N[i]? = some n) (hln : X.env.kindOf n = some .local) (hc : Names X x c0) (tk : Takes3 X Wout)
    (hb : ∀ (W : WX) (pn : List (Addr × Obj)) (xe : Value → Shared → Prop), Takes3 (X.tr pn xe) W → PassesOwn (model X.prog X.w) X.A X.env xe → PSs (X.tr pn xe) body (tb W))
    (hsu : ∀ (a : Addr) (oe : Obj) (cls : Value) (d : Option Addr) (c : Option (Addr × Obj)) (pn : List (Addr × Obj)), Zk c cls d oe → (∃ vs, oe.data = .fields vs) → (∀ y, c = some y → y ∈ pn ∧ ∃ ws : Array Value, y.2.data = .fields ws ∧ ws[2]? = some .none) →
      PSs (X.suite a ((a, oe) :: pn)) (b₀ :: suite) (ts a cls d)) :
    PS X (.Try body [.ExceptHandler (some (.Name x np)) (some n) (b₀ :: suite) pos'] [] [] pos) (fun D σ H => tb (wAs X.K c0 i ts Wout D) D σ H) := by
  refine ⟨fun pins s σ H D I h => ?_⟩
  have ok := I.ok
  have fr : X.A.frames = some (X.env :: X.outer) := by rw [ok.frames, hs]
  refine wpAny_Try_except ?_
  refine wpAny_mono ((hb (wAs X.K c0 i ts Wout D) (X.pn ++ pins) (fun e s₁ => wpAny (model X.prog X.w) X.A (noteFrame e X.env) (fun _ s₂ => wpAny (model X.prog X.w) X.A (setFlight e none) (fun _ s₃ =>
    wpAny (model X.prog X.w) X.A (handleBy e X.env [.ExceptHandler (some (.Name x np)) (some n) (b₀ :: suite) pos']) (SP X pins D) X.xe s₃) X.xe s₂) X.xe s₁) (fun u s' xx => ?_) PassesOwn.looking).run [] s σ H D (I.toTry _) h) (fun g s1 hsp => ?_) (fun e s1 he => he)
  · obtain ⟨c, a, B, sI, pins', τ, G, cls, d, rfl, J', nb, up, sky, na, ck, os, ag, b, hb1, hyes, hno⟩ := xx
    have J : Inv X pins τ G sI := J'.ofTry ok
    have sky2 : Sky B (X.env :: X.outer) a (Zk c cls d) X.env.locals s'.heap := by
      rw [← hs]
      exact sky
    show wpAny (model X.prog X.w) X.A (noteFrame (.ref a) X.env) _ _ _
    refine L2N.Sky.land zk_steady fr hf sky2 fun h3 fly3 up3 => ?_
    have J3 : Inv X pins τ G { s' with heap := h3 } := J.landed nb fly3.1 (up.trans up3) os ag
    obtain ⟨o3, v3, at3, z3, d3⟩ := fly3.there
    have notF : a ∉ frs (X.env :: X.outer) := fun m => by
      obtain ⟨_, o', e', nf⟩ := fly3.2.2.1.mem m
      have z := at3.symm.trans e'
      cases z
      exact nf _ d3
    have far : ∀ {y : Addr}, y ∉ frs (X.env :: X.outer) → y ≠ X.env.locals ∧ y ∉ X.fs := fun {y} ny =>
      ⟨fun z => ny (List.mem_filterMap.mpr ⟨X.env, List.mem_cons_self, by rw [hf, z]⟩), fun m => by
        obtain ⟨e, he, q⟩ := List.mem_filterMap.mp m
        exact ny (List.mem_filterMap.mpr ⟨e, List.mem_cons_of_mem _ he, q⟩)⟩
    obtain ⟨notL, notO⟩ := far notF
    have S3 := J3.suite at3 d3 na notL notO
    have LT : PySem.W.Looks (model X.prog X.w) h3 (typeOf (.ref a)) cls := fun A Q E s k q => wpAny_typeOf_ref (k _ _ at3) (by rw [z3.1]; exact q)
    have LM := PySem.W.exm_one (M := model X.prog X.w) (J3.kIn) LT hb1
    refine wpAny_handleBy_cons (codeAny_handlers_test ?_) (by intro q; cases q)
    refine nm_ld hc S3 (LM.here ?_)
    cases b with
    | true =>
      refine codeAny_handlers_suite_as ?_
      refine HandSPX.lands_againZ fly3 fun h4 fly4 up4 => ?_
      have J4 : Inv X pins τ G { s' with heap := h4 } := J.landed nb fly4.1 ((up.trans up3).trans up4) os ag
      obtain ⟨o4, v4, at4, z4, d4⟩ := fly4.there
      have J5 : Inv X (c.toList ++ pins) τ G { s' with heap := h4 } := J4.pins_of fun y hy => by
        rcases List.mem_append.mp hy with m | m
        · have ey : c = some y := by
            cases c with
            | none => exact absurd m (by simp)
            | some y' =>
              have z2 : y = y' := by simpa using m
              rw [z2]
          obtain ⟨y1, y2, ws, y3, y4⟩ := ck y ey
          have ny : y.1 ∉ frs (X.env :: X.outer) := fun m2 => absurd ((fly4.2.2.1.mem m2).1.symm.trans y1) (by intro w; cases w)
          exact ⟨fly4.1 _ _ y1, y2, (far ny).1, (far ny).2, fun v z => by rw [y3] at z; cases z⟩
        · exact J4.pin y (List.mem_append_right _ m)
      have S4 := J5.suite at4 d4 na notL notO
      have mem4 : ∀ y, c = some y → y ∈ X.pn ++ (c.toList ++ pins) ∧ ∃ ws : Array Value, y.2.data = .fields ws ∧ ws[2]? = some .none := fun y ey => by
        obtain ⟨_, _, ws, y3, y4⟩ := ck y ey
        exact ⟨List.mem_append_right _ (List.mem_append_left _ (by rw [ey]; exact List.mem_cons_self)), ws, y3, y4⟩
      refine store_ok (X := X.suite a ((a, o4) :: (X.pn ++ (c.toList ++ pins)))) (v := .ref a) S4 hN hi (.inl hln) rfl (fun s5 S5 => ?_) (.inr hln)
      refine wpAny_mono ((hsu a o4 cls d c (X.pn ++ (c.toList ++ pins)) z4 ⟨_, d4⟩ mem4).run [] s5 _ G _ S5 (hyes rfl a na)) (fun f s6 hsp => ?_) (fun _ _ z => False.elim z)
      have end_ : ∀ {σ6 : L2.St} {H6 : Hp} {Q : Shared → Prop}, Inv (X.suite a ((a, o4) :: (X.pn ++ (c.toList ++ pins)))) [] σ6 H6 s6 → (∀ s7, Inv X pins (σ6.set i none) H6 s7 → Q s7) →
          wpAny (model X.prog X.w) X.A (do bindName X.env n .none; unbindBehindTheSuite X.env n pos') (fun _ s7 => Q s7) X.xe s6 := fun {σ6 H6 Q} S6 hq =>
        gone_ok (S6.unsuite ok) hN hi hln fun s7 J7 => hq s7 (J7.pins_of fun y hy => J7.pin y (List.mem_append_right _ (List.mem_append_right _ hy)))
      cases f with
      | next =>
        obtain ⟨σ6, H6, S6, q6⟩ := hsp
        exact end_ S6 fun s7 J7 => ⟨_, _, J7, q6⟩
      | brk =>
        obtain ⟨σ6, H6, S6, q6⟩ := hsp
        exact end_ S6 fun s7 J7 => ⟨_, _, J7, q6⟩
      | cont =>
        obtain ⟨σ6, H6, S6, q6⟩ := hsp
        exact end_ S6 fun s7 J7 => ⟨_, _, J7, q6⟩
      | ret u =>
        obtain ⟨v6, σ6, H6, S6, r6, q6⟩ := hsp
        exact end_ S6 fun s7 J7 => ⟨_, _, _, J7, r6, q6⟩
    | false =>
      show wpAny _ X.A (handleBy (.ref a) X.env []) _ _ _
      refine wpAny_handleBy_nil ?_
      obtain ⟨k1, k2, k3, oe, vs, T, oT, ts', he, hz, hd, h1, hr⟩ := id fly3
      unfold PySem.passOn
      refine wpAny_bind (wpAny_field he hd h1 ?_)
      rw [if_neg (show ¬ ((Value.ref T == Value.none) = true) from by simp)]
      have fin : wpAny (model X.prog X.w) X.A (setFlight (.ref a) X.env.frame) (fun _ s4 => wpAny (model X.prog X.w) X.A (throw (.ref a) : Sem Flow) (SP X pins D) X.xe s4) X.xe { s' with heap := h3 } := by
        rw [hf]
        refine HandSPX.setFlight_upZ fly3 fun h4 held4 up4 => wpAny_throw (tk _ _ ?_)
        exact ⟨c, a, B, sI, pins, τ, G, cls, d, rfl, J, nb, (up.trans up3).trans up4, .inr (.inr (by rw [hs]; exact held4)), na, ck, os, ag, hno rfl⟩
      first
        | exact wpAny_bind (wpAny_pure (wpAny_bind fin))
        | exact wpAny_bind fin
  · cases g with
    | next =>
      obtain ⟨τ, G, J', q⟩ := hsp
      exact wpAny_execs_nil ⟨τ, G, J'.ofTry ok, q⟩
    | brk =>
      obtain ⟨τ, G, J', q⟩ := hsp
      exact ⟨τ, G, J'.ofTry ok, q⟩
    | cont =>
      obtain ⟨τ, G, J', q⟩ := hsp
      exact ⟨τ, G, J'.ofTry ok, q⟩
    | ret u =>
      obtain ⟨v, τ, G, J', r, q⟩ := hsp
      exact ⟨v, τ, G, J'.ofTry ok, r, q⟩
end
end Wb

/-! Wb: further rules: zip and enumerate with a text, x is True, sorted(d.keys()), items of a new dict. -/
namespace Wb
open PySem PySem.Spec PyProof.Rows L2

theorem op_isB2 {X : Cx} : OpR X (compareOp .Is) (fun x y H Q => ∃ b, y = .bl b ∧ ((x = .bl b ∧ Q (.bl true) H) ∨ (x ≠ .bl b ∧ Q (.bl false) H))) := by
  intro pins s σ H x y v u Q I rx ry ⟨b, ey, q⟩
  subst ey
  cases (show u = Value.bool b from ry)
  rcases q with ⟨ex, q⟩ | ⟨nx, q⟩
  · subst ex
    cases (show v = Value.bool b from rx)
    exact wpAny_is_self rfl ⟨.bl true, H, I, rfl, q⟩
  · have fin : ∀ {v}, plainIs v (.bool b) = true → v ≠ .bool b → wpAny (model X.prog X.w) X.A (compareOp .Is v (.bool b)) (fun r s' => ∃ y H', Inv X pins σ H' s' ∧ RelV y r ∧ Q y H') X.xe s := fun p n => wpAny_is_other p n ⟨.bl false, H, I, rfl, q⟩
    cases x with
    | bl c =>
      cases (show v = Value.bool c from rx)
      exact fin rfl fun z => nx (by rw [Value.bool.inj z])
    | non => cases rx; exact fin rfl (fun z => nomatch z)
    | ref a => cases rx; exact fin rfl (fun z => nomatch z)
    | ty a => cases rx; exact fin rfl (fun z => nomatch z)
    | _ =>
      obtain ⟨t, rfl⟩ := rx
      exact fin rfl (fun z => nomatch z)

/-! ### zip(list, text) -/
def ItzS (K : PySem.W.Frag) (a : Addr) (z : Str) : It :=
  ⟨fun i H => ∃ (xs : List V), SqL K H a xs ∧ i < xs.length ∧ i < z.cps.size,
    fun i H v H' => ∃ T x c, v = .ref T ∧ H T = none ∧ H' = upd H T (.tup [x, .str ⟨#[c]⟩]) ∧ z.cps[i]? = some c ∧ (∀ xs, SqL K H a xs → xs[i]? = some x),
    fun i H => ∃ xs : List V, SqL K H a xs ∧ i ≤ xs.length ∧ i ≤ z.cps.size ∧ (i = xs.length ∨ i = z.cps.size)⟩
/-- an iterator of a text, its own state -/
def TxIt (h : Heap) (it : Addr) (z : Str) (i : Nat) : Prop := ∃ t, h.IsStrIter it (strIterType z) z t i
theorem it_apart {h : Heap} {a it : Addr} {xs : Array Value} {i : Nat} (p : PlainL h a xs) (q : h.IsListIter it a i) : a ≠ it := fun e => by
  obtain ⟨o, e1, c1, _⟩ := q
  obtain ⟨o2, n, e2, c2, _⟩ := p
  rw [e, e1] at e2
  cases e2
  rw [c1] at c2
  exact absurd c2 (by decide)
theorem turn_zipS {P : Program} {w : World} {K : PySem.W.Frag} {elts : List Expr} {kk : Nat} {tpos : Pos} {a z TI TO i1 i2 : Addr} {x : Str} (S : ZipSep2 z TI TO i1 i2 [i1, a] [i2]) :
    Turn P w K (.Tuple elts kk tpos) (ItzS K a x) [z, TI, TO, i1, i2] z (fun i h => IsZip h z TI TO .none ∧ IsTupOf2 h TI (.ref i1) (.ref i2) ∧ (∃ x y, IsTupOf2 h TO x y) ∧ h.IsListIter i1 a i ∧ TxIt h i2 x i) where
  mem := by simp
  obj := fun i h st c hc => by
    obtain ⟨hz, hTI, ⟨x, y, hTO⟩, ⟨o1, e1, _, d1⟩, ⟨_, o2, e2, _, d2⟩⟩ := st
    have e' : c = z ∨ c = TI ∨ c = TO ∨ c = i1 ∨ c = i2 := by simpa using hc
    rcases e' with q | q | q | q | q
    · rw [q]; exact ⟨_, hz, fun v q => nomatch q⟩
    · rw [q]; exact ⟨_, hTI, fun v q => nomatch q⟩
    · rw [q]; exact ⟨_, hTO, fun v q => nomatch q⟩
    · rw [q]; exact ⟨o1, e1, fun v q => by rw [d1] at q; cases q⟩
    · rw [q]; exact ⟨o2, e2, fun v q => by rw [d2] at q; cases q⟩
  keep := fun i h h' st k => by
    obtain ⟨hz, hTI, ⟨x, y, hTO⟩, h1, ⟨t, o2, e2, r2⟩⟩ := st
    exact ⟨k z (by simp) _ hz, k TI (by simp) _ hTI, ⟨x, y, k TO (by simp) _ hTO⟩, h1.at fun o q => k i1 (by simp) o q, ⟨t, o2, k i2 (by simp) _ e2, r2⟩⟩
  item := by
    intro X hP hw hK hc i pins s σ H E I hf st hg
    subst hP hw hK
    obtain ⟨hz, hTI, ⟨x0, y0, hTO⟩, h1, ⟨t, h2⟩⟩ := st
    obtain ⟨xs, hqx, hx, hy⟩ := hg
    obtain ⟨its, rv, p, _⟩ := I.list hqx
    have hl := rv.length
    have hzl : z < s.heap.objs.size := Heap.lt_size hz
    have hne1 : a ≠ i1 := it_apart p h1
    refine wpAny_pyNext_zipD2_item S (Draws.list (prog := X.prog) (w := X.w) (A := X.A.in1) (I.ok.hd hc) i1 a hne1 its.toArray) (Draws.text (prog := X.prog) (w := X.w) (A := X.A.in1) (I.ok.hd hc) i2 x t) hz hTI hTO ⟨h1, p.isList⟩ h2 (by simp; omega) hy fun x1 x2 h' tk y1 y2 z' TO' d1 d2 hT hsz hk => ?_
    obtain ⟨c, u, hcx, rfl⟩ := y2
    refine ⟨_, rfl, wpAny_letOwnedTupleGo_zip (s := { s with heap := h', toks := tk }) z' fun h'' z'' sb => ?_⟩
    have hT2 : h''.get? s.heap.objs.size = some { cls := .type "tuple", data := .seq #[x1, .str ⟨#[c]⟩ u] } := (sb.2 _ (Nat.ne_of_gt hzl)).trans hT
    have hxi : xs[i]? = some xs[i] := List.getElem?_eq_getElem hx
    obtain ⟨u1, hu1, ru1⟩ := rv.get hxi
    have eu1 : x1 = u1 := by
      have z1 : its[i]? = some x1 := by simpa using y1
      rw [hu1] at z1
      exact (Option.some.inj z1).symm
    subst eu1
    have new : ObjOk X.prog X.w (upd H s.heap.objs.size (.tup [xs[i], .str ⟨#[c]⟩])) h'' s.heap.objs.size (.tup [xs[i], .str ⟨#[c]⟩]) :=
      ⟨by show 2 ≤ sizeLine; decide, [x1, .str ⟨#[c]⟩ u], .cons ru1 (.cons ⟨_, rfl⟩ .nil), ⟨_, hT2, rfl, _, rfl⟩⟩
    have I1 : Inv X pins σ (upd H s.heap.objs.size (.tup [xs[i], .str ⟨#[c]⟩])) { s with heap := h'', toks := tk } :=
      I.turnedNew (t' := tk) (ch := [z, TI, TO, i1, i2]) (fun c o hb q => (sb.2 c (fun q' => hb (by simp [q']))).trans (hk c o (fun q' => hb (by simp [q'])) (fun q' => hb (by simp [q'])) (fun q' => hb (by simp [q'])) (fun q' => hb (by simp [q'])) q)) hf (Nat.le_refl _) new
    refine ⟨.ref s.heap.objs.size, _, I1, rfl, ⟨_, xs[i], c, rfl, I.hok.fresh (Nat.le_refl _), rfl, hcx, fun l hl => by rw [I.list_inj hl hqx]; exact hxi⟩, ⟨z'', ?_, ⟨x1, .str ⟨#[c]⟩ u, ?_⟩, ?_, ?_⟩, fun c hcm => ?_⟩
    · exact (sb.2 _ S.TIz).trans (hk _ _ S.TIz S.TITO S.TIi1 S.TIi2 hTI)
    · exact (sb.2 _ S.TOz).trans TO'
    · exact d1.1.at fun o q => (sb.2 _ (fun e => S.zf1 (by rw [← e]; exact S.mem1))).trans q
    · obtain ⟨o2, e2, r2⟩ := d2
      exact ⟨t, o2, (sb.2 _ (fun e => S.zf2 (by rw [← e]; exact S.mem2))).trans e2, r2⟩
    · have hlt : c < s.heap.objs.size := by
        have e' : c = z ∨ c = TI ∨ c = TO ∨ c = i1 ∨ c = i2 := by simpa using hcm
        rcases e' with q | q | q | q | q
        · rw [q]; exact hzl
        · rw [q]; exact Heap.lt_size hTI
        · rw [q]; exact Heap.lt_size hTO
        · rw [q]; obtain ⟨_, e1, _⟩ := h1; exact Heap.lt_size e1
        · rw [q]; obtain ⟨_, e2, _⟩ := h2; exact Heap.lt_size e2
      rw [upd_ne (Nat.ne_of_lt hlt)]
      exact (hf c hcm).1
  done := by
    intro X hP hw hK hc i pins s σ H E I hf st hg
    subst hP hw hK
    obtain ⟨hz, hTI, ⟨x0, y0, hTO⟩, h1, ⟨t, h2⟩⟩ := st
    obtain ⟨xs, hqx, l1, l2, hend⟩ := hg
    obtain ⟨its, rv, p, _⟩ := I.list hqx
    have hl := rv.length
    have hne1 : a ≠ i1 := it_apart p h1
    exact wpAny_pyNext_zipD2_end S (Draws.list (prog := X.prog) (w := X.w) (A := X.A.in1) (I.ok.hd hc) i1 a hne1 its.toArray) (Draws.text (prog := X.prog) (w := X.w) (A := X.A.in1) (I.ok.hd hc) i2 x t) hz hTI hTO ⟨h1, p.isList⟩ h2 (by simp; omega) l2 (by simp; omega) fun h' tk hk => ⟨rfl, I.turnedL (t' := tk) (ch := [z, TI, TO, i1, i2]) (fun c o hb q =>
      hk c o (fun q' => hb (by simp [q'])) (fun q' => hb (by simp [q'])) (fun q' => hb (by simp [q'])) (fun q' => hb (by simp [q'])) q) hf⟩
  self := fun A i s Q E st h => wpAny_pyIter_zip st.1 h
theorem fp_new {X : Cx} {pins : List (Addr × Obj)} {σ : L2.St} {H : Hp} {s : Shared} (I : L2.Inv X pins σ H s) {l : List Addr} (h : ∀ c ∈ l, s.heap.objs.size ≤ c) : ∀ c ∈ l, FpOk X pins H c := fun c hc => I.fpOk (h c hc) (I.hok.fresh (h c hc))
def iZipS (K : PySem.W.Frag) (ta : TA) : TI := fun σ H R => ta σ H fun vs H1 => ∃ a z xs, vs = [.ref a, .str z] ∧ SqL K H1 a xs ∧ R (ItzS K a z) H1
theorem pi_zipS {X : Cx} {e e2 : Expr} {ta : TA} {p pos tpos : Pos} {elts : List Expr} {kk : Nat} (hg : Gl X "zip") (hm : X.mg "zip" = none) (ha : PA X [e, e2] ta)
    (hs : starEach [e, e2] X.env = (false, eval e X.env) :: starEach [e2] X.env := by rfl) (hpl : (backTo pos (starEach [e2] X.env)).any (·.1) = false := by rfl) :
    PI X (.Tuple elts kk tpos) (.Call (.Name "zip" p) [e, e2] [] pos) (iZipS X.K ta) := by
  refine ⟨fun pins s σ H R I h => ?_⟩
  refine Call_ (ld_blt I hg hm PyProof.Rows.boot_zip (PyProof.Rows.callWith_type1 (thn (ha.run pos pins s σ H _ I h) fun us s1 ⟨vs, H1, I1, r1, q1⟩ => ?_) hs hpl))
  obtain ⟨a, z, xs, ex, hqx, q⟩ := q1
  subst ex
  cases r1 with
  | cons r rr =>
    cases rr with
    | cons r' rr =>
      cases rr
      cases r
      obtain ⟨t, rfl⟩ := r'
      obtain ⟨its, rv, p1, _⟩ := I1.list hqx
      have la : a < s1.heap.objs.size := p1.lt
      refine zip_begins2 (begins_list a its.toArray) (begins_text z t) p1.isList trivial fun h' hz hTI hTO g1 g2 hsz hk => wpAny_pyIter_zip hz ?_
      have I2 : L2.Inv X pins σ H1 { s1 with heap := h' } := I1.kept (t' := s1.toks) hk
      have S := zip_sep2 (N := s1.heap.objs.size) (fp1 := [a]) (fp2 := []) (by simpa using la) (by simp)
      refine ⟨s1.heap.objs.size + 4, [s1.heap.objs.size + 4, s1.heap.objs.size + 2, s1.heap.objs.size + 3, s1.heap.objs.size, s1.heap.objs.size + 1], _, _, H1, rfl, I2, turn_zipS S, ⟨hz, hTI, ⟨_, _, hTO⟩, ⟨_, g1, rfl, rfl⟩, ⟨t, _, g2, rfl, rfl⟩⟩, fp_new I1 fun c hcm => ?_, q⟩
      have e' : c = s1.heap.objs.size + 4 ∨ c = s1.heap.objs.size + 2 ∨ c = s1.heap.objs.size + 3 ∨ c = s1.heap.objs.size ∨ c = s1.heap.objs.size + 1 := by simpa using hcm
      rcases e' with w | w | w | w | w <;> (rw [w]; first | exact Nat.le_refl _ | exact Nat.le_add_right _ _)

/-! ### zip(list, list, text) -/
def ItzT3 (K : PySem.W.Frag) (a b : Addr) (z : Str) : It :=
  ⟨fun i H => ∃ (xs ys : List V), SqL K H a xs ∧ SqL K H b ys ∧ i < xs.length ∧ i < ys.length ∧ i < z.cps.size,
    fun i H v H' => ∃ T x y c, v = .ref T ∧ H T = none ∧ H' = upd H T (.tup [x, y, .str ⟨#[c]⟩]) ∧ z.cps[i]? = some c ∧ (∀ xs, SqL K H a xs → xs[i]? = some x) ∧ (∀ xs, SqL K H b xs → xs[i]? = some y),
    fun i H => ∃ xs ys : List V, SqL K H a xs ∧ SqL K H b ys ∧ i ≤ xs.length ∧ i ≤ ys.length ∧ i ≤ z.cps.size ∧ (i = xs.length ∨ i = ys.length ∨ i = z.cps.size)⟩
theorem turn_zip3 {P : Program} {w : World} {K : PySem.W.Frag} {elts : List Expr} {kk : Nat} {tpos : Pos} {a b z TI TO i1 i2 i3 : Addr} {x : Str} (S : ZipSep3 z TI TO i1 i2 i3 [i1, a] [i2, b] [i3]) :
    Turn P w K (.Tuple elts kk tpos) (ItzT3 K a b x) [z, TI, TO, i1, i2, i3] z (fun i h => IsZip h z TI TO .none ∧ IsTupOf3 h TI (.ref i1) (.ref i2) (.ref i3) ∧ (∃ x y u, IsTupOf3 h TO x y u) ∧ h.IsListIter i1 a i ∧ h.IsListIter i2 b i ∧ TxIt h i3 x i) where
  mem := by simp
  obj := fun i h st c hc => by
    obtain ⟨hz, hTI, ⟨x, y, u, hTO⟩, ⟨o1, e1, _, d1⟩, ⟨o2, e2, _, d2⟩, ⟨_, o3, e3, _, d3⟩⟩ := st
    have e' : c = z ∨ c = TI ∨ c = TO ∨ c = i1 ∨ c = i2 ∨ c = i3 := by simpa using hc
    rcases e' with q | q | q | q | q | q
    · rw [q]; exact ⟨_, hz, fun v q => nomatch q⟩
    · rw [q]; exact ⟨_, hTI, fun v q => nomatch q⟩
    · rw [q]; exact ⟨_, hTO, fun v q => nomatch q⟩
    · rw [q]; exact ⟨o1, e1, fun v q => by rw [d1] at q; cases q⟩
    · rw [q]; exact ⟨o2, e2, fun v q => by rw [d2] at q; cases q⟩
    · rw [q]; exact ⟨o3, e3, fun v q => by rw [d3] at q; cases q⟩
  keep := fun i h h' st k => by
    obtain ⟨hz, hTI, ⟨x, y, u, hTO⟩, h1, h2, ⟨t, o2, e2, r2⟩⟩ := st
    exact ⟨k z (by simp) _ hz, k TI (by simp) _ hTI, ⟨x, y, u, k TO (by simp) _ hTO⟩, h1.at fun o q => k i1 (by simp) o q, h2.at fun o q => k i2 (by simp) o q, ⟨t, o2, k i3 (by simp) _ e2, r2⟩⟩
  item := by
    intro X hP hw hK hc i pins s σ H E I hf st hg
    subst hP hw hK
    obtain ⟨hz, hTI, ⟨x0, y0, u0, hTO⟩, h1, h2, ⟨t, h3⟩⟩ := st
    obtain ⟨xs, ys, hqx, hqy, hx, hy, hw⟩ := hg
    obtain ⟨its, rv, p, _⟩ := I.list hqx
    obtain ⟨its2, rv2, p2, _⟩ := I.list hqy
    have hl := rv.length
    have hl2 := rv2.length
    have hzl : z < s.heap.objs.size := Heap.lt_size hz
    have hne1 : a ≠ i1 := it_apart p h1
    have hne2 : b ≠ i2 := it_apart p2 h2
    refine wpAny_pyNext_zipD3_item S (Draws.list (prog := X.prog) (w := X.w) (A := X.A.in1) (I.ok.hd hc) i1 a hne1 its.toArray) (Draws.list (prog := X.prog) (w := X.w) (A := X.A.in1) (I.ok.hd hc) i2 b hne2 its2.toArray) (Draws.text (prog := X.prog) (w := X.w) (A := X.A.in1) (I.ok.hd hc) i3 x t) hz hTI hTO ⟨h1, p.isList⟩ ⟨h2, p2.isList⟩ h3 (by simp; omega) (by simp; omega) hw fun x1 x2 x3 h' tk y1 y2 y3 z' TO' d1 d2 d3 hT hsz hk => ?_
    obtain ⟨c, u, hcx, rfl⟩ := y3
    refine ⟨_, rfl, wpAny_letOwnedTupleGo_zip (s := { s with heap := h', toks := tk }) z' fun h'' z'' sb => ?_⟩
    have hT2 : h''.get? s.heap.objs.size = some { cls := .type "tuple", data := .seq #[x1, x2, .str ⟨#[c]⟩ u] } := (sb.2 _ (Nat.ne_of_gt hzl)).trans hT
    have hxi : xs[i]? = some xs[i] := List.getElem?_eq_getElem hx
    have hyi : ys[i]? = some ys[i] := List.getElem?_eq_getElem hy
    obtain ⟨u1, hu1, ru1⟩ := rv.get hxi
    obtain ⟨u2, hu2, ru2⟩ := rv2.get hyi
    have eu1 : x1 = u1 := by
      have z1 : its[i]? = some x1 := by simpa using y1
      rw [hu1] at z1
      exact (Option.some.inj z1).symm
    have eu2 : x2 = u2 := by
      have z1 : its2[i]? = some x2 := by simpa using y2
      rw [hu2] at z1
      exact (Option.some.inj z1).symm
    subst eu1 eu2
    have new : ObjOk X.prog X.w (upd H s.heap.objs.size (.tup [xs[i], ys[i], .str ⟨#[c]⟩])) h'' s.heap.objs.size (.tup [xs[i], ys[i], .str ⟨#[c]⟩]) :=
      ⟨by show 3 ≤ sizeLine; decide, [x1, x2, .str ⟨#[c]⟩ u], .cons ru1 (.cons ru2 (.cons ⟨_, rfl⟩ .nil)), ⟨_, hT2, rfl, _, rfl⟩⟩
    have I1 : L2.Inv X pins σ (upd H s.heap.objs.size (.tup [xs[i], ys[i], .str ⟨#[c]⟩])) { s with heap := h'', toks := tk } :=
      I.turnedNew (t' := tk) (ch := [z, TI, TO, i1, i2, i3]) (fun c o hb q => (sb.2 c (fun q' => hb (by simp [q']))).trans (hk c o (fun q' => hb (by simp [q'])) (fun q' => hb (by simp [q'])) (fun q' => hb (by simp [q'])) (fun q' => hb (by simp [q'])) (fun q' => hb (by simp [q'])) q)) hf (Nat.le_refl _) new
    refine ⟨.ref s.heap.objs.size, _, I1, rfl, ⟨_, xs[i], ys[i], c, rfl, I.hok.fresh (Nat.le_refl _), rfl, hcx, fun l hl => by rw [I.list_inj hl hqx]; exact hxi, fun l hl => by rw [I.list_inj hl hqy]; exact hyi⟩, ⟨z'', ?_, ⟨x1, x2, .str ⟨#[c]⟩ u, ?_⟩, ?_, ?_, ?_⟩, fun c hcm => ?_⟩
    · exact (sb.2 _ S.TIz).trans (hk _ _ S.TIz S.TITO S.TIi1 S.TIi2 S.TIi3 hTI)
    · exact (sb.2 _ S.TOz).trans TO'
    · exact d1.1.at fun o q => (sb.2 _ (fun e => S.zf1 (by rw [← e]; exact S.mem1))).trans q
    · exact d2.1.at fun o q => (sb.2 _ (fun e => S.zf2 (by rw [← e]; exact S.mem2))).trans q
    · obtain ⟨o2, e2, r2⟩ := d3
      exact ⟨t, o2, (sb.2 _ (fun e => S.zf3 (by rw [← e]; exact S.mem3))).trans e2, r2⟩
    · have hlt : c < s.heap.objs.size := by
        have e' : c = z ∨ c = TI ∨ c = TO ∨ c = i1 ∨ c = i2 ∨ c = i3 := by simpa using hcm
        rcases e' with q | q | q | q | q | q
        · rw [q]; exact hzl
        · rw [q]; exact Heap.lt_size hTI
        · rw [q]; exact Heap.lt_size hTO
        · rw [q]; obtain ⟨_, e1, _⟩ := h1; exact Heap.lt_size e1
        · rw [q]; obtain ⟨_, e2, _⟩ := h2; exact Heap.lt_size e2
        · rw [q]; obtain ⟨_, e2, _⟩ := h3; exact Heap.lt_size e2
      rw [upd_ne (Nat.ne_of_lt hlt)]
      exact (hf c hcm).1
  done := by
    intro X hP hw hK hc i pins s σ H E I hf st hg
    subst hP hw hK
    obtain ⟨hz, hTI, ⟨x0, y0, u0, hTO⟩, h1, h2, ⟨t, h3⟩⟩ := st
    obtain ⟨xs, ys, hqx, hqy, l1, l2, l3, hend⟩ := hg
    obtain ⟨its, rv, p, _⟩ := I.list hqx
    obtain ⟨its2, rv2, p2, _⟩ := I.list hqy
    have hl := rv.length
    have hl2 := rv2.length
    have hne1 : a ≠ i1 := it_apart p h1
    have hne2 : b ≠ i2 := it_apart p2 h2
    exact wpAny_pyNext_zipD3_end S (Draws.list (prog := X.prog) (w := X.w) (A := X.A.in1) (I.ok.hd hc) i1 a hne1 its.toArray) (Draws.list (prog := X.prog) (w := X.w) (A := X.A.in1) (I.ok.hd hc) i2 b hne2 its2.toArray) (Draws.text (prog := X.prog) (w := X.w) (A := X.A.in1) (I.ok.hd hc) i3 x t) hz hTI hTO ⟨h1, p.isList⟩ ⟨h2, p2.isList⟩ h3 (by simp; omega) (by simp; omega) l3 (by simp; omega) fun h' tk hk => ⟨rfl, I.turnedL (t' := tk) (ch := [z, TI, TO, i1, i2, i3]) (fun c o hb q =>
      hk c o (fun q' => hb (by simp [q'])) (fun q' => hb (by simp [q'])) (fun q' => hb (by simp [q'])) (fun q' => hb (by simp [q'])) (fun q' => hb (by simp [q'])) q) hf⟩
  self := fun A i s Q E st h => wpAny_pyIter_zip st.1 h
def iZip3 (K : PySem.W.Frag) (ta : TA) : TI := fun σ H R => ta σ H fun vs H1 => ∃ a b z xs ys, vs = [.ref a, .ref b, .str z] ∧ SqL K H1 a xs ∧ SqL K H1 b ys ∧ R (ItzT3 K a b z) H1
theorem pi_zip3 {X : Cx} {e e2 e3 : Expr} {ta : TA} {p pos tpos : Pos} {elts : List Expr} {kk : Nat} (hg : Gl X "zip") (hm : X.mg "zip" = none) (ha : PA X [e, e2, e3] ta)
    (hs : starEach [e, e2, e3] X.env = (false, eval e X.env) :: starEach [e2, e3] X.env := by rfl) (hpl : (backTo pos (starEach [e2, e3] X.env)).any (·.1) = false := by rfl) :
    PI X (.Tuple elts kk tpos) (.Call (.Name "zip" p) [e, e2, e3] [] pos) (iZip3 X.K ta) := by
  refine ⟨fun pins s σ H R I h => ?_⟩
  refine Call_ (ld_blt I hg hm PyProof.Rows.boot_zip (PyProof.Rows.callWith_type1 (thn (ha.run pos pins s σ H _ I h) fun us s1 ⟨vs, H1, I1, r1, q1⟩ => ?_) hs hpl))
  obtain ⟨a, b, z, xs, ys, ex, hqx, hqy, q⟩ := q1
  subst ex
  cases r1 with
  | cons r rr =>
    cases rr with
    | cons r' rr =>
      cases rr with
      | cons r'' rr =>
        cases rr
        cases r
        cases r'
        obtain ⟨t, rfl⟩ := r''
        obtain ⟨its, rv, p1, _⟩ := I1.list hqx
        obtain ⟨its2, rv2, p2, _⟩ := I1.list hqy
        have la : a < s1.heap.objs.size := p1.lt
        have lb : b < s1.heap.objs.size := p2.lt
        refine zip_begins3 (begins_list a its.toArray) (begins_list b its2.toArray) (begins_text z t) p1.isList p2.isList trivial fun h' hz hTI hTO g1 g2 g3 hsz hk => wpAny_pyIter_zip hz ?_
        have I2 : L2.Inv X pins σ H1 { s1 with heap := h' } := I1.kept (t' := s1.toks) hk
        have S := zip_sep3 (N := s1.heap.objs.size) (fp1 := [a]) (fp2 := [b]) (fp3 := []) (by simpa using la) (by simpa using lb) (by simp)
        refine ⟨s1.heap.objs.size + 5, [s1.heap.objs.size + 5, s1.heap.objs.size + 3, s1.heap.objs.size + 4, s1.heap.objs.size, s1.heap.objs.size + 1, s1.heap.objs.size + 2], _, _, H1, rfl, I2, turn_zip3 S, ⟨hz, hTI, ⟨_, _, _, hTO⟩, ⟨_, g1, rfl, rfl⟩, ⟨_, g2, rfl, rfl⟩, ⟨t, _, g3, rfl, rfl⟩⟩, fp_new I1 fun c hcm => ?_, q⟩
        have e' : c = s1.heap.objs.size + 5 ∨ c = s1.heap.objs.size + 3 ∨ c = s1.heap.objs.size + 4 ∨ c = s1.heap.objs.size ∨ c = s1.heap.objs.size + 1 ∨ c = s1.heap.objs.size + 2 := by simpa using hcm
        rcases e' with w | w | w | w | w | w <;> (rw [w]; first | exact Nat.le_refl _ | exact Nat.le_add_right _ _)

/-! ### enumerate(text) -/
def IteS (z : Str) : It :=
  ⟨fun i H => i < z.cps.size, fun i H v H' => ∃ T c, v = .ref T ∧ H T = none ∧ H' = upd H T (.tup [.int (i : Nat), .str ⟨#[c]⟩]) ∧ z.cps[i]? = some c, fun i H => i = z.cps.size⟩
theorem turn_enumS {P : Program} {w : World} {K : PySem.W.Frag} {elts : List Expr} {kk : Nat} {tpos : Pos} (e it : Addr) (x : Str) :
    Turn P w K (.Tuple elts kk tpos) (IteS x) [e, it] e (fun i h => (∃ old, IsEnum h e it ((i : Nat) : Int) old) ∧ TxIt h it x i ∧ e ≠ it) where
  mem := by simp
  obj := fun i h st b hb => by
    obtain ⟨⟨old, he⟩, ⟨_, o, ho, hc, hd⟩, _⟩ := st
    have e' : b = e ∨ b = it := by simpa using hb
    rcases e' with z | z
    · rw [z]; exact ⟨_, he, fun v q => nomatch q⟩
    · rw [z]; exact ⟨o, ho, fun v q => by rw [hd] at q; cases q⟩
  keep := fun i h h' st k => let ⟨⟨old, he⟩, ⟨t, o, ho, r⟩, hne⟩ := st; ⟨⟨old, k e (by simp) _ he⟩, ⟨t, o, k it (by simp) _ ho, r⟩, hne⟩
  item := by
    intro X hP hw hK hc i pins s σ H E I hf st hg
    subst hP hw hK
    obtain ⟨⟨old, he⟩, ⟨t, hit⟩, hne⟩ := st
    have hel : e < s.heap.objs.size := Heap.lt_size he
    have hil : it < s.heap.objs.size := by obtain ⟨_, q, _⟩ := hit; exact Heap.lt_size q
    refine wpAny_pyNext_enum_itemD (Draws.text (prog := X.prog) (w := X.w) (A := X.A.in1) (I.ok.hd hc) it x t) he hit hg hne (by simpa using hne) fun x1 h' tk hP ho hit' hT hsz hk => ?_
    obtain ⟨c, u, hcx, rfl⟩ := hP
    refine ⟨_, rfl, wpAny_letOwnedTupleGo_enum (s := { s with heap := h', toks := tk + 1 }) ho fun h'' he' sb => ?_⟩
    have hT2 : h''.get? s.heap.objs.size = some { cls := .type "tuple", data := .seq #[.int i tk, .str ⟨#[c]⟩ u] } := (sb.2 _ (Nat.ne_of_gt hel)).trans hT
    have new : ObjOk X.prog X.w (upd H s.heap.objs.size (.tup [.int (i : Nat), .str ⟨#[c]⟩])) h'' s.heap.objs.size (.tup [.int (i : Nat), .str ⟨#[c]⟩]) :=
      ⟨by show 2 ≤ sizeLine; decide, [.int i tk, .str ⟨#[c]⟩ u], .cons ⟨_, rfl⟩ (.cons ⟨_, rfl⟩ .nil), ⟨_, hT2, rfl, _, rfl⟩⟩
    have I1 : L2.Inv X pins σ (upd H s.heap.objs.size (.tup [.int (i : Nat), .str ⟨#[c]⟩])) { s with heap := h'', toks := tk + 1 } :=
      I.turnedNew (ch := [e, it]) (fun b ob hb q => (sb.2 b (fun z => hb (by simp [z]))).trans (hk b ob (fun z => hb (by simp [z])) (fun z => hb (by simp [z])) q)) hf (Nat.le_refl _) new
    refine ⟨.ref s.heap.objs.size, _, I1, rfl, ⟨_, c, rfl, I.hok.fresh (Nat.le_refl _), rfl, hcx⟩, ⟨⟨.str ⟨#[c]⟩ u, ?_⟩, ?_, hne⟩, fun b hb => ?_⟩
    · have e1 : ((i + 1 : Nat) : Int) = (i : Int) + 1 := by omega
      rw [e1]; exact he'
    · obtain ⟨o2, e2, r2⟩ := hit'
      exact ⟨t, o2, (sb.2 it (Ne.symm hne)).trans e2, r2⟩
    · have hb' : b < s.heap.objs.size := by
        have e' : b = e ∨ b = it := by simpa using hb
        rcases e' with z | z
        · rw [z]; exact hel
        · rw [z]; exact hil
      rw [upd_ne (Nat.ne_of_lt hb')]
      exact (hf b hb).1
  done := by
    intro X hP hw hK hc i pins s σ H E I hf st hg
    subst hP hw hK
    obtain ⟨⟨old, he⟩, ⟨t, hit⟩, hne⟩ := st
    obtain ⟨f0, f1, f2, f3, f4, f5⟩ := hf it (by simp)
    have e0 : i = x.cps.size := hg
    subst e0
    exact wpAny_pyNext_enum_endD (Draws.text (prog := X.prog) (w := X.w) (A := X.A.in1) (I.ok.hd hc) it x t) he hit fun h' eb => ⟨rfl, I.turned (t' := s.toks) (fun b o hb q => eb b o hb q) f0 f1 f3 f4 f5⟩
  self := fun A i s Q E st h => let ⟨⟨_, he⟩, _⟩ := st; wpAny_pyIter_enum he h
def iEnumS (ta : TA) : TI := fun σ H R => ta σ H fun vs H1 => ∃ z, vs = [.str z] ∧ R (IteS z) H1
theorem pi_enumS {X : Cx} {e : Expr} {ta : TA} {p pos tpos : Pos} {elts : List Expr} {kk : Nat} (hg : Gl X "enumerate") (hm : X.mg "enumerate" = none) (ha : PA X [e] ta) (hs : starEach [e] X.env = [(false, eval e X.env)] := by rfl) :
    PI X (.Tuple elts kk tpos) (.Call (.Name "enumerate" p) [e] [] pos) (iEnumS ta) := by
  refine ⟨fun pins s σ H R I h => ?_⟩
  refine Call_ (ld_blt I hg hm boot_enumerate (PyProof.Rows.callWith_type1 (thn (ha.run pos pins s σ H _ I h) fun us s1 ⟨vs, H1, I1, r1, q1⟩ => ?_) hs rfl))
  obtain ⟨z, ex, q⟩ := q1
  subst ex
  cases r1 with
  | cons r rr =>
    cases rr
    obtain ⟨t, rfl⟩ := r
    refine call_enumerate_str fun h' he hit hsz hk => wpAny_pyIter_enum he ?_
    have I2 : L2.Inv X pins σ H1 { s1 with heap := h' } := I1.kept (t' := s1.toks) hk
    refine ⟨s1.heap.objs.size + 1, [s1.heap.objs.size + 1, s1.heap.objs.size], _, _, H1, rfl, I2, turn_enumS (s1.heap.objs.size + 1) s1.heap.objs.size z, ⟨⟨.none, he⟩, ⟨t, hit⟩, Nat.succ_ne_self _⟩, fp_new I1 fun b hb => ?_, q⟩
    have e' : b = s1.heap.objs.size + 1 ∨ b = s1.heap.objs.size := by simpa using hb
    rcases e' with w | w <;> (rw [w]; first | exact Nat.le_refl _ | exact Nat.le_add_right _ _)

/-! ### loops over any iterator of n turns -/
theorem for_it {J : It} {g : TG} {tb : TS} {D : Ends} {σ : L2.St} {H : Hp} (n : Nat) (Pv : Nat → L2.St → Hp → Prop) (h0 : Pv 0 σ H) (hgo : ∀ i σ H, i < n → Pv i σ H → J.go i H) (hst : ∀ σ H, Pv n σ H → J.stop n H)
    (hs : ∀ i σ H x H', i < n → Pv i σ H → J.yld i H x H' → g x σ H' fun σ2 H2 => tb { D with nx := Pv (i + 1), ct := Pv (i + 1), bk := D.nx } σ2 H2) (hd : ∀ σ H, Pv n σ H → D.nx σ H) :
    ∃ W : Nat → Nat → L2.St → Hp → Prop, (∃ m, W 0 m σ H) ∧ ∀ i m σ H, W i m σ H →
      (J.stop i H ∧ D.nx σ H) ∨ (J.go i H ∧ ∃ N : L2.St → Hp → Prop, (∀ σ' H', N σ' H' → ∃ m', m' < m ∧ W (i + 1) m' σ' H') ∧ ∀ x H', J.yld i H x H' → g x σ H' fun σ2 H2 => tb { D with nx := N, ct := N, bk := D.nx } σ2 H2) := by
  refine ⟨fun i m σ H => m = n - i ∧ i ≤ n ∧ Pv i σ H, ⟨n, rfl, Nat.zero_le _, h0⟩, ?_⟩
  rintro i m σ H ⟨rfl, hi, p⟩
  by_cases hlt : i < n
  · exact .inr ⟨hgo i σ H hlt p, Pv (i + 1), fun σ' H' p' => ⟨n - (i + 1), by omega, rfl, hlt, p'⟩, fun x H' y => hs i σ H x H' hlt p y⟩
  · have e : i = n := by omega
    subst e
    exact .inl ⟨hst σ H p, hd σ H p⟩
theorem lc_it {J : It} {g : TG} {tt : TT} {te : TE} {vs : List Nat} {σ : L2.St} {H1 : Hp} {D : Addr} {Qd : Hp → Prop} (n : Nat) (Pv : Nat → Hp → Prop) (h0 : Pv 0 (upd H1 D (.lst []))) (hgo : ∀ i H, i < n → Pv i H → J.go i H) (hst : ∀ H, Pv n H → J.stop n H)
    (hs : ∀ i H x H', i < n → Pv i H → J.yld i H x H' → g x (wipe σ vs) H' fun σ2 H2 => wipe σ2 vs = wipe σ vs ∧ tt σ2 H2 fun b H3 =>
      if b = true then te σ2 H3 fun y H4 => ∃ acc, H4 D = some (.lst acc) ∧ acc.length < sizeLine ∧ Pv (i + 1) (upd H4 D (.lst (acc ++ [y]))) else Pv (i + 1) H3) (hd : ∀ H, Pv n H → Qd H) :
    ∃ W : Nat → Nat → Hp → Prop, (∃ m, W 0 m (upd H1 D (.lst []))) ∧ ∀ i m H, W i m H →
      (J.stop i H ∧ Qd H) ∨ (J.go i H ∧ ∃ Nx : Hp → Prop, (∀ H', Nx H' → ∃ m', m' < m ∧ W (i + 1) m' H') ∧ ∀ x H', J.yld i H x H' → g x (wipe σ vs) H' fun σ2 H2 => wipe σ2 vs = wipe σ vs ∧ tt σ2 H2 fun b H3 =>
        if b = true then te σ2 H3 fun y H4 => ∃ acc, H4 D = some (.lst acc) ∧ acc.length < sizeLine ∧ Nx (upd H4 D (.lst (acc ++ [y]))) else Nx H3) := by
  refine ⟨fun i m H => m = n - i ∧ i ≤ n ∧ Pv i H, ⟨n, rfl, Nat.zero_le _, h0⟩, ?_⟩
  rintro i m H ⟨rfl, hi, p⟩
  by_cases hlt : i < n
  · exact .inr ⟨hgo i H hlt p, Pv (i + 1), fun H' p' => ⟨n - (i + 1), by omega, rfl, hlt, p'⟩, fun x H' y => hs i H x H' hlt p y⟩
  · have e : i = n := by omega
    subst e
    exact .inl ⟨hst H p, hd H p⟩

/-! ### a new dict that is only walked -/
def tFrz (te : TE) : TE := fun σ H Q => te σ H fun v H' => ∃ d u, v = .ref d ∧ H' d = some u ∧ Mut (some u) ∧ ∀ od, Q v (upd H' d (.frz od u))
theorem pe_frz {X : Cx} {e : Expr} {te : TE} (h : PE X e te) : PE X e (tFrz te) := by
  refine ⟨fun pins s σ H Q I hw => ?_⟩
  refine thn (h.run pins s σ H _ I hw) fun v s1 ⟨x, H1, I1, r, d, u, ex, hd, mu, q⟩ => ?_
  obtain ⟨od, I2⟩ := I1.lock hd mu
  exact ⟨x, _, I2, r, q od⟩
/-- sorted(o.keys()), text keys -/
def tSortKeys (td : TE) : TE := fun σ H Q => td σ H fun x H1 => ∃ a kvs ks, x = V.ref a ∧ H1 a = some (.dK kvs) ∧ kvs.map (·.1) = ks.map Sum.inr ∧ ks.length < 64 ∧ ∀ ys p, ys.Perm ks → sortedS ys = true → H1 p = none → Q (.ref p) (upd H1 p (.lst (ys.map V.str)))
theorem pe_sortKeys {X : Cx} {o : Expr} {p pos apos mpos : Pos} {td : TE} (hc : X.calm = true) (hg : Gl X "sorted") (hm : X.mg "sorted" = none) (hd : PE X o td) (hbase : attributeBase o "keys" X.env (eval o X.env) = eval o X.env := by rfl) (hline : (apos.endLine == mpos.line) = true := by rfl)
    (hse : starEach [Expr.Call (.Attribute o "keys" apos) [] [] mpos] X.env = [(false, eval (Expr.Call (.Attribute o "keys" apos) [] [] mpos) X.env)] := by rfl) :
    PE X (.Call (.Name "sorted" p) [.Call (.Attribute o "keys" apos) [] [] mpos] [] pos) (tSortKeys td) := by
  refine ⟨fun pins s σ H Q I h => ?_⟩
  refine wpAny_Call_Name_kw (ld_blt I hg hm (u := .builtin "sorted") (by first | rfl | decide +kernel) ?_ (by first | decide +kernel | decide) (by first | decide +kernel | decide))
  rw [hse]
  refine PySem.callWith_builtin1 (wpAny_Call_method0_late hbase hline (thn (hd.run pins s σ H _ I h) fun v s1 ⟨x, H1, I1, r1, a, kvs, ks, ex, ha, hks, h64, q⟩ => ?_))
  subst ex
  obtain rfl : v = Value.ref a := r1
  obtain ⟨_, hsys, vs, rel, dof⟩ := dk_of I1.hok ha
  obtain ⟨ep, dat⟩ := dof.dictAt
  have dat' := dat
  obtain ⟨ob, es, ho, ex, hdat, hko, hpr, hnd⟩ := dat'
  refine ⟨"dict", "dict.keys", F.plainAttrs_dict, F.slot_dict_keys, F.type_dict_keys, ⟨ob, ho, ex.1⟩, fun b e => ?_, Calls.callWith_builtin rfl (PySem.evalArgs_none ?_)⟩
  · cases e
    exact ⟨ob, ho, ex.2.1⟩
  refine call_meetsIn F.slot_dict_keys ⟨ob, ho, ex.1⟩ F.entry_dict_keys (F.args_dict_keys_1 _) (PySem.W.kdl_meets_keys (mixKind X.prog X.w) a hsys) ⟨⟨vs, dof⟩, ?_⟩
  have k1 : ∀ b u, s1.heap.get? b = some u → (s1.heap.push { cls := .type "dict_keys", data := .fields #[.ref a] }).get? b = some u := fun b u e => Heap.get?_push_of_some _ e
  have dat1 : (s1.heap.push { cls := .type "dict_keys", data := .fields #[.ref a] }).DictAt (mixKind X.prog X.w) a vs ep := dat.keep k1
  have I0 : L2.Inv X pins σ H1 { s1 with heap := s1.heap.push { cls := .type "dict_keys", data := .fields #[.ref a] } } := I1.kept (t' := s1.toks) k1
  have hkeys : vs.map (·.1) = ks.map Sum.inr := rel.keys.symm.trans hks
  have hl : vs.length = ks.length := by
    have e := congrArg List.length hkeys
    rw [List.length_map, List.length_map] at e
    exact e
  have h16 : vs.length ≤ sizeLine := by rw [hl, sizeLine_eq]; omega
  generalize hs2 : ({ s1 with heap := s1.heap.push { cls := .type "dict_keys", data := .fields #[.ref a] } } : Shared) = s2 at I0
  have hview : PySem.W.KdlKeysView s2.heap s1.heap.objs.size a := by rw [← hs2]; exact ⟨_, Heap.get?_push_size _ rfl, rfl, rfl⟩
  have dat2 : s2.heap.DictAt (mixKind X.prog X.w) a vs ep := by rw [← hs2]; exact dat1
  refine Calls.call_function_entry PyProof.Rows.kind_sorted PyProof.Rows.plain_sorted PyProof.Rows.entry_sorted (PyProof.Rows.args_sorted1 _) ?_
  unfold Builtin.«sorted»
  refine wpAny_bind (m := checkCount "sorted" 1 1 _) (wpAny_pure ?_)
  refine wpAny_bind (PySem.W.kdu_collect (A := X.A.in1) (PySem.W.kdl_keys (knd := mixKind X.prog X.w) (kvs := vs) (ep := ep)) (I.ok.hd hc) ⟨hview, dat2⟩ h16 fun h' tk acc hk hacc => ?_)
  have hal : acc.toList.length = ks.length := by rw [Array.length_toList, hacc.1, hl]
  have hS : StrsAre acc.toList ks := strs_at hal fun j v e => by
    obtain ⟨k, x, e1, e2⟩ := hacc.2 j v (by rw [← Array.getElem?_toList]; exact e)
    have e3 : (vs.map (·.1))[j]? = some k := by rw [List.getElem?_map, e1]; all_goals rfl
    rw [hkeys, List.getElem?_map] at e3
    cases e4 : ks[j]? with
    | none => rw [e4] at e3; cases e3
    | some y =>
      rw [e4] at e3
      have e5 : Sum.inr y = k := Option.some.inj e3
      subst e5
      obtain ⟨t, ev⟩ := Value.isStrOf_shape (x := y) (v := v) e2
      exact ⟨y, t, rfl, ev⟩
  have I2 : L2.Inv X pins σ H1 { s2 with heap := h', toks := tk } := I0.kept hk
  refine wpAny_bind (wpAny_newList ?_ (by rw [hal, sizeLine_eq]; omega))
  have hoL : (h'.push (seqObj "list" acc.toList.toArray 0)).get? h'.objs.size = some (seqObj "list" acc.toList.toArray 0) := Heap.get?_push_size _ rfl
  show wpAny _ _ _ _ _ { s2 with heap := h'.push (seqObj "list" acc.toList.toArray 0), toks := tk }
  refine wpAny_bind (wpAny_holding (wpAny_call_entry PyProof.Rows.slot_list_sort ⟨_, hoL, rfl⟩ PyProof.Rows.entry_list_sort
    (list_sort_treeK strKind_oneLt (s := { s2 with heap := h'.push (seqObj "list" acc.toList.toArray 0), toks := tk }) hoL hS.keysOf (fun v₁ v₂ rest e => keyKind_strs (by rw [← e]; exact hS)) (by rw [hal]; exact h64) fun st' hp hs => ⟨_, rfl, ?_⟩)
    (PyProof.Rows.args_list_sort _)))
  obtain ⟨ys, g1, g2, g3⟩ := sorted_out_str hS hp hs
  obtain ⟨e', he'⟩ := PyProof.Rows.sortedHeap_at (vs := acc.toList) (out := (arrOf st').map (·.2)) hoL
  have hlen : (ys.map V.str).length ≤ sizeLine := by
    rw [List.length_map, g2.length_eq]
    exact Nat.le_trans (Nat.le_of_lt h64) (by decide)
  refine wpAny_pure ⟨_, rfl, .ref h'.objs.size, upd H1 h'.objs.size (.lst (ys.map V.str)), I2.laid (t' := tk) (fun b u e => ?_) (Nat.le_refl _)
    (show ObjOk X.prog X.w _ _ _ (.lst (ys.map V.str)) from ⟨hlen, ((arrOf st').map (·.2)).toList, e', vals_of_strs g1, by rw [Array.toArray_toList]; exact he'⟩), rfl, q ys _ g2 g3 (I2.hok.fresh (Nat.le_refl _))⟩
  have hb : b < h'.objs.size := Heap.lt_size e
  rw [PyProof.Rows.sortedHeap_old (Nat.ne_of_lt hb) (by rw [size_push']; exact Nat.lt_succ_of_lt hb)]
  exact Heap.get?_push_of_some _ e
end Wb

/-! Wb: what the defs are called by; heaps without one address; data. -/
namespace Wb
open PySem PySem.Spec PyProof.Rows L2
abbrev FnP (K : PySem.W.Frag) (x q : Str) (st : Stmt) (f : Addr) (fd : FuncData) : Prop := FunD K x q (defArgs st) (defBody st) (defScope st) [] [] f fd
def Dfn (K : PySem.W.Frag) (mg : Str → Option Value) (x : Str) (st : Stmt) : Prop := (∃ fd, FnP K x x st (He.ga K x) fd) ∧ mg x = some (.ref (He.ga K x))
def Dmt (K : PySem.W.Frag) (C m : Str) (st : Stmt) : Prop := (∃ fd, FnP K m (C ++ "." ++ m) st (He.ma K (He.ga K C) m) fd) ∧ Meth K (He.ga K C) m (He.ma K (He.ga K C) m)
def Dmk (K : PySem.W.Frag) (mg : Str → Option Value) (C : Str) (st : Stmt) : Prop := (∃ fd, FnP K "__init__" (C ++ ".__init__") st (He.ma K (He.ga K C) "__init__") fd) ∧ Mk K (He.ga K C) (He.ma K (He.ga K C) "__init__") ∧ mg C = some (.ref (He.ga K C))
def Dex (K : PySem.W.Frag) (mg : Str → Option Value) (x : Str) : Prop := mg x = some (.ref (He.ga K x)) ∧ PySem.W.excIn K (He.ga K x) He.veBase "ValueError.__new__" = true ∧ PySem.W.keepIn K (.ref (He.ga K x)) = true ∧ PySem.W.subIn K (.ref (He.ga K x)) (.type "BaseException") = some true ∧
    PySem.W.typeIn K (.ref (He.ga K x)) = some (.type "type")
def kinds : List Str := ["BadTablet", "BadRow", "BadText", "BadMark", "TooLong", "TooTight", "SpoolDry", "NoTablet", "NothingLeft", "Unlike", "SeenThread", "NoSuchWay", "Barred", "BandError"]
def five : List Str := ["BadRow", "NoTablet", "SpoolDry", "TooTight", "BadTablet"]
structure Tx (K : PySem.W.Frag) (mg : Str → Option Value) : Prop where
  m_len : mg "len" = none
  m_zip : mg "zip" = none
  m_list : mg "list" = none
  m_dict : mg "dict" = none
  m_enumerate : mg "enumerate" = none
  m_abs : mg "abs" = none
  m_max : mg "max" = none
  m_min : mg "min" = none
  m_int : mg "int" = none
  m_str : mg "str" = none
  m_isinstance : mg "isinstance" = none
  m_range : mg "range" = none
  m_sorted : mg "sorted" = none
  m_bool : mg "bool" = none
  m_tuple : mg "tuple" = none
  m_ValueError : mg "ValueError" = none
  g_TURNS : mg "TURNS" = some (.ref (He.ga K "TURNS"))
  t_TURNS : ∀ H, SqT K H (He.ga K "TURNS") [.str "f", .str "b", .str "i"]
  v_COLOURS : ∃ t, mg "COLOURS" = some (.str "abcdefghijklmnopqrstuvwxyz" t)
  v_FIGURES : ∃ t, mg "FIGURES" = some (.str "0123456789" t)
  v_MOST_FIGURES : ∃ t, mg "MOST_FIGURES" = some (.int 9 t)
  v_MOST_CARDS : ∃ t, mg "MOST_CARDS" = some (.int 8 t)
  d_is_colour : Dfn K mg "is_colour" s_is_colour
  d_made : Dfn K mg "made" s_made
  d_top : Dfn K mg "top" s_top
  d_bottom : Dfn K mg "bottom" s_bottom
  d_advance : Dfn K mg "advance" s_advance
  d_twisting : Dfn K mg "twisting" s_twisting
  d_turned : Dfn K mg "turned" s_turned
  d_flipped : Dfn K mg "flipped" s_flipped
  d_slant_of : Dfn K mg "slant_of" s_slant_of
  d_place_of : Dfn K mg "place_of" s_place_of
  d_pick_of : Dfn K mg "pick_of" s_pick_of
  d_fits : Dfn K mg "fits" s_fits
  d_taken_by : Dfn K mg "taken_by" s_taken_by
  d_Stage_init : Dmk K mg "Stage" s_Stage_init
  d_first_stage : Dfn K mg "first_stage" s_first_stage
  d_twisted : Dfn K mg "twisted" s_twisted
  d_drawn_off : Dfn K mg "drawn_off" s_drawn_off
  d_stage_behind : Dfn K mg "stage_behind" s_stage_behind
  d_stage_flipped : Dfn K mg "stage_flipped" s_stage_flipped
  d_Loom_init : Dmk K mg "Loom" s_Loom_init
  d_Loom_put_deed : Dmt K "Loom" "put_deed" s_Loom_put_deed
  d_Loom_weave : Dmt K "Loom" "weave" s_Loom_weave
  d_Loom_flip : Dmt K "Loom" "flip" s_Loom_flip
  d_Loom_tablets : Dmt K "Loom" "tablets" s_Loom_tablets
  d_Loom_band : Dmt K "Loom" "band" s_Loom_band
  d_Loom_deeds : Dmt K "Loom" "deeds" s_Loom_deeds
  d_Loom_twist : Dmt K "Loom" "twist" s_Loom_twist
  d_Loom_peak : Dmt K "Loom" "peak" s_Loom_peak
  d_Loom_rest : Dmt K "Loom" "rest" s_Loom_rest
  d_told : Dfn K mg "told" s_told
  d_number_of : Dfn K mg "number_of" s_number_of
  d_begun : Dfn K mg "begun" s_begun
  d_read_spools : Dfn K mg "read_spools" s_read_spools
  d_read_tablet : Dfn K mg "read_tablet" s_read_tablet
  d_read_draft : Dfn K mg "read_draft" s_read_draft
  d_do_line : Dfn K mg "do_line" s_do_line
  d_brought : Dfn K mg "brought" s_brought
  d_l_row : Dfn K mg "_law_row" s_l_row
  d_l_holes : Dfn K mg "_law_holes" s_l_holes
  d_l_card : Dfn K mg "_law_card" s_l_card
  d_l_at : Dfn K mg "_law_at" s_l_at
  d_l_draft : Dfn K mg "_law_draft" s_l_draft
  d_l_spools : Dfn K mg "_law_spools" s_l_spools
  d_l_most : Dfn K mg "_law_most" s_l_most
  d_l_begin : Dfn K mg "_law_begin" s_l_begin
  d_l_loom_parts : Dfn K mg "_law_loom_parts" s_l_loom_parts
  d_l_turns : Dfn K mg "_law_turns" s_l_turns
  d_l_sign : Dfn K mg "_law_sign" s_l_sign
  d_l_spoil : Dfn K mg "_law_spoil" s_l_spoil
  d_l_rowtext : Dfn K mg "_law_rowtext" s_l_rowtext
  d_l_go : Dfn K mg "_law_go" s_l_go
  d_l_behind : Dfn K mg "_law_behind" s_l_behind
  d_l_twist : Dfn K mg "_law_twist" s_l_twist
  d_l_after : Dfn K mg "_law_after" s_l_after
  d_l_turnover : Dfn K mg "_law_turnover" s_l_turnover
  d_l_pick : Dfn K mg "_law_pick" s_l_pick
  d_l_same : Dfn K mg "_law_same" s_l_same
  d_l_stands : Dfn K mg "_law_stands" s_l_stands
  d_l_lines : Dfn K mg "_law_lines" s_l_lines
  d_l_kinds : Dfn K mg "_law_kinds" s_l_kinds
  d_l_number : Dfn K mg "_law_number" s_l_number
  d_l_head : Dfn K mg "_law_head" s_l_head
  d_l_line : Dfn K mg "_law_line" s_l_line
  d_l_read : Dfn K mg "_law_read" s_l_read
  d_l_built : Dfn K mg "_law_built" s_l_built
  d_l_tried : Dfn K mg "_law_tried" s_l_tried
  d_law : Dfn K mg "law" s_law
  c_Stage : Cls K (He.ga K "Stage")
  a_cards : NoAttr K (He.ga K "Stage") "cards"
  a_turned_by : NoAttr K (He.ga K "Stage") "turned_by"
  a_farthest : NoAttr K (He.ga K "Stage") "farthest"
  a_lengths : NoAttr K (He.ga K "Stage") "lengths"
  c_Loom : Cls K (He.ga K "Loom")
  a_draft : NoAttr K (He.ga K "Loom") "draft"
  a_most : NoAttr K (He.ga K "Loom") "most"
  a_spools : NoAttr K (He.ga K "Loom") "spools"
  a_stages : NoAttr K (He.ga K "Loom") "stages"
  a_done : NoAttr K (He.ga K "Loom") "done"
  a_undone : NoAttr K (He.ga K "Loom") "undone"
  e_BadTablet : Dex K mg "BadTablet"
  e_BadRow : Dex K mg "BadRow"
  e_BadText : Dex K mg "BadText"
  e_TooTight : Dex K mg "TooTight"
  e_SpoolDry : Dex K mg "SpoolDry"
  e_NoTablet : Dex K mg "NoTablet"
  kt : ∀ y ∈ kinds, PySem.W.kitOne K (.ref (He.ga K "BadText")) (.ref (He.ga K y)) = some (decide (y = "BadText" ∨ y = "BandError")) ∧ mg y = some (.ref (He.ga K y))
  kv : PySem.W.kitOne K (.ref (He.ga K "BadText")) (.type "ValueError") = some true
  eb : ExcC K (He.ga K "BadText")
  ex : ∀ x ∈ five, ∀ y ∈ five, PySem.W.exmOne K (.ref (He.ga K x)) (.ref (He.ga K y)) = some (decide (x = y))
  ey : ∀ y ∈ five, PySem.W.exmOne K (.ref (He.ga K "BadText")) (.ref (He.ga K y)) = some false
  ez : PySem.W.exmOne K (.ref (He.ga K "BadText")) (.ref (He.ga K "BandError")) = some true
/-! ### calls by bundles -/
section
variable {P : Program} {w : World} {K : PySem.W.Frag} {mg : Str → Option Value} {base : Heap}
def Has (P : Program) (w : World) (K : PySem.W.Frag) (mg : Str → Option Value) (base : Heap) (CX : CXT) (k : Nat) (x : Str) (ps : List Str) (sp : Sp) : Prop :=
  ∃ f fd, FnOk P w K mg base CX k f fd ps sp ∧ mg x = some (.ref f) ∧ PySem.W.keepIn K (.ref f) = true ∧ Binds K fd ps []
def HasM (P : Program) (w : World) (K : PySem.W.Frag) (mg : Str → Option Value) (base : Heap) (CX : CXT) (k : Nat) (C m : Str) (ps : List Str) (sp : Sp) : Prop :=
  ∃ f fd, Cls K (He.ga K C) ∧ Meth K (He.ga K C) m f ∧ FnOk P w K mg base CX k f fd ps sp ∧ Binds K fd ps []
def HasK (P : Program) (w : World) (K : PySem.W.Frag) (mg : Str → Option Value) (base : Heap) (CX : CXT) (k : Nat) (C : Str) (ps : List Str) (sp : Sp) : Prop :=
  ∃ f fd, Mk K (He.ga K C) f ∧ FnOk P w K mg base CX k f fd ps sp ∧ mg C = some (.ref (He.ga K C)) ∧ Binds K fd ps []
theorem Dfn.has {CX : CXT} {x : Str} {st : Stmt} {N ps : List Str} {k : Nat} {sp : Sp} (d : Dfn K mg x st) (S : FnScope N ps (defScope st)) (len : ∀ vs H Q E, sp vs H Q E → vs.length = ps.length)
    (hbody : ∀ (f : Addr) (cdv : Value) (A : Around) (outer : List Env) (s : Shared) (H : Hp) (vs : List V) (Q : VK) (E : XK), Room k (A.deeper (envOfC x (defScope st) s.heap.objs.size f cdv)) → sp vs H Q E →
      ∃ t, PSs (cxOf CX P w K mg base N x (defScope st) f cdv A outer s H E) (defBody st) t ∧ t { nx := fun _ H' => Q .non H', rt := Q } (start N vs) H)
    (hb : ∀ (kV doc pm : Value) (an : Option Addr) (cdv ct : Value) (us : List Value), us.length = ps.length → bindArgs (PySem.W.fnOf x x (defArgs st) (defBody st) (defScope st) .none kV doc pm an cdv ct) ⟨us, []⟩ = pure (ps.zip us) := by
      intro _ _ _ _ _ _ us hl
      first
        | exact match us, hl with | [_], _ => rfl
        | exact match us, hl with | [_, _], _ => rfl
        | exact match us, hl with | [_, _, _], _ => rfl
        | exact match us, hl with | [_, _, _, _], _ => rfl) : Has P w K mg base CX (k + 1) x ps sp := by
  obtain ⟨⟨fd, F⟩, g⟩ := d
  exact ⟨_, fd, F.ok S len (hbody _), g, F.kp, F.bindsN hb⟩
theorem Dmt.has {CX : CXT} {C m : Str} {st : Stmt} {N ps : List Str} {k : Nat} {sp : Sp} (d : Dmt K C m st) (cl : Cls K (He.ga K C)) (S : FnScope N ps (defScope st)) (len : ∀ vs H Q E, sp vs H Q E → vs.length = ps.length)
    (hbody : ∀ (f : Addr) (cdv : Value) (A : Around) (outer : List Env) (s : Shared) (H : Hp) (vs : List V) (Q : VK) (E : XK), Room k (A.deeper (envOfC (C ++ "." ++ m) (defScope st) s.heap.objs.size f cdv)) → sp vs H Q E →
      ∃ t, PSs (cxOf CX P w K mg base N (C ++ "." ++ m) (defScope st) f cdv A outer s H E) (defBody st) t ∧ t { nx := fun _ H' => Q .non H', rt := Q } (start N vs) H)
    (hb : ∀ (kV doc pm : Value) (an : Option Addr) (cdv ct : Value) (us : List Value), us.length = ps.length → bindArgs (PySem.W.fnOf m (C ++ "." ++ m) (defArgs st) (defBody st) (defScope st) .none kV doc pm an cdv ct) ⟨us, []⟩ = pure (ps.zip us) := by
      intro _ _ _ _ _ _ us hl
      first
        | exact match us, hl with | [_], _ => rfl
        | exact match us, hl with | [_, _], _ => rfl
        | exact match us, hl with | [_, _, _], _ => rfl
        | exact match us, hl with | [_, _, _, _], _ => rfl) : HasM P w K mg base CX (k + 1) C m ps sp := by
  obtain ⟨⟨fd, F⟩, g⟩ := d
  exact ⟨_, fd, cl, g, F.ok S len (hbody _), F.bindsN hb⟩
theorem Dmk.has {CX : CXT} {C : Str} {st : Stmt} {N ps : List Str} {k : Nat} {sp : Sp} (d : Dmk K mg C st) (S : FnScope N ps (defScope st)) (len : ∀ vs H Q E, sp vs H Q E → vs.length = ps.length)
    (hbody : ∀ (f : Addr) (cdv : Value) (A : Around) (outer : List Env) (s : Shared) (H : Hp) (vs : List V) (Q : VK) (E : XK), Room k (A.deeper (envOfC (C ++ ".__init__") (defScope st) s.heap.objs.size f cdv)) → sp vs H Q E →
      ∃ t, PSs (cxOf CX P w K mg base N (C ++ ".__init__") (defScope st) f cdv A outer s H E) (defBody st) t ∧ t { nx := fun _ H' => Q .non H', rt := Q } (start N vs) H)
    (hb : ∀ (kV doc pm : Value) (an : Option Addr) (cdv ct : Value) (us : List Value), us.length = ps.length → bindArgs (PySem.W.fnOf "__init__" (C ++ ".__init__") (defArgs st) (defBody st) (defScope st) .none kV doc pm an cdv ct) ⟨us, []⟩ = pure (ps.zip us) := by
      intro _ _ _ _ _ _ us hl
      first
        | exact match us, hl with | [_, _, _, _], _ => rfl
        | exact match us, hl with | [_, _, _, _, _], _ => rfl) : HasK P w K mg base CX (k + 1) C ps sp := by
  obtain ⟨⟨fd, F⟩, g, gm⟩ := d
  exact ⟨_, fd, g, F.ok S len (hbody _), gm, F.bindsN hb⟩
end
section
variable {X : Cx} {CX : CXT} {k : Nat} {x C m : Str} {ps : List Str} {sp : Sp} {E : XK} {e o : Expr} {es : List Expr} {p pos apos : Pos} {t : TA} {ta : TE}
theorem pe_has (F : Has X.prog X.w X.K X.mg X.base CX k x ps sp) (hr : Room k X.A) (hg : Gl X x) (hx : Passes CX X E)
    (ha : PA X (e :: es) t) (hdb : (x == ("__debug__" : Str)) = false := by decide) (he : starEach (e :: es) X.env = (false, eval e X.env) :: starEach es X.env := by rfl) (hpl : (backTo pos (starEach es X.env)).any (·.1) = false := by rfl) :
    PE X (.Call (.Name x p) (e :: es) [] pos) (tCall sp [] E t) := by
  obtain ⟨f, fd, F, g, kp, b⟩ := F
  exact pe_call F hr hg g kp b .nil hx ha hdb he hpl
theorem pe_hasM {pl : Sem Bool} (F : HasM X.prog X.w X.K X.mg X.base CX k C m ps sp) (hr : Room k X.A) (hx : Passes CX X E) (ho : PE X o ta) (ha : PA X (e :: es) t)
    (hst : starEach (e :: es) X.env = (false, eval e X.env) :: starEach es X.env := by rfl) (hpl : (backTo pos (starEach es X.env)).any (·.1) = false := by rfl)
    (ht : eval (.Call (.Attribute o m apos) (e :: es) [] pos) X.env = (do
      let ov ← eval o X.env
      standAt apos.atName
      let (f, first) ← holding [ov] (getMethod ov m pl)
      callWith pos f first (backTo pos (starEach (e :: es) X.env)) (backToKw pos (keywordEach [] X.env))) := by rfl) :
    PE X (.Call (.Attribute o m apos) (e :: es) [] pos) (tMeth (He.ga X.K C) m sp [] E ta t) := by
  obtain ⟨f, fd, c, g, F, b⟩ := F
  exact pe_meth ho c g F hr b .nil hx ha hst hpl ht
theorem pe_hasM0 {pl : Sem Bool} (F : HasM X.prog X.w X.K X.mg X.base CX k C m ps sp) (hr : Room k X.A) (hx : Passes CX X E) (ho : PE X o ta)
    (ht : eval (.Call (.Attribute o m apos) [] [] pos) X.env = (do
      let ov ← eval o X.env
      standAt apos.atName
      let (f, first) ← holding [ov] (getMethod ov m pl)
      callWith pos f first (backTo pos (starEach [] X.env)) (backToKw pos (keywordEach [] X.env))) := by rfl) :
    PE X (.Call (.Attribute o m apos) [] [] pos) (tMeth (He.ga X.K C) m sp [] E ta tNil) := by
  obtain ⟨f, fd, c, g, F, b⟩ := F
  exact pe_meth0 ho c g F hr b .nil hx ht
theorem pe_mk (F : HasK X.prog X.w X.K X.mg X.base CX k x ps sp) (hr : Room (k + 1) X.A) (hg : Gl X x) (hx : Passes CX X E)
    (ha : PA X (e :: es) t) (hdb : (x == ("__debug__" : Str)) = false := by decide) (he : starEach (e :: es) X.env = (false, eval e X.env) :: starEach es X.env := by rfl) (hpl : (backTo pos (starEach es X.env)).any (·.1) = false := by rfl) :
    PE X (.Call (.Name x p) (e :: es) [] pos) (tMake (He.ga X.K x) sp [] E t) := by
  obtain ⟨f, fd, M, F, g, b⟩ := F
  exact pe_make M F hr hg g b .nil hx ha hdb he hpl
end
theorem pm_own {X : Cx} {x m : Str} {j : Nat} {p p2 pos : Pos} (d : Dex X.K X.mg x) (hg : Gl X x) (hdb : (x == ("__debug__" : Str)) = false := by decide) :
    L2N.PMk X (.Call (.Name x p) [.Constant (.str m) j p2] [] pos) (fun _ H Q => Q (.ref (He.ga X.K x)) none H) :=
  L2N.pmk_own PySem.F.excBase_ValueError d.2.1 d.1 d.2.2.1 (raises_own d.2.2.2.1 d.2.2.2.2) hg hdb
theorem pm5_own {X : Cx} {x m : Str} {j : Nat} {p p2 pos : Pos} (d : Dex X.K X.mg x) (hg : Gl X x) (hdb : (x == ("__debug__" : Str)) = false := by decide) :
    L2H.PMk5 X (.Call (.Name x p) [.Constant (.str m) j p2] [] pos) (fun _ H Q => Q (.ref (He.ga X.K x)) none H) := by
  intro pins s σ H Q I h
  refine wpAny_Call_Name_kw (ld_glob I hg d.1 ?_ hdb)
  have hp : PA X [.Constant (.str m) j p2] (tCons (tC (.str m)) tNil) := pa_cons pe_str pa_nil
  refine PySem.W.callWith_K (h₀ := X.base) I.ok.mod.kin d.2.2.1 (thn (hp.run pos pins s σ H (fun vs H1 => vs = [V.str m] ∧ H = H1) I ⟨rfl, rfl⟩) fun us s1 ⟨vs, H1, I1, r1, ev, eH⟩ => ?_)
  subst ev
  subst eH
  refine ⟨I1.kIn, ?_⟩
  cases r1 with
  | cons ru rn =>
    cases rn
    show wpAny _ _ (call (.ref (He.ga X.K x)) [_]) _ _ _
    obtain ⟨bm, N, nm, qn, bs, hdct, sn, sub, ab, col, dd, k0, k1, k2, k3, k5, mN, hC, hN, hni, T⟩ := exc_obj I1.kIn d.2.1
    exact wpAny_call_exc_subT PySem.F.excBase_ValueError T hC hN hni (fun h' e hm => L2H.mk_of5 I1 hm (raises_own d.2.2.2.1 d.2.2.2.2) h (I1.hok.gone hm.new)) (by show 1 ≤ sizeLine; rw [sizeLine_eq]; omega)
theorem te_own {X : Cx} {K : PySem.W.Frag} {x : Str} {e : Expr} (hK : X.K = K) (h : L2N.PMk X e (fun _ H Q => Q (.ref (He.ga X.K x)) none H)) : L2N.PMk X e (fun _ H Q => Q (.ref (He.ga K x)) none H) := by
  subst hK
  exact h
theorem nm_of {X : Cx} {x : Str} (d : Dex X.K X.mg x) (hg : Gl X x) (hdb : (x == ("__debug__" : Str)) = false := by decide) : Names X x (.ref (He.ga X.K x)) := ⟨hg, hdb, .inl d.1⟩
section
variable {X : Cx} {CX : CXT} {k : Nat} {x C m : Str} {ps : List Str} {sp : Sp} {E : L2.St → XK} {e o : Expr} {es : List Expr} {p pos apos : Pos} {t : TA} {ta : TE}
theorem pe_hasS (F : Has X.prog X.w X.K X.mg X.base CX k x ps sp) (hr : Room k X.A) (hg : Gl X x) (hx : ∀ σ, PassesAt CX X σ (E σ))
    (ha : PA X (e :: es) t) (hdb : (x == ("__debug__" : Str)) = false := by decide) (he : starEach (e :: es) X.env = (false, eval e X.env) :: starEach es X.env := by rfl) (hpl : (backTo pos (starEach es X.env)).any (·.1) = false := by rfl) :
    PE X (.Call (.Name x p) (e :: es) [] pos) (tCallS sp E t) := by
  obtain ⟨f, fd, F, g, kp, b⟩ := F
  exact pe_callS F hr hg g kp b hx ha hdb he hpl
/-- o.m(e), whose exceptions are wanted by the slots -/
def tMethW (C : Addr) (m : Str) (sp : Sp) (E : L2.St → XK) (ta : TE) (t : TA) : TE := fun σ H Q => ta σ H fun x H1 => ∃ a dx fs, x = .ref a ∧ H1 a = some (.ins C dx fs) ∧ fs.lookup m = none ∧
  t σ H1 fun vs H2 => sp (x :: vs) H2 Q (E σ)
theorem pe_hasMS {pl : Sem Bool} {K : PySem.W.Frag} (hK : X.K = K) (F : HasM X.prog X.w X.K X.mg X.base CX k C m ps sp) (hr : Room k X.A) (hx : ∀ σ, PassesAt CX X σ (E σ)) (ho : PE X o ta) (ha : PA X (e :: es) t)
    (hst : starEach (e :: es) X.env = (false, eval e X.env) :: starEach es X.env := by rfl) (hpl : (backTo pos (starEach es X.env)).any (·.1) = false := by rfl)
    (ht : eval (.Call (.Attribute o m apos) (e :: es) [] pos) X.env = (do
      let ov ← eval o X.env
      standAt apos.atName
      let (f, first) ← holding [ov] (getMethod ov m pl)
      callWith pos f first (backTo pos (starEach (e :: es) X.env)) (backToKw pos (keywordEach [] X.env))) := by rfl) :
    PE X (.Call (.Attribute o m apos) (e :: es) [] pos) (tMethW (He.ga K C) m sp E ta t) := by
  subst hK
  obtain ⟨f, fd, c, g, F, b⟩ := F
  refine ⟨fun pins s σ H Q I h => ?_⟩
  refine PySem.W.methodCall_KW (pl := pl) (thn (ho.run pins s σ H _ I h) fun u s1 ⟨x, H1, I1, rx, q, dx, fs, ex, eq, l, hq⟩ => ?_) ht
  subst ex
  cases (show u = Value.ref q from rx)
  refine getmeth_ok I1 eq c g l ?_
  refine PySem.W.callWith_K (first := [.ref q]) (h₀ := X.base) I.ok.mod.kin g.kp (thn (ha.run pos pins s1 σ H1 _ I1 hq) fun us s2 ⟨vs, H2, I2, r, h2⟩ => ⟨I2.kIn, ?_⟩) hst hpl
  exact run_fnS (us := .ref q :: us) (vs := .ref q :: vs) F hr b (hx σ) I2 (.cons rfl r) h2
end
theorem mt_indexF {X : Cx} : MtR X "str.index" (fun x xs H Q => ∃ (a b : Str) (k : Nat), x = .str a ∧ xs = [.str b] ∧ Txt.index0 a b = some k ∧ Q (.int (k : Nat)) H) := by
  intro pins s σ H x xs v us Q I rx rs h
  obtain ⟨a, b, k, rfl, rfl, hk, hq⟩ := h
  obtain ⟨t, rfl⟩ := rx
  cases rs with
  | cons r1 rs =>
    cases rs
    obtain ⟨u, rfl⟩ := r1
    cases q : Builtin.Str.occurrences a b 0 a.length 1 with
    | nil => unfold Txt.index0 at hk; rw [q] at hk; cases hk
    | cons j rest =>
      have e : some j = some k := by
        rw [← hk]
        unfold Txt.index0
        rw [q] <;> rfl
      cases e
      exact PySem.SC.index q ⟨.int (k : Nat), H, I.tok _, ⟨_, rfl⟩, hq⟩
theorem call_str_n {X : Cx} : CallR X (.type "str") (fun xs H Q => (∃ i, xs = [.int i] ∧ i.natAbs.log2 < 1920 ∧ Q (.str (toString i)) H) ∨ ∃ a, xs = [.str a] ∧ Q (.str a) H) := by
  intro pins s σ H xs us Q I r h
  rcases h with h | h
  · exact call_str_int pins s σ H xs us Q I r h
  · exact SkE.call_str_str pins s σ H xs us Q I r h
/-- a text of one sign, some times -/
theorem op_repS {X : Cx} : OpR X (binaryOp .Mult) (fun x y H Q => ∃ (c : Nat) (n : Nat), x = .str ⟨#[c]⟩ ∧ y = .int (n : Nat) ∧ n ≤ 1000 ∧ ∀ z : Str, z.cps.size = n → (∀ d ∈ z.cps.toList, d = c) → Q (.str z) H) := by
  intro pins s σ H x y v u Q I rx ry ⟨c, n, ex, ey, hn, q⟩
  subst ex ey
  obtain ⟨t, rfl⟩ := rx
  obtain ⟨t', rfl⟩ := ry
  have hlen : (⟨#[c]⟩ : Str).length = 1 := rfl
  have e0 : (⟨#[c]⟩ : Str).cps = #[c] := rfl
  refine P.mul_str ?_ (fun h1 h2 => ?_) (fun h1 h2 => ?_) ?_
  · have h1 : ¬ ((n : Int) < -(2 ^ 63 : Int)) := by omega
    have h2 : ¬ ((n : Int) ≥ 2 ^ 63) := by omega
    rw [decide_eq_false h1, decide_eq_false h2]; rfl
  · rw [hlen]
    have h3 : (0 : Int) < n := by omega
    have h4 : (1 : Int) ≤ (2 ^ 63 - 1) / (n : Int) := by
      rw [Int.le_ediv_iff_mul_le h3]
      omega
    have : ((1 : Nat) : Int) = 1 := rfl
    omega
  · rw [hlen]
    simp only [Builtin.Str.tooLong, decide_eq_false_iff_not]
    rw [sizeLine_eq]
    simp
    omega
  · by_cases h0 : (n : Int) < 1
    · rw [if_pos h0]
      have hn0 : n = 0 := by omega
      subst hn0
      exact ⟨by decide, .str Str.empty, H, I.tok _, ⟨_, rfl⟩, q Str.empty rfl (fun d hd => by simp [Str.empty] at hd)⟩
    · rw [if_neg h0]
      by_cases h1 : ((n : Int) == 1 || (⟨#[c]⟩ : Str).length == 0) = true
      · rw [if_pos h1]
        have hn1 : n = 1 := by
          rcases (Bool.or_eq_true _ _).mp h1 with z | z
          · have := eq_of_beq z
            omega
          · rw [hlen] at z; exact absurd z (by decide)
        subst hn1
        exact ⟨.str ⟨#[c]⟩, H, I, ⟨_, rfl⟩, q ⟨#[c]⟩ rfl (fun d hd => by simpa using hd)⟩
      · rw [if_neg h1]
        have key : ∀ (m : Nat) (acc : Array Nat), ((List.replicate m (#[c] : Array Nat)).foldl (· ++ ·) acc).toList = acc.toList ++ List.replicate m c := by
          intro m
          induction m with
          | zero => intro acc; simp
          | succ m ih =>
            intro acc
            rw [List.replicate_succ, List.foldl_cons, ih, List.replicate_succ]
            simp
        have kk := key n #[]
        simp only [List.nil_append, Int.toNat_natCast] at kk ⊢
        refine ⟨?_, .str ⟨(List.replicate n (#[c] : Array Nat)).foldl (· ++ ·) #[]⟩, H, I.tok _, ⟨_, rfl⟩, q ⟨_⟩ ?_ ?_⟩
        · have k2 : ((List.replicate n (#[c] : Array Nat)).foldl (· ++ ·) #[]).size = n := by rw [← Array.length_toList, kk]; simp
          show (⟨(List.replicate n (#[c] : Array Nat)).foldl (· ++ ·) #[]⟩ : Str).cps.size ≤ sizeLine
          rw [sizeLine_eq]
          show ((List.replicate n (#[c] : Array Nat)).foldl (· ++ ·) #[]).size ≤ _
          omega
        · rw [← Array.length_toList]
          show ((List.replicate n (#[c] : Array Nat)).foldl (· ++ ·) #[]).toList.length = n
          rw [kk]
          simp
        · intro d hd
          have hd' : d ∈ ((List.replicate n (#[c] : Array Nat)).foldl (· ++ ·) #[]).toList := hd
          rw [kk] at hd'
          simp at hd'
          exact hd'.2
end Wb

/-! Wb: heaps without one address, data at addresses. -/
namespace Wb
open PySem PySem.Spec PyProof.Rows L2
/-- H without what stands at D -/
def wo (H : Hp) (D : Addr) : Hp := fun b => if b = D then none else H b
section
variable {K : PySem.W.Frag} {H H' H0 : Hp} {D p a : Addr} {o : HO}
theorem wo_none : wo H D D = none := if_pos rfl
theorem wo_ne (h : p ≠ D) : wo H D p = H p := if_neg h
theorem same_wo : Same (wo H D) H := fun b o e => by
  unfold wo at e
  split at e
  · cases e
  · exact e
theorem same_wos (e : Same H H') : Same (wo H D) (wo H' D) := fun b o q => by
  unfold wo at q ⊢
  split at q
  · cases q
  · rename_i h
    rw [if_neg h]
    exact e b o q
theorem wo_upd : wo (upd H D o) D = wo H D := by
  funext b
  unfold wo upd
  split <;> rfl
theorem wo_updne (h : p ≠ D) : wo (upd H p o) D = upd (wo H D) p o := by
  funext b
  by_cases e : b = D
  · subst e
    have h2 : ¬ b = p := fun z => h z.symm
    simp [wo, upd, h2]
  · by_cases e2 : b = p
    · simp [wo, upd, e2, h]
    · simp [wo, upd, e, e2]
theorem same_into (e : Same H0 H) (h : H0 D = none) : Same H0 (wo H D) := fun b o q => by
  rw [wo_ne (ne_of_none q h)]
  exact e b o q
theorem same_new (h : H p = none) : Same H (upd H p o) := fun b u q => by
  rw [upd_ne (ne_of_none q h)]
  exact q
theorem same_put (e : Same H0 H) (h : H0 p = none) : Same H0 (upd H p o) := fun b u q => by
  rw [upd_ne (ne_of_none q h)]
  exact e b u q
theorem same_seqT {xs : List V} (e : Same H H') (h : SqT K H a xs) : SqT K H' a xs := by
  rcases h with (h | ⟨o, h⟩) | h
  · exact .inl (.inl (e _ _ h))
  · exact .inl (.inr ⟨o, e _ _ h⟩)
  · exact .inr h
mutual
theorem dp_mono (e : Same H H') : ∀ (d : PyData) (v : V), Dp K H v d → Dp K H' v d
  | .none, _, h => by cases h; exact .non
  | .bool b, _, h => by cases h; exact .bl b
  | .int i, _, h => by cases h; exact .int i
  | .str z, _, h => by cases h; exact .str z
  | .list ds, _, h => by
    cases h with
    | lst s h => exact .lst (e.seq s) (dpA_mono e ds _ h)
  | .tuple ds, _, h => by
    cases h with
    | tup s h => exact .tup (same_seqT e s) (dpA_mono e ds _ h)
  | .dict kvs, _, h => nomatch h
theorem dpA_mono (e : Same H H') : ∀ (ds : List PyData) (vs : List V), DpAll K H vs ds → DpAll K H' vs ds
  | [], _, h => by cases h; exact .nil
  | d :: ds, _, h => by
    cases h with
    | cons h t => exact .cons (dp_mono e d _ h) (dpA_mono e ds _ t)
end
theorem dp_str {v : V} {z : Str} (h : Dp K H v (.str z)) : v = .str z := by cases h; rfl
theorem dp_int {v : V} {z : Int} (h : Dp K H v (.int z)) : v = .int z := by cases h; rfl
theorem dp_tup {v : V} {ds : List PyData} (h : Dp K H v (.tuple ds)) : ∃ a xs, v = .ref a ∧ SqT K H a xs ∧ DpAll K H xs ds := by
  cases h with
  | tup s h => exact ⟨_, _, rfl, s, h⟩
theorem dp_lst {v : V} {ds : List PyData} (h : Dp K H v (.list ds)) : ∃ a xs, v = .ref a ∧ SqL K H a xs ∧ DpAll K H xs ds := by
  cases h with
  | lst s h => exact ⟨_, _, rfl, s, h⟩
theorem dpA_len {vs : List V} {ds : List PyData} (h : DpAll K H vs ds) : vs.length = ds.length := by
  induction ds generalizing vs with
  | nil => cases h; rfl
  | cons d ds ih =>
    cases h with
    | cons h t => simp [ih t]
theorem dpA_get {vs : List V} {ds : List PyData} (h : DpAll K H vs ds) {i : Nat} {v : V} (e : vs[i]? = some v) : ∃ d, ds[i]? = some d ∧ Dp K H v d := by
  induction ds generalizing vs i with
  | nil => cases h; simp at e
  | cons d ds ih =>
    cases h with
    | cons h t =>
      cases i with
      | zero =>
        have e' : _ = v := Option.some.inj e
        subst e'
        exact ⟨d, rfl, h⟩
      | succ i => exact ih t (by simpa using e)
theorem dpA_at {vs : List V} {ds : List PyData} (h : DpAll K H vs ds) {i : Nat} {d : PyData} (e : ds[i]? = some d) : ∃ v, vs[i]? = some v ∧ Dp K H v d := by
  have hl := dpA_len h
  have hi : i < vs.length := by rw [hl]; exact (List.getElem?_eq_some_iff.mp e).1
  obtain ⟨d', e', q⟩ := dpA_get h (List.getElem?_eq_getElem hi)
  rw [e] at e'
  cases e'
  exact ⟨_, List.getElem?_eq_getElem hi, q⟩
theorem dpA_app {vs us : List V} {ds es : List PyData} (h : DpAll K H vs ds) (g : DpAll K H us es) : DpAll K H (vs ++ us) (ds ++ es) := by
  induction ds generalizing vs with
  | nil => cases h; exact g
  | cons d ds ih =>
    cases h with
    | cons h t => exact .cons h (ih t)
theorem dpA_ints {vs : List V} {ns : List Int} (h : DpAll K H vs (ns.map .int)) : vs = ns.map V.int := by
  induction ns generalizing vs with
  | nil => cases h; rfl
  | cons n ns ih =>
    cases h with
    | cons h t => cases h; rw [ih t]; rfl
theorem dpA_ofInts {ns : List Int} : DpAll K H (ns.map V.int) (ns.map .int) := by
  induction ns with
  | nil => exact .nil
  | cons n ns ih => exact .cons (.int n) ih
theorem dpA_strs {vs : List V} {ns : List Str} (h : DpAll K H vs (ns.map .str)) : vs = ns.map V.str := by
  induction ns generalizing vs with
  | nil => cases h; rfl
  | cons n ns ih =>
    cases h with
    | cons h t => cases h; rw [ih t]; rfl
theorem dpA_ofStrs {ns : List Str} : DpAll K H (ns.map V.str) (ns.map .str) := by
  induction ns with
  | nil => exact .nil
  | cons n ns ih => exact .cons (.str n) ih
theorem dp_strs {v : V} {ns : List Str} (h : Dp K H v (.list (ns.map .str))) : ∃ a, v = .ref a ∧ SqL K H a (ns.map V.str) := by
  obtain ⟨a, xs, e, s, h⟩ := dp_lst h
  rw [dpA_strs h] at s
  exact ⟨a, e, s⟩
theorem dp_ints {v : V} {ns : List Int} (h : Dp K H v (.list (ns.map .int))) : ∃ a, v = .ref a ∧ SqL K H a (ns.map V.int) := by
  obtain ⟨a, xs, e, s, h⟩ := dp_lst h
  rw [dpA_ints h] at s
  exact ⟨a, e, s⟩
/-- neither list nor tuple -/
def flatD : PyData → Bool
  | .none => true
  | .bool _ => true
  | .int _ => true
  | .str _ => true
  | _ => false
theorem dp_flat {v : V} {d : PyData} (f : flatD d = true) (h : Dp K H v d) : Dp K H0 v d := by
  cases h with
  | non => exact .non
  | bl b => exact .bl b
  | int i => exact .int i
  | str z => exact .str z
  | lst s h => cases f
  | tup s h => cases f
theorem dpA_flat {vs : List V} {ds : List PyData} (f : ∀ d ∈ ds, flatD d = true) (h : DpAll K H vs ds) : DpAll K H0 vs ds := by
  induction ds generalizing vs with
  | nil => cases h; exact .nil
  | cons d ds ih =>
    cases h with
    | cons h t => exact .cons (dp_flat (f d List.mem_cons_self) h) (ih (fun d' m => f d' (List.mem_cons_of_mem _ m)) t)
/-- a flat tuple doesn't lie at a tracked list's place -/
theorem dp_tupW {v : V} {ds : List PyData} {acc : List V} (hD : H D = some (.lst acc)) (f : ∀ d ∈ ds, flatD d = true) (h : Dp K H v (.tuple ds)) : Dp K (wo H D) v (.tuple ds) := by
  obtain ⟨a, xs, rfl, s, h⟩ := dp_tup h
  refine .tup ?_ (dpA_flat f h)
  rcases s with (s | ⟨o, s⟩) | s
  · exact .inl (.inl (by rw [wo_ne (ne_of s hD (fun z => nomatch z))]; exact s))
  · exact .inl (.inr ⟨o, by rw [wo_ne (ne_of s hD (fun z => nomatch z))]; exact s⟩)
  · exact .inr s
/-- at D a list of ds, whose parts don't lean on D -/
def Lof (K : PySem.W.Frag) (H : Hp) (D : Addr) (ds : List PyData) : Prop := ∃ acc, H D = some (.lst acc) ∧ DpAll K (wo H D) acc ds
theorem Lof.nil (h : H D = some (.lst [])) : Lof K H D [] := ⟨[], h, .nil⟩
theorem Lof.dp {ds : List PyData} (h : Lof K H D ds) : Dp K H (.ref D) (.list ds) := by
  obtain ⟨acc, e, q⟩ := h
  exact .lst (SqL.of e) (dpA_mono same_wo _ _ q)
theorem Lof.same {ds : List PyData} (h : Lof K H D ds) (e : Same H H') : Lof K H' D ds := by
  obtain ⟨acc, q, r⟩ := h
  exact ⟨acc, e _ _ q, dpA_mono (same_wos e) _ _ r⟩
theorem Lof.app {ds : List PyData} {acc : List V} {y : V} {d : PyData} (q : DpAll K (wo H D) acc ds) (h : Dp K (wo H D) y d) : Lof K (upd H D (.lst (acc ++ [y]))) D (ds ++ [d]) :=
  ⟨acc ++ [y], upd_same, by rw [wo_upd]; exact dpA_app q (.cons h .nil)⟩
theorem Lof.len {ds : List PyData} (h : Lof K H D ds) : ∃ acc, H D = some (.lst acc) ∧ acc.length = ds.length ∧ DpAll K (wo H D) acc ds := by
  obtain ⟨acc, e, q⟩ := h
  exact ⟨acc, e, dpA_len q, q⟩
end
/-! ### texts to whole numbers, by colour -/
abbrev Lens : Type := List (Str × Int)
def eL (l : Lens) : List (Key × V) := l.map fun p => (Sum.inr p.1, V.int p.2)
def gt (l : Lens) (k : Str) : Option Int := (l.find? fun p => decide (p.1 = k)).map (·.2)
def pt (l : Lens) (k : Str) (v : Int) : Lens := if (l.any fun p => decide (p.1 = k)) = true then l.map (fun p => if p.1 = k then (p.1, v) else p) else l ++ [(k, v)]
theorem valV_eL (l : Lens) (k : Str) : valV (eL l) (Sum.inr k) = (gt l k).map V.int := by
  induction l with
  | nil => rfl
  | cons p l ih =>
    unfold gt eL at *
    by_cases e : p.1 = k
    · rw [List.map_cons, valV_pos (by show Sum.inr p.1 = Sum.inr k; rw [e]), List.find?_cons]
      simp [e]
    · rw [List.map_cons, valV_neg (fun z => e (Sum.inr.inj z)), ih, List.find?_cons]
      simp [e]
theorem putK_eL (l : Lens) (k : Str) (v : Int) : putK (eL l) (Sum.inr k) (V.int v) = eL (pt l k v) := by
  have e1 : ((eL l).any fun kv => decide (kv.1 = Sum.inr k)) = l.any fun p => decide (p.1 = k) := by
    unfold eL
    rw [List.any_map]
    congr 1
    funext p
    show decide (Sum.inr p.1 = (Sum.inr k : Key)) = decide (p.1 = k)
    by_cases e : p.1 = k
    · simp [e]
    · simp [e]
  unfold putK pt
  rw [e1]
  split
  · unfold eL
    rw [List.map_map, List.map_map]
    apply List.map_congr_left
    intro p _
    show (if (Sum.inr p.1 : Key) = Sum.inr k then (Sum.inr p.1, V.int v) else (Sum.inr p.1, V.int p.2)) = _
    by_cases e : p.1 = k
    · simp [e]
    · rw [if_neg (fun z => e (Sum.inr.inj z))]
      simp [e]
  · unfold eL
    simp
theorem eL_len (l : Lens) : (eL l).length = l.length := List.length_map ..
theorem eL_keys (l : Lens) : (eL l).map (·.1) = (l.map (·.1)).map Sum.inr := by
  unfold eL
  rw [List.map_map, List.map_map]
  rfl
theorem pt_len (l : Lens) (k : Str) (v : Int) : (pt l k v).length ≤ l.length + 1 := by
  unfold pt
  split
  · rw [List.length_map]; omega
  · rw [List.length_append]; simp
end Wb

/-! Wb: what the defs compute, and their promises. -/
namespace Wb
open PySem PySem.Spec PyProof.Rows L2
/-! ### the plain side -/
abbrev Card : Type := Str × Str × Int
def sg (c : Nat) : Str := ⟨#[c]⟩
def low (c : Nat) : Bool := decide (97 ≤ c ∧ c ≤ 122)
def isCol (z : Str) : Bool := decide (z.length = 1) && z.cps.toList.all low
def fbi (c : Nat) : Bool := decide (c = 102 ∨ c = 98 ∨ c = 105)
def adv (c : Nat) : Int := if c = 102 then 1 else if c = 98 then -1 else 0
def cTurned (t : Card) (c : Nat) : Card := (t.1, t.2.1, (t.2.2 + adv c) % 4)
def cTwist (t : Card) (c : Nat) : Int := if t.1 = "S" then adv c else 0 - adv c
def hole (z : Str) (i : Nat) : Str := sg (z.cps.toList.getD i 0)
def cFlip (t : Card) : Card := (if t.1 = "S" then "Z" else "S", hole t.2.1 0 ++ hole t.2.1 3 ++ hole t.2.1 2 ++ hole t.2.1 1, (4 - t.2.2) % 4)
def slant (t : Int) : Str := if t = 1 then "s" else if t = -1 then "z" else "o"
abbrev Pick : Type := Str × Str × Str
def cTop (t : Card) : Str := hole t.2.1 t.2.2.toNat
def cBot (t : Card) : Str := hole t.2.1 ((t.2.2 + 2) % 4).toNat
def place (t : Card) (c : Nat) : Pick := (cTop t, cBot t, slant (cTwist t c))
def madeP (lay holes : Str) (st : Int) : Bool := (decide (lay = "S") || decide (lay = "Z")) && (decide (holes.length = 4) && (holes.cps.toList.all low && decide (0 ≤ st ∧ st ≤ 3)))
def CardOk (t : Card) : Prop := madeP t.1 t.2.1 t.2.2 = true
def fitsP (z : Str) (n : Nat) : Bool := decide (z.length = n) && z.cps.toList.all fbi
def drw (cards : List Card) (row : List Nat) : List (Nat × Int) := (List.zipWith (fun (t : Card) c => t.2.1.cps.toList.map fun h => (h, if c = 105 then (1 : Int) else 2)) cards row).flatten
def takeOne (acc : Lens) (q : Nat × Int) : Lens := pt acc (sg q.1) ((gt acc (sg q.1)).getD 0 + q.2)
def takenP (cards : List Card) (row : List Nat) : Lens := (drw cards row).foldl takeOne []
def drawOne (b : Option Lens) (q : Str × Int) : Option Lens := b.bind fun l => if (gt l q.1).getD 0 < q.2 then none else some (pt l q.1 ((gt l q.1).getD 0 - q.2))
def drawnP (l : Lens) (t : Lens) : Option Lens := t.foldl drawOne (some l)
structure Sg where
  cards : List Card
  tw : List Int
  far : List Int
  left : Lens
def twP (s : Sg) (row : List Nat) : List Int := List.zipWith (· + ·) s.tw (List.zipWith cTwist s.cards row)
def absI (i : Int) : Int := if i < 0 then -i else i
def maxI (i j : Int) : Int := if j > i then j else i
def tight (most : Int) (l : List Int) : Bool := l.any fun t => decide (most < absI t)
def farP (far tw : List Int) : List Int := List.zipWith (fun f t => maxI f (absI t)) far tw
def turnP (cards : List Card) (row : List Nat) : List Card := List.zipWith cTurned cards row
def rowP (most : Int) (s : Sg) (z : Str) : Option Sg :=
  if fitsP z s.cards.length = true then
    if tight most (twP s z.cps.toList) = true then none
    else (drawnP s.left (takenP s.cards z.cps.toList)).map fun l => ⟨turnP s.cards z.cps.toList, twP s z.cps.toList, farP s.far (twP s z.cps.toList), l⟩
  else none
def flipP (s : Sg) (k : Nat) : Sg := ⟨s.cards.set k (cFlip (s.cards.getD k ("", "", 0))), s.tw, s.far, s.left⟩
def pickP (cards : List Card) (row : List Nat) : List Pick := List.zipWith place cards row
def st0 (cards : List Card) (sp : Lens) : Sg := ⟨cards, cards.map fun _ => 0, cards.map fun _ => 0, sp⟩
def digit (c : Nat) : Bool := decide (48 ≤ c ∧ c ≤ 57)
def numOk (z : Str) : Bool := !(decide (z.length = 0) || decide (9 < z.length) || (decide (z.cps.toList[0]? = some 48) && decide (1 < z.length))) && z.cps.toList.all digit
def num (z : Str) : Option Int := if numOk z = true then PySem.intText? z else none
inductive Deed where
  | row (z : Str)
  | flip (k : Nat)
structure Lm where
  draft : List Card
  most : Int
  spools : Lens
  done : List Deed
  sts : List Sg
def Lm.add (m : Lm) (d : Deed) (s : Sg) : Lm := { m with done := m.done ++ [d], sts := m.sts ++ [s] }
def ltS (a b : Str) : Bool := decide (a.cps.toList < b.cps.toList)
def spoolM : List Str → Str → Option (Str × Int)
  | [_, c, n], last => if isCol c = true ∧ ltS last c = true then (num n).map fun k => (c, k) else none
  | _, _ => none
def spoolsM : List (List Str) → Str → Lens → Option (Lens × List (List Str))
  | [], _, acc => some (acc, [])
  | w :: r, last, acc => if w.head? = some "spool" then (match spoolM w last with | some q => spoolsM r q.1 (pt acc q.1 q.2) | none => none) else some (acc, w :: r)
def tabletM : List Str → Option Card
  | [_, lay, holes, st] => (num st).bind fun n => if madeP lay holes n = true then some (lay, holes, n) else none
  | _ => none
def draftM : List (List Str) → List Card → Option (List Card × List (List Str))
  | [], acc => some (acc, [])
  | w :: r, acc => if w.head? = some "tablet" then (match tabletM w with | some c => draftM r (acc ++ [c]) | none => none) else some (acc, w :: r)
def lineM (most : Int) (s : Sg) : List Str → Option (Deed × Sg)
  | [a, b] => if a = "row" then (rowP most s b).map fun s' => (.row b, s')
    else if a = "flip" then (num b).bind fun n => if n < s.cards.length then some (.flip n.toNat, flipP s n.toNat) else none
    else none
  | _ => none
def deedsM (most : Int) : Sg → List (List Str) → Option (List (Deed × Sg))
  | _, [] => some []
  | s, w :: r => (lineM most s w).bind fun q => (deedsM most q.2 r).map fun l => q :: l
def linesOf (z : Str) : List (List Str) := (Txt.split z "\n").map fun l => Txt.split l " "
def loomM (l0 : List Str) : Option Int := match l0 with
  | [a, b] => if a = "loom" then num b else none
  | _ => none
def readL : List (List Str) → Option Lm
  | [] => none
  | l0 :: rest => (spoolsM rest "" []).bind fun q => (draftM q.2 []).bind fun e => if e.1 = [] ∨ 8 < e.1.length then none else
      (loomM l0).bind fun mo => (deedsM mo (st0 e.1 q.1) e.2).map fun ds => ⟨e.1, mo, q.1, ds.map (·.1), st0 e.1 q.1 :: ds.map (·.2)⟩
def readM (z : Str) : Option Lm := readL (linesOf z)
def toS (i : Int) : Str := toString i
def deedT : Deed → Str
  | .row z => "row" ++ " " ++ z
  | .flip k => "flip" ++ " " ++ toS k
def toldL (m : Lm) (ks : List Str) : List Str := ("loom " ++ toS m.most) :: (ks.map fun c => "spool " ++ c ++ " " ++ toS ((gt m.spools c).getD 0)) ++ (m.draft.map fun t => "tablet " ++ t.1 ++ " " ++ t.2.1 ++ " " ++ toS t.2.2) ++ m.done.map deedT
def bandM : List Deed → List Sg → List (List Pick)
  | d :: ds, s :: sts => (match d with | .row z => [pickP (turnP s.cards z.cps.toList) z.cps.toList] | .flip _ => []) ++ bandM ds sts
  | _, _ => []
/-! ### data -/
def cD (t : Card) : PyData := .tuple [.str t.1, .str t.2.1, .int t.2.2]
def pD (t : Pick) : PyData := .tuple [.str t.1, .str t.2.1, .str t.2.2]
def dD : Deed → PyData
  | .row z => .tuple [.str "row", .str z]
  | .flip k => .tuple [.str "flip", .int k]
def wD (w : List Str) : PyData := .list (w.map .str)
def nD (ns : List Int) : PyData := .list (ns.map .int)
section
variable (K : PySem.W.Frag)
def StageAt (H : Hp) (p : Addr) (s : Sg) : Prop := ∃ dx a b c d, H p = some (.ins (He.ga K "Stage") dx [("cards", .ref a), ("turned_by", .ref b), ("farthest", .ref c), ("lengths", .ref d)]) ∧ Dp K H (.ref a) (.list (s.cards.map cD)) ∧ Dp K H (.ref b) (nD s.tw) ∧ Dp K H (.ref c) (nD s.far) ∧ H d = some (.dK (eL s.left))
/-- .. whose lists are new since H -/
def StageNew (H H' : Hp) (p : Addr) (s : Sg) : Prop := ∃ dx a b c d xs, H p = none ∧ H a = none ∧ H b = none ∧ H c = none ∧ H d = none ∧
  H' p = some (.ins (He.ga K "Stage") dx [("cards", .ref a), ("turned_by", .ref b), ("farthest", .ref c), ("lengths", .ref d)]) ∧ H' a = some (.lst xs) ∧ DpAll K H' xs (s.cards.map cD) ∧ H' b = some (.lst (s.tw.map V.int)) ∧ H' c = some (.lst (s.far.map V.int)) ∧ H' d = some (.dK (eL s.left))
structure StOk (s : Sg) : Prop where
  cards : ∀ t ∈ s.cards, CardOk t
  n8 : s.cards.length ≤ 8
  n1 : s.cards ≠ []
  tw : s.tw.length = s.cards.length
  far : s.far.length = s.cards.length
  pos : ∀ p ∈ s.left, 0 ≤ p.2
  few : s.left.length ≤ 1000000
  nod : (s.left.map (·.1)).Nodup
def NewL (H H' : Hp) (v : V) (ds : List PyData) : Prop := ∃ l xs, v = .ref l ∧ H l = none ∧ H' l = some (.lst xs) ∧ DpAll K H' xs ds
def StateAt (H : Hp) (v : V) (s : Sg) : Prop := ∃ a l1 l2 l3 d, v = .ref a ∧ SqT K H a [.ref l1, .ref l2, .ref l3, .ref d] ∧ Dp K H (.ref l1) (.list (s.cards.map cD)) ∧ Dp K H (.ref l2) (nD s.tw) ∧ Dp K H (.ref l3) (nD s.far) ∧ H d = some (.dK (eL s.left))
def StateN (N : Addr → Prop) (H : Hp) (v : V) (s : Sg) : Prop := ∃ a l1 l2 l3 d, (N l1 ∧ N l2 ∧ N l3 ∧ N d) ∧ v = .ref a ∧ SqT K H a [.ref l1, .ref l2, .ref l3, .ref d] ∧ Dp K H (.ref l1) (.list (s.cards.map cD)) ∧ Dp K H (.ref l2) (nD s.tw) ∧ Dp K H (.ref l3) (nD s.far) ∧ H d = some (.dK (eL s.left))
inductive All2 (R : V → Sg → Prop) : List V → List Sg → Prop
  | nil : All2 R [] []
  | cons {v : V} {vs : List V} {s : Sg} {ss : List Sg} (h : R v s) (t : All2 R vs ss) : All2 R (v :: vs) (s :: ss)
structure LoomG (G G0 H : Hp) (p : Addr) (m : Lm) (dx ad asp ado ast aun : Addr) : Prop where
  g0 : Same G0 G
  g : Same G H
  np : G p = none
  nd : G ado = none
  ns : G ast = none
  ne : ado ≠ ast
  ins : H p = some (.ins (He.ga K "Loom") dx [("draft", .ref ad), ("most", .int m.most), ("spools", .ref asp), ("stages", .ref ast), ("done", .ref ado), ("undone", .ref aun)])
  draft : Dp K G (.ref ad) (.list (m.draft.map cD))
  spools : G asp = some (.dK (eL m.spools))
  done : ∃ xs, H ado = some (.lst xs) ∧ DpAll K G xs (m.done.map dD)
  sts : ∃ ys, H ast = some (.lst ys) ∧ All2 (fun v s => ∃ q, v = .ref q ∧ StageAt K G q s) ys m.sts
def LoomIn (G0 H : Hp) (p : Addr) (m : Lm) : Prop := ∃ G dx ad asp ado ast aun, LoomG K G G0 H p m dx ad asp ado ast aun
def DeedSm : Deed → Prop
  | .row z => z.length ≤ 1000000
  | .flip k => k < 1000000000
structure LmOk (m : Lm) : Prop where
  st : ∀ s ∈ m.sts, StOk s
  len : m.sts.length = m.done.length + 1
  few : m.done.length ≤ 2000000
  dn : ∀ s ∈ m.sts, s.cards.length = m.draft.length
  dok : ∀ t ∈ m.draft, CardOk t
  row : ∀ (i : Nat) (z : Str) (s : Sg), m.done[i]? = some (.row z) → m.sts[i]? = some s → fitsP z s.cards.length = true
  sp : ∀ p ∈ m.spools, 0 ≤ p.2 ∧ p.2 < 1000000000 ∧ p.1.length = 1
  few2 : m.spools.length ≤ 60
  mo : 0 ≤ m.most ∧ m.most < 1000000000
  fl : ∀ d ∈ m.done, DeedSm d
def Lm.last (m : Lm) : Sg := m.sts.getLastD ⟨[], [], [], []⟩
/-- an exception of the class x, behind more objects -/
def Er (E : XK) (H : Hp) (x : Str) : Prop := ∀ H', Same H H' → E (.ref (He.ga K x)) none H'
def four : List Str := ["BadRow", "NoTablet", "SpoolDry", "TooTight"]
/-! ### promises -/
def sp_is_colour : Sp := fun vs H Q _ => ∃ z, vs = [.str z] ∧ z.length ≤ sizeLine ∧ Q (.bl (isCol z)) H
def sp_made : Sp := fun vs H Q E => ∃ lay holes st, vs = [.str lay, .str holes, .int st] ∧ holes.length ≤ sizeLine ∧ (madeP lay holes st = true → ∀ H' p, Same H H' → SqT K H' p [.str lay, .str holes, .int st] → Q (.ref p) H') ∧ (madeP lay holes st = false → Er K E H "BadTablet")
def sp_top : Sp := fun vs H Q _ => ∃ v t, vs = [v] ∧ Dp K H v (cD t) ∧ CardOk t ∧ Q (.str (cTop t)) H
def sp_bottom : Sp := fun vs H Q _ => ∃ v t, vs = [v] ∧ Dp K H v (cD t) ∧ CardOk t ∧ Q (.str (cBot t)) H
def sp_advance : Sp := fun vs H Q _ => ∃ c, vs = [.str (sg c)] ∧ Q (.int (adv c)) H
def sp_twisting : Sp := fun vs H Q _ => ∃ v t c, vs = [v, .str (sg c)] ∧ Dp K H v (cD t) ∧ Q (.int (cTwist t c)) H
def tupC (t : Card) : HO := .tup [.str t.1, .str t.2.1, .int t.2.2]
def tupP (t : Pick) : HO := .tup [.str t.1, .str t.2.1, .str t.2.2]
def sp_turned : Sp := fun vs H Q _ => ∃ v t c, vs = [v, .str (sg c)] ∧ Dp K H v (cD t) ∧ ∀ p, H p = none → Q (.ref p) (upd H p (tupC (cTurned t c)))
def sp_flipped : Sp := fun vs H Q _ => ∃ v t, vs = [v] ∧ Dp K H v (cD t) ∧ CardOk t ∧ ∀ p, H p = none → Q (.ref p) (upd H p (tupC (cFlip t)))
def sp_slant_of : Sp := fun vs H Q _ => ∃ t, vs = [.int t] ∧ Q (.str (slant t)) H
def sp_place_of : Sp := fun vs H Q _ => ∃ v t c, vs = [v, .str (sg c)] ∧ Dp K H v (cD t) ∧ CardOk t ∧ ∀ p, H p = none → Q (.ref p) (upd H p (tupP (place t c)))
/-- cards at v, a row of as many turns -/
def RowAt (H : Hp) (v : V) (cards : List Card) (z : Str) : Prop := Dp K H v (.list (cards.map cD)) ∧ (∀ t ∈ cards, CardOk t) ∧ cards.length ≤ 8 ∧ fitsP z cards.length = true
def sp_pick_of : Sp := fun vs H Q _ => ∃ v cards z, vs = [v, .str z] ∧ RowAt K H v cards z ∧
  ∀ H' p x y, Same H H' → SqT K H' p [x, y] → NewL K H H' x ((turnP cards z.cps.toList).map cD) → NewL K H H' y ((pickP (turnP cards z.cps.toList) z.cps.toList).map pD) → Q (.ref p) H'
def sp_fits : Sp := fun vs H Q _ => ∃ z n, vs = [.str z, .int (n : Nat)] ∧ z.length ≤ sizeLine ∧ Q (.bl (fitsP z n)) H
def sp_taken_by : Sp := fun vs H Q _ => ∃ v cards z, vs = [v, .str z] ∧ RowAt K H v cards z ∧ ∀ H' d, Same H H' → H d = none → H' d = some (.dK (eL (takenP cards z.cps.toList))) → Q (.ref d) H'
def sp_Stage_init : Sp := fun vs H Q _ => ∃ x dx a b c d, vs = [.ref x, a, b, c, d] ∧ H x = some (.ins (He.ga K "Stage") dx []) ∧ ∀ H', (∀ q, q ≠ x → H' q = H q) → H' x = some (.ins (He.ga K "Stage") dx [("cards", a), ("turned_by", b), ("farthest", c), ("lengths", d)]) → Q .non H'
def sp_first_stage : Sp := fun vs H Q _ => ∃ v d l, ∃ cards : List Card, vs = [v, .ref d] ∧ Dp K H v (.list (cards.map cD)) ∧ cards.length ≤ 8 ∧ H d = some (.dK (eL l)) ∧ ∀ H' p, Same H H' → StageNew K H H' p (st0 cards l) → Q (.ref p) H'
def StArg (vs : List V) (H : Hp) (s : Sg) (p : Addr) (z : Str) : Prop := StageAt K H p s ∧ StOk s ∧ fitsP z s.cards.length = true
def sp_twisted : Sp := fun vs H Q E => ∃ p s z most, vs = [.ref p, .str z, .int most] ∧ StageAt K H p s ∧ StOk s ∧ fitsP z s.cards.length = true ∧
  (tight most (twP s z.cps.toList) = false → ∀ H' l, Same H H' → H l = none → H' l = some (.lst ((twP s z.cps.toList).map V.int)) → Q (.ref l) H') ∧ (tight most (twP s z.cps.toList) = true → Er K E H "TooTight")
def sp_drawn_off : Sp := fun vs H Q E => ∃ p s z, vs = [.ref p, .str z] ∧ StageAt K H p s ∧ StOk s ∧ fitsP z s.cards.length = true ∧
  (∀ l, drawnP s.left (takenP s.cards z.cps.toList) = some l → ∀ H' d, Same H H' → H d = none → H' d = some (.dK (eL l)) → Q (.ref d) H') ∧ (drawnP s.left (takenP s.cards z.cps.toList) = none → Er K E H "SpoolDry")
def sp_stage_behind : Sp := fun vs H Q E => ∃ p s z most, vs = [.ref p, .str z, .int most] ∧ StageAt K H p s ∧ StOk s ∧ z.length ≤ sizeLine ∧
  (∀ s', rowP most s z = some s' → ∀ H' q, Same H H' → StageNew K H H' q s' → Q (.ref q) H') ∧ (rowP most s z = none → ∀ x ∈ four, Er K E H x)
def sp_stage_flipped : Sp := fun vs H Q _ => ∃ p s k, vs = [.ref p, .int (k : Nat)] ∧ StageAt K H p s ∧ StOk s ∧ k < s.cards.length ∧ ∀ H' q, Same H H' → StageNew K H H' q (flipP s k) → Q (.ref q) H'
def sp_Loom_init : Sp := fun vs H Q _ => ∃ x dx v cards most d l, vs = [.ref x, v, .int most, .ref d] ∧ H x = some (.ins (He.ga K "Loom") dx []) ∧ Dp K H v (.list (cards.map cD)) ∧ cards.length ≤ 8 ∧ H d = some (.dK (eL l)) ∧
  ∀ H', LoomIn K (wo H x) H' x ⟨cards, most, l, [], [st0 cards l]⟩ → Q .non H'
def sp_Loom_put_deed : Sp := fun vs H Q _ => ∃ p dv de q s m G G0 dx ad asp ado ast aun, vs = [.ref p, dv, .ref q] ∧ LoomG K G G0 H p m dx ad asp ado ast aun ∧ m.sts.length + m.done.length ≤ 8000000 ∧ Dp K G dv (dD de) ∧ StageAt K G q s ∧ ∀ H', Same G H' → LoomIn K G0 H' p (m.add de s) → Q .non H'
def sp_Loom_weave : Sp := fun vs H Q E => ∃ p m G0 z, vs = [.ref p, .str z] ∧ LoomIn K G0 H p m ∧ LmOk m ∧ z.length ≤ sizeLine ∧
  (∀ s', rowP m.most m.last z = some s' → ∀ H' v, LoomIn K G0 H' p (m.add (.row z) s') → Q v H') ∧ (rowP m.most m.last z = none → ∀ x ∈ four, Er K E H x)
def sp_Loom_flip : Sp := fun vs H Q E => ∃ p m G0 k, vs = [.ref p, .int (k : Nat)] ∧ LoomIn K G0 H p m ∧ LmOk m ∧
  (k < m.draft.length → ∀ H' v, LoomIn K G0 H' p (m.add (.flip k) (flipP m.last k)) → Q v H') ∧ (¬ k < m.draft.length → ∀ x ∈ four, Er K E H x)
def spL (d : Lm → PyData) : Sp := fun vs H Q _ => ∃ p m G0, vs = [.ref p] ∧ LoomIn K G0 H p m ∧ LmOk m ∧ ∀ H' v, Same H H' → Dp K H' v (d m) → Q v H'
def sp_Loom_tablets : Sp := spL K fun m => .list (m.last.cards.map cD)
def sp_Loom_band : Sp := spL K fun m => .list ((bandM m.done m.sts).map fun l => .list (l.map pD))
def sp_Loom_deeds : Sp := spL K fun m => .list (m.done.map dD)
def sp_Loom_twist : Sp := fun vs H Q _ => ∃ p m G0 k i, vs = [.ref p, .int (k : Nat)] ∧ LoomIn K G0 H p m ∧ LmOk m ∧ m.last.tw[k]? = some i ∧ Q (.int i) H
def sp_Loom_peak : Sp := fun vs H Q _ => ∃ p m G0 k i, vs = [.ref p, .int (k : Nat)] ∧ LoomIn K G0 H p m ∧ LmOk m ∧ m.last.far[k]? = some i ∧ Q (.int i) H
def sp_Loom_rest : Sp := fun vs H Q _ => ∃ p m G0 c, vs = [.ref p, .str c] ∧ LoomIn K G0 H p m ∧ LmOk m ∧ Q (.int ((gt m.last.left c).getD 0)) H
def sumL (l : List Str) : Nat := l.foldl (fun n z => n + z.length) 0
def sp_told : Sp := fun vs H Q _ => ∃ p m G0, vs = [.ref p] ∧ LoomIn K G0 H p m ∧ LmOk m ∧ ∀ ks, ks.Perm (m.spools.map (·.1)) → sortedS ks = true → ((toldL m ks).map Str.length).sum + (toldL m ks).length ≤ 8000000 ∧ ∀ H', Same H H' → Q (.str (Txt.join "\n" (toldL m ks))) H'
def sp_number_of : Sp := fun vs H Q E => ∃ z, vs = [.str z] ∧ z.length ≤ sizeLine ∧ (∀ n, num z = some n → Q (.int n) H) ∧ (num z = none → Er K E H "BadText")
def LinesAt (H : Hp) (v : V) (L : List (List Str)) : Prop := Dp K H v (.list (L.map wD)) ∧ (∀ w ∈ L, w ≠ []) ∧ L.length ≤ 1000001 ∧ ∀ w ∈ L, ∀ z ∈ w, z.length ≤ 1000000
def sp_begun : Sp := fun vs H Q _ => ∃ v L i x, vs = [v, .int (i : Nat), .str x] ∧ LinesAt K H v L ∧ Q (.bl (decide ((L[i]?).bind List.head? = some x))) H
def sp_read_spools : Sp := fun vs H Q E => ∃ v L i, vs = [v, .int (i : Nat)] ∧ LinesAt K H v L ∧ i ≤ L.length ∧
  (∀ sp r, spoolsM (L.drop i) "" [] = some (sp, r) → ∀ H' p d, Same H H' → SqT K H' p [.ref d, .int ((L.length - r.length : Nat) : Int)] → H d = none → H' d = some (.dK (eL sp)) → Q (.ref p) H') ∧ (spoolsM (L.drop i) "" [] = none → Er K E H "BadText")
def sp_read_tablet : Sp := fun vs H Q E => ∃ v x, vs = [v] ∧ Dp K H v (wD x) ∧ (∀ z ∈ x, z.length ≤ 1000000) ∧ (∀ c, tabletM x = some c → ∀ H' u, Same H H' → Dp K H' u (cD c) → Q u H') ∧ (tabletM x = none → Er K E H "BadText")
def sp_read_draft : Sp := fun vs H Q E => ∃ v L i, vs = [v, .int (i : Nat)] ∧ LinesAt K H v L ∧ i ≤ L.length ∧
  (∀ dr r, draftM (L.drop i) [] = some (dr, r) → ¬ (dr = [] ∨ 8 < dr.length) → ∀ H' p x, Same H H' → SqT K H' p [x, .int ((L.length - r.length : Nat) : Int)] → Dp K H' x (.list (dr.map cD)) → Q (.ref p) H') ∧
  ((∀ dr r, draftM (L.drop i) [] = some (dr, r) → (dr = [] ∨ 8 < dr.length)) → Er K E H "BadText")
def sp_do_line : Sp := fun vs H Q E => ∃ p m G0 v x, vs = [.ref p, v] ∧ LoomIn K G0 H p m ∧ LmOk m ∧ Dp K H v (wD x) ∧ (∀ z ∈ x, z.length ≤ 1000000) ∧
  (∀ d s, lineM m.most m.last x = some (d, s) → ∀ H' u, LoomIn K G0 H' p (m.add d s) → Q u H') ∧ (lineM m.most m.last x = none → Er K E H "BadText")
def sp_brought : Sp := fun vs H Q E => ∃ z, vs = [.str z] ∧ z.length ≤ 1000000 ∧ (∀ m, readM z = some m → ∀ H' p, LoomIn K H H' p m → Q (.ref p) H') ∧ (readM z = none → Er K E H "BadText")
def sp_l_row : Sp := fun vs H Q _ => ∃ c many base, vs = [.int c, .int (many : Nat), .int (base : Nat)] ∧ many ≤ 40 ∧ 0 < base ∧ base < 1000 ∧
  ∀ H' p (ds : List Int), Same H H' → H p = none → H' p = some (.lst (ds.map V.int)) → ds.length = many → (∀ d ∈ ds, 0 ≤ d ∧ d < base) → Q (.ref p) H'
def sp_l_holes : Sp := fun vs H Q _ => ∃ c, vs = [.int c] ∧ ∀ H' z, Same H H' → z.length = 4 → z.cps.toList.all low = true → Q (.str z) H'
def sp_l_card : Sp := fun vs H Q _ => ∃ c, vs = [.int c] ∧ ∀ H' p t, Same H H' → H p = none → H' p = some (tupC t) → CardOk t → Q (.ref p) H'
def ScrAt (H : Hp) (v : V) (ns : List Int) : Prop := Dp K H v (nD ns) ∧ ns.length ≤ 63
def sp_l_at : Sp := fun vs H Q _ => ∃ v ns k, vs = [v, .int (k : Nat)] ∧ ScrAt K H v ns ∧ k ≤ 200 ∧ ∀ i, Q (.int i) H
def sp_l_draft : Sp := fun vs H Q _ => ∃ v ns a n, vs = [v, .int (a : Nat), .int (n : Nat)] ∧ ScrAt K H v ns ∧ a ≤ 100 ∧ n ≤ 8 ∧ ∀ H' p xs (cs : List Card), Same H H' → H p = none → H' p = some (.lst xs) → DpAll K H' xs (cs.map cD) → cs.length = n → (∀ t ∈ cs, CardOk t) → Q (.ref p) H'
def LensOk (l : Lens) : Prop := l.length ≤ 40 ∧ ∀ p ∈ l, 0 ≤ p.2 ∧ p.2 ≤ 999999999
def sp_l_spools : Sp := fun vs H Q _ => ∃ v c, ∃ cs : List Card, vs = [v, .int c] ∧ Dp K H v (.list (cs.map cD)) ∧ (∀ t ∈ cs, CardOk t) ∧ cs.length ≤ 8 ∧ ∀ H' d l, Same H H' → H d = none → H' d = some (.dK (eL l)) → LensOk l → Q (.ref d) H'
def sp_l_most : Sp := fun vs H Q _ => ∃ c, vs = [.int c] ∧ ∀ i : Int, 0 ≤ i → i ≤ 999999999 → Q (.int i) H
def sp_l_begin : Sp := fun vs H Q _ => ∃ v d l, ∃ cs : List Card, vs = [v, .ref d] ∧ Dp K H v (.list (cs.map cD)) ∧ cs.length ≤ 8 ∧ H d = some (.dK (eL l)) ∧ ∀ H' u, Same H H' → (∀ N : Addr → Prop, (∀ a, H a = none → H' a ≠ none → N a) → StateN K N H' u (st0 cs l)) → Q u H'
def sp_l_loom_parts : Sp := fun vs H Q _ => ∃ v ns, vs = [v] ∧ ScrAt K H v ns ∧ ∀ H' p x (cs : List Card) i d l, Same H H' → SqT K H' p [x, .int i, .ref d] → Dp K H' x (.list (cs.map cD)) → (∀ t ∈ cs, CardOk t) → 1 ≤ cs.length → cs.length ≤ 8 → 0 ≤ i → i ≤ 999999999 → H' d = some (.dK (eL l)) → LensOk l → Q (.ref p) H'
def sp_l_turns : Sp := fun vs H Q _ => ∃ c n, vs = [.int c, .int (n : Nat)] ∧ n ≤ 8 ∧ ∀ H' z, Same H H' → z.length ≤ 8 → Q (.str z) H'
def sp_l_sign : Sp := fun vs H Q _ => ∃ c, vs = [.int c] ∧ ∀ d, Q (.str (sg d)) H
def sp_l_spoil : Sp := fun vs H Q _ => ∃ z c, vs = [.str z, .int c] ∧ z.length ≤ 500000 ∧ ∀ z' : Str, z'.length ≤ 4 * z.length + 3 → Q (.str z') H
def sp_l_rowtext : Sp := fun vs H Q _ => ∃ c n, vs = [.int c, .int (n : Nat)] ∧ n ≤ 8 ∧ ∀ H' z, Same H H' → z.length ≤ 35 → Q (.str z) H'
def sp_l_go : Sp := fun vs H Q _ => ∃ c, vs = [.str (sg c)] ∧ fbi c = true ∧ Q (.int (adv c)) H
def sp_l_behind : Sp := fun vs H Q _ => ∃ v t c, vs = [v, .str (sg c)] ∧ Dp K H v (cD t) ∧ fbi c = true ∧ ∀ p, H p = none → Q (.ref p) (upd H p (tupC (cTurned t c)))
def sp_l_twist : Sp := fun vs H Q _ => ∃ v t c, vs = [v, .str (sg c)] ∧ Dp K H v (cD t) ∧ fbi c = true ∧ Q (.int (cTwist t c)) H
def sp_l_after : Sp := fun vs H Q _ => ∃ v s z most, ∃ N : Addr → Prop, vs = [v, .str z, .int most] ∧ StateAt K H v s ∧ StOk s ∧ z.length ≤ sizeLine ∧ (∀ a, H a = none → N a) ∧
  (∀ s', rowP most s z = some s' → ∀ H' u, Same H H' → StateN K N H' u s' → Q u H') ∧ (rowP most s z = none → ∀ H' x, Same H H' → Q (.str x) H')
def sp_l_turnover : Sp := fun vs H Q _ => ∃ v t, vs = [v] ∧ Dp K H v (cD t) ∧ CardOk t ∧ ∀ p, H p = none → Q (.ref p) (upd H p (tupC (cFlip t)))
def sp_l_pick : Sp := fun vs H Q _ => ∃ v cards z, vs = [v, .str z] ∧ RowAt K H v cards z ∧ ∀ H' y, Same H H' → NewL K H H' y ((pickP cards z.cps.toList).map pD) → Q y H'
def depD : Nat → PyData → Bool
  | _, .int _ => true
  | _, .str _ => true
  | n + 1, .list ds => ds.all (depD n)
  | n + 1, .tuple ds => ds.all (depD n)
  | _, _ => false
def sp_l_same (n : Nat) : Sp := fun vs H Q _ => ∃ x y d, vs = [x, y] ∧ Dp K H x d ∧ Dp K H y d ∧ depD n d = true ∧ ∀ H', Same H H' → Q (.bl true) H'
def sp_l_stands : Sp := fun vs H Q _ => ∃ p m G0 st bd dn, vs = [.ref p, st, bd, dn] ∧ LoomIn K G0 H p m ∧ LmOk m ∧ StateAt K H st m.last ∧ Dp K H bd (.list ((bandM m.done m.sts).map fun l => .list (l.map pD))) ∧ Dp K H dn (.list (m.done.map dD)) ∧ ∀ H', Same H H' → Q (.bl true) H'
def DeedOk : Deed → Prop
  | .row z => z.length ≤ 35
  | .flip k => k ≤ 9
def sp_l_lines : Sp := fun vs H Q _ => ∃ v i d l dn, ∃ cs : List Card, ∃ ds : List Deed, vs = [v, .int i, .ref d, dn] ∧ Dp K H v (.list (cs.map cD)) ∧ (∀ t ∈ cs, CardOk t) ∧ cs.length ≤ 8 ∧ 0 ≤ i ∧ i ≤ 999999999 ∧ H d = some (.dK (eL l)) ∧ LensOk l ∧ Dp K H dn (.list (ds.map dD)) ∧ ds.length ≤ 8 ∧ (∀ e ∈ ds, DeedOk e) ∧ ∀ H' z, Same H H' → z.length ≤ 10000 → Q (.str z) H'
def sp_l_kinds (a : Addr) : Sp := fun vs H Q _ => vs = [.ref a] ∧ ∀ H' v, Same H H' → Dp K H' v (.list [.str "BadText"]) → Q v H'
def sp_l_number : Sp := fun vs H Q _ => ∃ z, vs = [.str z] ∧ z.length ≤ sizeLine ∧ (∀ n, num z = some n → Q (.int n) H) ∧ (num z = none → Q .non H)
def headM (L : List (List Str)) : Option (List Card × Lens) := (spoolsM (L.drop 1) "" []).bind fun q => (draftM q.2 []).map fun e => (e.1, q.1)
def sp_l_head : Sp := fun vs H Q _ => ∃ v L, vs = [v] ∧ LinesAt K H v L ∧ (headM L = none → ∀ H', Same H H' → Q .non H') ∧ (∀ dr sp, headM L = some (dr, sp) → ∀ H' p x d, Same H H' → SqT K H' p [x, .ref d] → Dp K H' x (.list (dr.map cD)) → H' d = some (.dK (eL sp)) → Q (.ref p) H')
def sp_l_line : Sp := fun vs H Q _ => ∃ v s x u most, ∃ N : Addr → Prop, vs = [v, u, .int most] ∧ StateN K N H v s ∧ (∀ a, H a = none → N a) ∧ StOk s ∧ Dp K H u (wD x) ∧ x ≠ [] ∧ (∀ z ∈ x, z.length ≤ 1000000) ∧
  (∀ d s', lineM most s x = some (d, s') → ∀ H' r, Same H H' → StateN K N H' r s' → Q r H') ∧ (lineM most s x = none → ∀ H', Same H H' → Q .non H' ∧ ∀ k, Q (.str k) H')
def sp_l_read : Sp := fun vs H Q _ => ∃ z, vs = [.str z] ∧ z.length ≤ 1000000 ∧ (readM z = none → ∀ H', Same H H' → Q .non H') ∧
  (∀ m, readM z = some m → ∀ H' p st bd dn, Same H H' → SqT K H' p [st, bd, dn] → StateAt K H' st m.last → Dp K H' bd (.list ((bandM m.done m.sts).map fun l => .list (l.map pD))) → Dp K H' dn (.list (m.done.map dD)) → Q (.ref p) H')
def sp_l_built : Sp := fun vs H Q _ => ∃ v ns, vs = [v] ∧ ScrAt K H v ns ∧ ∀ H' z, Same H H' → z.length ≤ 1000000 → Q (.str z) H'
def sp_l_tried : Sp := fun vs H Q _ => ∃ z, vs = [.str z] ∧ z.length ≤ 1000000 ∧ (readM z = none → ∀ H' p x, Same H H' → SqT K H' p [x, .non] → Dp K H' x (.list [.str "BadText"]) → Q (.ref p) H') ∧
  (∀ m, readM z = some m → ∀ H' p q, SqT K H' p [.non, .ref q] → LoomIn K H H' q m → Q (.ref p) H')
def sp_law : Sp := fun vs H Q _ => ∃ v ns, vs = [v] ∧ ScrAt K H v ns ∧ ∀ H', Q (.bl true) H'
end
end Wb

namespace Wb
open PySem PySem.Spec PyProof.Rows L2
local macro_rules
  | `(tactic| trivial) => `(tactic| repeat (first
      | refine ⟨_, rfl, ?_⟩
      | refine ⟨_, _, rfl, rfl, ?_⟩
      | refine ⟨rfl, ?_⟩))
section
variable {K : PySem.W.Frag} {H : Hp}
theorem card_at {v : V} {t : Card} (h : Dp K H v (cD t)) : ∃ a, v = .ref a ∧ SqT K H a [.str t.1, .str t.2.1, .int t.2.2] := by
  obtain ⟨a, xs, e, s, h⟩ := dp_tup h
  cases h with
  | cons h1 h => cases h with
    | cons h2 h => cases h with
      | cons h3 h =>
        cases h
        rw [dp_str h1, dp_str h2, dp_int h3] at s
        exact ⟨a, e, s⟩
theorem card_of {a : Addr} {t : Card} (s : SqT K H a [.str t.1, .str t.2.1, .int t.2.2]) : Dp K H (.ref a) (cD t) := .tup s (.cons (.str _) (.cons (.str _) (.cons (.int _) .nil)))
theorem str_size {z : Str} {n : Nat} (h : z.length = n) : z.cps.toList.length = n := by rw [Array.length_toList]; exact h
theorem cardOk_parts {t : Card} (h : CardOk t) : (t.1 = "S" ∨ t.1 = "Z") ∧ t.2.1.cps.toList.length = 4 ∧ t.2.1.cps.toList.all low = true ∧ 0 ≤ t.2.2 ∧ t.2.2 ≤ 3 := by
  unfold CardOk madeP at h
  simp only [Bool.and_eq_true, Bool.or_eq_true, decide_eq_true_eq] at h
  obtain ⟨h1, h2, h3, h4⟩ := h
  exact ⟨h1, str_size h2, h3, h4⟩
theorem hole_at {z : Str} {i : Int} {n : Nat} (h : z.cps.toList.length = n) (h0 : 0 ≤ i) (h1 : i < n) : ∃ c, atI z.cps.toList i = some c ∧ (⟨#[c]⟩ : Str) = hole z i.toNat := by
  obtain ⟨j, rfl⟩ := Int.eq_ofNat_of_zero_le h0
  have hj : j < z.cps.toList.length := by omega
  refine ⟨z.cps.toList[j], atI_nat (List.getElem?_eq_getElem hj), ?_⟩
  show sg _ = sg _
  rw [show ((j : Int)).toNat = j from rfl, List.getD_eq_getElem?_getD, List.getElem?_eq_getElem hj]
  rfl
theorem len_size {z : Str} {n : Nat} (h : z.cps.toList.length = n) (hn : n ≤ 1000) : z.length ≤ sizeLine := by
  have e : z.length = z.cps.toList.length := (Array.length_toList ..).symm
  rw [e, h, sizeLine_eq]
  omega
theorem str_ext {a b : Str} (h : a.cps.toList = b.cps.toList) : a = b := by
  obtain ⟨x⟩ := a
  obtain ⟨y⟩ := b
  have e : x = y := Array.toList_inj.mp h
  rw [e]
theorem one_sign {z : Str} (h : z.length = 1) : ∃ c, z = sg c := by
  obtain ⟨⟨l⟩⟩ := z
  have h' : l.length = 1 := h
  match l, h' with
  | [c], _ => exact ⟨c, rfl⟩
end
theorem abc_mem (c : Nat) : (c ∈ (PySem.Str.ofString "abcdefghijklmnopqrstuvwxyz").cps.toList) ↔ low c = true := by
  have e : (PySem.Str.ofString "abcdefghijklmnopqrstuvwxyz").cps.toList = [97, 98, 99, 100, 101, 102, 103, 104, 105, 106, 107, 108, 109, 110, 111, 112, 113, 114, 115, 116, 117, 118, 119, 120, 121, 122] := by decide +kernel
  rw [e]
  unfold low
  rw [decide_eq_true_eq]
  constructor
  · intro h
    simp only [List.mem_cons, List.not_mem_nil, or_false] at h
    omega
  · intro ⟨h1, h2⟩
    simp only [List.mem_cons, List.not_mem_nil, or_false]
    omega
theorem bb {b : Bool} {A B : Prop} (h1 : b = true → A) (h0 : b = false → B) : if b = true then A else B := by
  cases b with
  | true => exact iteT (h1 rfl)
  | false => exact iteF (h0 rfl)
theorem sg_inj {a b : Nat} (h : sg a = sg b) : a = b := by
  have e : (sg a).cps.toList = (sg b).cps.toList := by rw [h]
  simpa [sg] using e
theorem dec_sg {c n : Nat} {x : Str} (e : x = sg n) : decide (V.str (sg c) = V.str x) = decide (c = n) := by
  subst e
  by_cases h : c = n
  · simp [h]
  · have h2 : ¬ V.str (sg c) = V.str (sg n) := fun z => h (sg_inj (V.str.inj z))
    simp [h, h2]
theorem dec_str {a b : Str} : decide (V.str a = V.str b) = decide (a = b) := by
  by_cases h : a = b
  · simp [h]
  · have h2 : ¬ V.str a = V.str b := fun z => h (V.str.inj z)
    simp [h, h2]
theorem dec_i {a b : Int} : decide (V.int a = V.int b) = decide (a = b) := by
  by_cases h : a = b
  · simp [h]
  · have h2 : ¬ V.int a = V.int b := fun z => h (V.int.inj z)
    simp [h, h2]
theorem eqV_str (a b : Str) : eqV (V.str a) (V.str b) = decide (b = a) := by
  show (a == b) = _
  by_cases h : a = b
  · subst h
    simp
  · have h2 : ¬ b = a := fun z => h z.symm
    rw [decide_eq_false h2]
    exact beq_eq_false_iff_ne.mpr h
theorem dec_sgS {c n : Nat} {x : Str} (e : x = sg n) : decide (sg c = x) = decide (c = n) := by
  rw [← dec_str]
  exact dec_sg e
theorem inV_fbi (c : Nat) : inV (V.str (sg c)) [V.str "f", V.str "b", V.str "i"] = fbi c := by
  unfold inV fbi
  simp only [List.any_cons, List.any_nil, eqV_str, Bool.or_false]
  rw [dec_sgS (n := 102) (by decide), dec_sgS (n := 98) (by decide), dec_sgS (n := 105) (by decide)]
  simp [Bool.decide_or]
theorem inV_SZ (z : Str) : inV (V.str z) [V.str "S", V.str "Z"] = (decide (z = "S") || decide (z = "Z")) := by
  unfold inV
  simp only [List.any_cons, List.any_nil, eqV_str, Bool.or_false]
theorem all_step {l : List Nat} {p : Nat → Bool} {i c : Nat} (h : (l.take i).all p = true) (e : l[i]? = some c) (hc : p c = true) : (l.take (i + 1)).all p = true := by
  rw [List.take_succ, e, List.all_append, h]
  simp [hc]
theorem all_none {l : List Nat} {p : Nat → Bool} {i c : Nat} (e : l[i]? = some c) (hc : p c = false) : l.all p = false := by
  rw [List.all_eq_false]
  exact ⟨c, List.mem_of_getElem? e, by rw [hc]; exact Bool.false_ne_true⟩
/-! ### flat tuples stand through what happens to lists -/
def flatT : PyData → Bool
  | .tuple ds => ds.all flatD
  | d => flatD d
def isT : HO → Prop
  | .tup _ => True
  | .frz _ (.tup _) => True
  | _ => False
def TSame (H H' : Hp) : Prop := ∀ a o, H a = some o → isT o → H' a = some o
section
variable {K : PySem.W.Frag} {H H' H2 : Hp} {D : Addr} {o u : HO}
theorem same_ts (e : Same H H') : TSame H H' := fun a o q _ => e a o q
theorem TSame.trans (e : TSame H H') (f : TSame H' H2) : TSame H H2 := fun a o q t => f a o (e a o q t) t
theorem ts_upd (h : H D = some u) (n : ¬ isT u) : TSame H (upd H D o) := fun a q e t => by
  have ne : a ≠ D := fun z => by
    rw [z, h] at e
    cases e
    exact n t
  rw [upd_ne ne]
  exact e
theorem ts_new (h : H D = none) : TSame H (upd H D o) := same_ts (same_new h)
theorem ts_wo (h : H D = some u) (n : ¬ isT u) : TSame H (wo H D) := fun a q e t => by
  have ne : a ≠ D := fun z => by
    rw [z, h] at e
    cases e
    exact n t
  rw [wo_ne ne]
  exact e
theorem ts_woN (h : H D = none) : TSame H (wo H D) := fun a q e t => by
  rw [wo_ne (ne_of_none e h)]
  exact e
theorem nt_lst {xs : List V} : ¬ isT (.lst xs) := fun h => h
theorem nt_ins {C dx : Addr} {fs : List (Str × V)} : ¬ isT (.ins C dx fs) := fun h => h
theorem ts_seq {a : Addr} {xs : List V} (e : TSame H H') (h : SqT K H a xs) : SqT K H' a xs := by
  rcases h with (h | ⟨o, h⟩) | h
  · exact .inl (.inl (e _ _ h trivial))
  · exact .inl (.inr ⟨o, e _ _ h trivial⟩)
  · exact .inr h
theorem dp_ts {v : V} {d : PyData} (e : TSame H H') (f : flatT d = true) (h : Dp K H v d) : Dp K H' v d := by
  cases d with
  | tuple ds =>
    obtain ⟨a, xs, rfl, s, q⟩ := dp_tup h
    exact .tup (ts_seq e s) (dpA_flat (fun d m => List.all_eq_true.mp f d m) q)
  | none => exact dp_flat rfl h
  | bool b => exact dp_flat rfl h
  | int b => exact dp_flat rfl h
  | str b => exact dp_flat rfl h
  | list ds => exact absurd (show flatD (.list ds) = true from f) Bool.false_ne_true
  | dict ds => exact absurd (show flatD (.dict ds) = true from f) Bool.false_ne_true
theorem dpA_ts {ds : List PyData} (e : TSame H H') : ∀ {vs : List V}, (∀ d ∈ ds, flatT d = true) → DpAll K H vs ds → DpAll K H' vs ds := by
  induction ds with
  | nil => intro vs _ h; cases h; exact .nil
  | cons d ds ih =>
    intro vs f h
    cases h with
    | cons h t => exact .cons (dp_ts e (f d List.mem_cons_self) h) (ih (fun d' m => f d' (List.mem_cons_of_mem _ m)) t)
/-- at D a tracked list of flat things -/
def FL (K : PySem.W.Frag) (H : Hp) (D : Addr) (ds : List PyData) : Prop := ∃ acc, H D = some (.lst acc) ∧ DpAll K H acc ds
theorem FL.nil (h : H D = some (.lst [])) : FL K H D [] := ⟨[], h, .nil⟩
theorem FL.ts {ds : List PyData} (h : FL K H D ds) (e : H' D = H D) (t : TSame H H') (f : ∀ d ∈ ds, flatT d = true) : FL K H' D ds := by
  obtain ⟨acc, a, q⟩ := h
  exact ⟨acc, by rw [e, a], dpA_ts t f q⟩
theorem FL.same {ds : List PyData} (h : FL K H D ds) (e : Same H H') : FL K H' D ds := by
  obtain ⟨acc, a, q⟩ := h
  exact ⟨acc, e _ _ a, dpA_mono e _ _ q⟩
theorem FL.app {ds : List PyData} {acc : List V} {y : V} {d : PyData} (h : H D = some (.lst acc)) (q : DpAll K H acc ds) (f : ∀ d ∈ ds, flatT d = true) (fd : flatT d = true) (hy : Dp K H y d) : FL K (upd H D (.lst (acc ++ [y]))) D (ds ++ [d]) :=
  ⟨_, upd_same, dpA_app (dpA_ts (ts_upd h nt_lst) f q) (.cons (dp_ts (ts_upd h nt_lst) fd hy) .nil)⟩
theorem FL.dp {ds : List PyData} (h : FL K H D ds) : Dp K H (.ref D) (.list ds) := by
  obtain ⟨acc, e, q⟩ := h
  exact .lst (SqL.of e) q
end
theorem flat_c (l : List Card) : ∀ d ∈ l.map cD, flatT d = true := fun d m => by
  obtain ⟨t, _, rfl⟩ := List.mem_map.mp m
  rfl
theorem flat_p (l : List Pick) : ∀ d ∈ l.map pD, flatT d = true := fun d m => by
  obtain ⟨t, _, rfl⟩ := List.mem_map.mp m
  rfl
theorem flat_d (l : List Deed) : ∀ d ∈ l.map dD, flatT d = true := fun d m => by
  obtain ⟨t, _, rfl⟩ := List.mem_map.mp m
  cases t <;> rfl
theorem flat_i (l : List Int) : ∀ d ∈ l.map PyData.int, flatT d = true := fun d m => by
  obtain ⟨t, _, rfl⟩ := List.mem_map.mp m
  rfl
theorem zw_at {α β γ : Type} {f : α → β → γ} {l : List α} {r : List β} {i : Nat} {a : α} {b : β} (h : l[i]? = some a) (g : r[i]? = some b) : (List.zipWith f l r)[i]? = some (f a b) := by
  rw [List.getElem?_zipWith, h, g]
theorem take_map {α β : Type} {l : List α} {i : Nat} {x : α} (f : α → β) (h : l[i]? = some x) : (l.take (i + 1)).map f = (l.take i).map f ++ [f x] := by
  rw [List.take_succ, h, List.map_append]
  rfl
theorem take_len {α β : Type} {l : List α} {n : Nat} (f : α → β) (h : l.length = n) : (l.take n).map f = l.map f := by rw [← h, List.take_length]
theorem cardOk_turned {t : Card} {c : Nat} (h : CardOk t) : CardOk (cTurned t c) := by
  unfold CardOk madeP at *
  simp only [Bool.and_eq_true, decide_eq_true_eq] at h ⊢
  obtain ⟨h1, h2, h3, h4⟩ := h
  refine ⟨h1, h2, h3, ?_⟩
  show 0 ≤ (t.2.2 + adv c) % 4 ∧ (t.2.2 + adv c) % 4 ≤ 3
  omega
theorem fits_len {z : Str} {n : Nat} (h : fitsP z n = true) : z.cps.toList.length = n ∧ z.cps.size = n ∧ z.cps.toList.all fbi = true := by
  unfold fitsP at h
  simp only [Bool.and_eq_true, decide_eq_true_eq] at h
  exact ⟨str_size h.1, h.1, h.2⟩
theorem all_at {l : List Nat} {p : Nat → Bool} {i c : Nat} (h : l.all p = true) (e : l[i]? = some c) : p c = true := List.all_eq_true.mp h c (List.mem_of_getElem? e)
theorem small_line {n : Nat} (h : n ≤ 1000) : n < sizeLine := by rw [sizeLine_eq]; omega
/-! ### lists that a comprehension makes -/
def PvI (Hb : Hp) (D : Addr) (l : List Int) (i : Nat) (H' : Hp) : Prop := Same Hb H' ∧ H' D = some (.lst ((l.take i).map V.int))
theorem PvI.start {Hb : Hp} {D : Addr} {l : List Int} (h : Hb D = none) : PvI Hb D l 0 (upd Hb D (.lst [])) := ⟨same_new h, upd_same⟩
theorem PvI.step {Hb H' H2 : Hp} {D : Addr} {l : List Int} {i : Nat} {v : Int} (h : PvI Hb D l i H') (e : Same H' H2) (n : Hb D = none) (hv : l[i]? = some v) (hl : l.length ≤ 1000) :
    ∃ acc, H2 D = some (.lst acc) ∧ acc.length < sizeLine ∧ PvI Hb D l (i + 1) (upd H2 D (.lst (acc ++ [V.int v]))) := by
  refine ⟨_, e _ _ h.2, small_line (by rw [List.length_map, List.length_take]; omega), same_put (h.1.trans e) n, ?_⟩
  rw [take_map V.int hv, upd_same]
def PvC (K : PySem.W.Frag) (Hb : Hp) (D : Addr) (l : List Card) (i : Nat) (H' : Hp) : Prop := Same Hb H' ∧ FL K H' D ((l.take i).map cD)
theorem PvC.start {K : PySem.W.Frag} {Hb : Hp} {D : Addr} {l : List Card} (h : Hb D = none) : PvC K Hb D l 0 (upd Hb D (.lst [])) := ⟨same_new h, .nil upd_same⟩
theorem PvC.step {K : PySem.W.Frag} {Hb H' H2 : Hp} {D : Addr} {l : List Card} {i : Nat} {t : Card} {y : V} (h : PvC K Hb D l i H') (e : Same H' H2) (n : Hb D = none) (ht : l[i]? = some t) (hl : l.length ≤ 1000) (hy : Dp K H2 y (cD t)) :
    ∃ acc, H2 D = some (.lst acc) ∧ acc.length < sizeLine ∧ PvC K Hb D l (i + 1) (upd H2 D (.lst (acc ++ [y]))) := by
  obtain ⟨s, acc, ea, q⟩ := h
  refine ⟨acc, e _ _ ea, small_line (by rw [dpA_len q, List.length_map, List.length_take]; omega), same_put (s.trans e) n, ?_⟩
  rw [take_map cD ht]
  exact FL.app (e _ _ ea) (dpA_mono e _ _ q) (flat_c _) rfl hy
theorem card_get {K : PySem.W.Frag} {H : Hp} {xs : List V} {cards : List Card} {i : Nat} {x : V} (h : DpAll K H xs (cards.map cD)) (e : xs[i]? = some x) : ∃ t, cards[i]? = some t ∧ Dp K H x (cD t) := by
  obtain ⟨d, hd, q⟩ := dpA_get h e
  rw [List.getElem?_map] at hd
  obtain ⟨t, ht, rfl⟩ := Option.map_eq_some_iff.mp hd
  exact ⟨t, ht, q⟩
theorem card_put {K : PySem.W.Frag} {H : Hp} {xs : List V} {cards : List Card} {i : Nat} {t : Card} (h : DpAll K H xs (cards.map cD)) (e : cards[i]? = some t) : ∃ x, xs[i]? = some x ∧ Dp K H x (cD t) :=
  dpA_at h (by rw [List.getElem?_map, e]; rfl)
theorem drawn_none (t : Lens) : t.foldl drawOne none = none := by
  induction t with
  | nil => rfl
  | cons q t ih => rw [List.foldl_cons]; exact ih
theorem fold_at {α β : Type} {f : β → α → β} {l : List α} {i : Nat} {x : α} (b : β) (h : l[i]? = some x) : (l.take (i + 1)).foldl f b = f ((l.take i).foldl f b) x := by
  rw [List.take_succ, h, List.foldl_append]
  rfl
theorem fold_split {α β : Type} {f : β → α → β} {l : List α} {i : Nat} {x : α} (b : β) (h : l[i]? = some x) : l.foldl f b = (l.drop (i + 1)).foldl f (f ((l.take i).foldl f b) x) := by
  rw [← fold_at (f := f) b h, ← List.foldl_append, List.take_append_drop]
theorem gt_rd {H : Hp} {d : Addr} {l : Lens} {k : Str} (h : Rd H d (.dK (eL l))) : DGet H d (V.str k) ((gt l k).map V.int) := .inl ⟨_, Sum.inr k, h, rfl, (valV_eL l k).symm⟩
theorem gt_d {H : Hp} {d : Addr} {l : Lens} {k : Str} (h : H d = some (.dK (eL l))) : DGet H d (V.str k) ((gt l k).map V.int) := gt_rd (.inl h)
theorem pt_d {H : Hp} {d : Addr} {l : Lens} {k : Str} {v : Int} (h : H d = some (.dK (eL l))) (hl : l.length < sizeLine) : DPut H d (V.str k) (V.int v) (upd H d (.dK (eL (pt l k v)))) := by
  rw [← putK_eL]
  exact .inl ⟨_, Sum.inr k, h, rfl, by rw [eL_len]; exact hl, rfl⟩
theorem getD_map (o : Option Int) : (o.map V.int).getD (V.int 0) = V.int (o.getD 0) := by cases o <;> rfl
theorem pt_mem {l : Lens} {k : Str} {v : Int} {q : Str × Int} (h : q ∈ pt l k v) : q ∈ l ∨ q = (k, v) := by
  unfold pt at h
  split at h
  · obtain ⟨p, hp, e⟩ := List.mem_map.mp h
    by_cases c : p.1 = k
    · rw [if_pos c] at e
      exact .inr (by rw [← e, c])
    · rw [if_neg c] at e
      exact .inl (e ▸ hp)
  · rcases List.mem_append.mp h with h | h
    · exact .inl h
    · exact .inr (by simpa using h)
theorem gt_mem {l : Lens} {k : Str} {v : Int} (h : gt l k = some v) : (k, v) ∈ l := by
  unfold gt at h
  obtain ⟨p, hp, e⟩ := Option.map_eq_some_iff.mp h
  have h1 := List.mem_of_find?_eq_some hp
  have h2 := List.find?_some hp
  have h3 : p.1 = k := of_decide_eq_true h2
  rw [← h3, ← e]
  exact h1
theorem gt_pos {l : Lens} (h : ∀ q ∈ l, 0 ≤ q.2) (k : Str) : 0 ≤ (gt l k).getD 0 := by
  cases e : gt l k with
  | none => exact Int.le_refl _
  | some v => exact h _ (gt_mem e)
theorem taken_len (l : List (Nat × Int)) : ∀ acc : Lens, (l.foldl takeOne acc).length ≤ acc.length + l.length := by
  induction l with
  | nil => intro acc; exact Nat.le_refl _
  | cons q l ih =>
    intro acc
    rw [List.foldl_cons]
    have h := ih (takeOne acc q)
    have h2 : (takeOne acc q).length ≤ acc.length + 1 := pt_len _ _ _
    rw [List.length_cons]
    omega
theorem taken_pos (l : List (Nat × Int)) (hl : ∀ q ∈ l, 0 < q.2) : ∀ acc : Lens, (∀ q ∈ acc, 0 < q.2) → ∀ q ∈ l.foldl takeOne acc, 0 < q.2 := by
  induction l with
  | nil => intro acc h; exact h
  | cons x l ih =>
    intro acc h
    rw [List.foldl_cons]
    refine ih (fun q m => hl q (List.mem_cons_of_mem _ m)) _ fun q m => ?_
    rcases pt_mem m with m | m
    · exact h q m
    · rw [m]
      have h0 := gt_pos (fun q m => Int.le_of_lt (h q m)) (sg x.1)
      have h1 := hl x List.mem_cons_self
      show 0 < (gt acc (sg x.1)).getD 0 + x.2
      omega
theorem drw_pos (cards : List Card) (row : List Nat) : ∀ q ∈ drw cards row, 0 < q.2 := by
  intro q m
  unfold drw at m
  obtain ⟨l, hl, hq⟩ := List.mem_flatten.mp m
  obtain ⟨i, hi⟩ := List.mem_iff_getElem?.mp hl
  rw [List.getElem?_zipWith] at hi
  split at hi
  · cases hi
    obtain ⟨h, _, rfl⟩ := List.mem_map.mp hq
    show (0 : Int) < if _ then 1 else 2
    split <;> decide
  · cases hi
theorem drw_len (cards : List Card) (row : List Nat) (h : ∀ t ∈ cards, CardOk t) : (drw cards row).length ≤ 4 * cards.length := by
  unfold drw
  induction cards generalizing row with
  | nil => simp
  | cons t cards ih =>
    cases row with
    | nil => simp
    | cons c row =>
      rw [List.zipWith_cons_cons, List.flatten_cons, List.length_append, List.length_map, (cardOk_parts (h t List.mem_cons_self)).2.1, List.length_cons]
      have := ih row (fun t m => h t (List.mem_cons_of_mem _ m))
      omega
theorem dpA_set {K : PySem.W.Frag} {H : Hp} {vs : List V} {ds : List PyData} {v : V} {d : PyData} (h : DpAll K H vs ds) (g : Dp K H v d) : ∀ {k : Nat}, DpAll K H (vs.set k v) (ds.set k d) := by
  induction ds generalizing vs with
  | nil => cases h; exact .nil
  | cons e ds ih =>
    cases h with
    | cons h t =>
      intro k
      cases k with
      | zero => exact .cons g t
      | succ k => exact .cons h (ih t)
/-! ### stages and looms -/
section
variable {K : PySem.W.Frag} {H H' G G0 W : Hp} {p q : Addr} {s : Sg} {m : Lm}
theorem stageAt_mono (e : Same H H') (h : StageAt K H p s) : StageAt K H' p s := by
  obtain ⟨dx, a, b, c0, d0, hp, ha, hb, hc0, hd⟩ := h
  exact ⟨dx, a, b, c0, d0, e _ _ hp, dp_mono e _ _ ha, dp_mono e _ _ hb, dp_mono e _ _ hc0, e _ _ hd⟩
theorem stage_new_at (h : StageNew K H H' q s) (w : ∀ a, H a = none → W a = H' a) (t : TSame H' W) : StageAt K W q s := by
  obtain ⟨dx, a, b, c, d, xs, nq, na, nb, nc, nd, h1, h2, h3, h4, h5, h6⟩ := h
  exact ⟨dx, a, b, c, d, (w q nq).trans h1, .lst (SqL.of ((w a na).trans h2)) (dpA_ts t (flat_c _) h3), .lst (SqL.of ((w b nb).trans h4)) dpA_ofInts, .lst (SqL.of ((w c nc).trans h5)) dpA_ofInts, (w d nd).trans h6⟩
theorem all2_mono {R R' : V → Sg → Prop} (f : ∀ v s, R v s → R' v s) {vs : List V} {ss : List Sg} (h : All2 R vs ss) : All2 R' vs ss := by
  induction h with
  | nil => exact .nil
  | cons h _ ih => exact .cons (f _ _ h) ih
theorem all2_len {R : V → Sg → Prop} {vs : List V} {ss : List Sg} (h : All2 R vs ss) : vs.length = ss.length := by
  induction h with
  | nil => rfl
  | cons h _ ih => simp [ih]
theorem all2_app {R : V → Sg → Prop} {vs : List V} {ss : List Sg} {v : V} {s : Sg} (h : All2 R vs ss) (g : R v s) : All2 R (vs ++ [v]) (ss ++ [s]) := by
  induction h with
  | nil => exact .cons g .nil
  | cons h _ ih => exact .cons h ih
theorem all2_get {R : V → Sg → Prop} {vs : List V} {ss : List Sg} (h : All2 R vs ss) {i : Nat} {v : V} (e : vs[i]? = some v) : ∃ s, ss[i]? = some s ∧ R v s := by
  induction h generalizing i with
  | nil => simp at e
  | cons h _ ih =>
    cases i with
    | zero =>
      cases Option.some.inj e
      exact ⟨_, rfl, h⟩
    | succ i => exact ih (by simpa using e)
theorem last_get {α : Type} {l : List α} {d : α} (h : l ≠ []) : l[l.length - 1]? = some (l.getLastD d) := by
  rw [← List.getLast?_eq_getElem?]
  obtain ⟨x, hx⟩ : ∃ x, l.getLast? = some x := ⟨_, List.getLast?_eq_some_getLast h⟩
  rw [hx, List.getLastD_eq_getLast?, hx]
  rfl
theorem atI_end {l : List V} {v : V} (h : l[l.length - 1]? = some v) (n : l ≠ []) : atI l (-1) = some v := by
  have e := List.dropLast_concat_getLast n
  have e2 : l.getLast n = v := by
    have z := List.getLast?_eq_some_getLast n
    rw [List.getLast?_eq_getElem?, h] at z
    exact (Option.some.inj z).symm
  rw [← e, e2]
  exact atI_last _ _
/-- the last stage of a loom -/
theorem loom_last {dx ad asp ado ast aun : Addr} (hl : LoomG K G G0 H p m dx ad asp ado ast aun) (hn : m.sts ≠ []) : ∃ ys q, H ast = some (.lst ys) ∧ atI ys (-1) = some (V.ref q) ∧ StageAt K G q m.last := by
  obtain ⟨ys, hys, hall⟩ := hl.sts
  have l2 := all2_len hall
  have hp : 0 < m.sts.length := List.length_pos_iff.mpr hn
  have hi : ys.length - 1 < ys.length := by omega
  have e := List.getElem?_eq_getElem hi
  obtain ⟨s, hs, q, hq, hst⟩ := all2_get hall e
  rw [l2, last_get (d := ⟨[], [], [], []⟩) hn] at hs
  cases hs
  rw [hq] at e
  exact ⟨ys, q, hys, atI_end e (fun z => by rw [z] at hi; simp at hi), hst⟩
theorem lm_ne (h : LmOk m) : m.sts ≠ [] := fun z => by
  have := h.len
  rw [z] at this
  simp at this
theorem lm_last (h : LmOk m) : StOk m.last := by
  refine h.st _ ?_
  have e := last_get (d := ⟨[], [], [], []⟩) (lm_ne h)
  exact List.mem_of_getElem? e
theorem loomIn_mono (e : Same H H') (h : LoomIn K G0 H p m) : LoomIn K G0 H' p m := by
  obtain ⟨G, dx, ad, asp, ado, ast, aun, h⟩ := h
  obtain ⟨xs, hxs, dxs⟩ := h.done
  obtain ⟨ys, hys, dys⟩ := h.sts
  exact ⟨G, dx, ad, asp, ado, ast, aun, h.g0, h.g.trans e, h.np, h.nd, h.ns, h.ne, e _ _ h.ins, h.draft, h.spools, ⟨xs, e _ _ hxs, dxs⟩, ⟨ys, e _ _ hys, dys⟩⟩
def wo3 (H : Hp) (a b c : Addr) : Hp := wo (wo (wo H a) b) c
theorem wo3_ne {a b c x : Addr} (h1 : x ≠ a) (h2 : x ≠ b) (h3 : x ≠ c) : wo3 H a b c x = H x := by
  unfold wo3
  rw [wo_ne h3, wo_ne h2, wo_ne h1]
theorem wo3_same {a b c : Addr} : Same (wo3 H a b c) H := (same_wo.trans same_wo).trans same_wo
theorem loom_grow {dx ad asp ado ast aun : Addr} (h : LoomG K G G0 H p m dx ad asp ado ast aun) (e : Same H H') : LoomG K (wo3 H' p ado ast) G0 H' p m dx ad asp ado ast aun ∧ Same G (wo3 H' p ado ast) ∧ (∀ a, H a = none → wo3 H' p ado ast a = H' a) ∧ TSame H' (wo3 H' p ado ast) := by
  obtain ⟨xs, hxs, dxs⟩ := h.done
  obtain ⟨ys, hys, dys⟩ := h.sts
  have gw : Same G (wo3 H' p ado ast) := fun b o q => by
    rw [wo3_ne (ne_of_none q h.np) (ne_of_none q h.nd) (ne_of_none q h.ns)]
    exact e _ _ (h.g _ _ q)
  refine ⟨⟨h.g0.trans gw, wo3_same, ?_, ?_, wo_none, h.ne, e _ _ h.ins, dp_mono gw _ _ h.draft, gw _ _ h.spools, ⟨xs, e _ _ hxs, dpA_mono gw _ _ dxs⟩, ⟨ys, e _ _ hys, all2_mono (fun v s ⟨q, h1, h2⟩ => ⟨q, h1, stageAt_mono gw h2⟩) dys⟩⟩, gw, fun a na => ?_, fun a o ea t => ?_⟩
  · unfold wo3
    by_cases h1 : p = ast
    · rw [h1]; exact wo_none
    · rw [wo_ne h1]
      by_cases h2 : p = ado
      · rw [h2]; exact wo_none
      · rw [wo_ne h2]; exact wo_none
  · unfold wo3
    rw [wo_ne h.ne]; exact wo_none
  · exact wo3_ne (fun z => by rw [z, h.ins] at na; cases na) (fun z => by rw [z, hxs] at na; cases na) (fun z => by rw [z, hys] at na; cases na)
  · rw [wo3_ne (fun z => ?_) (fun z => ?_) (fun z => ?_)]
    · exact ea
    · rw [z, e _ _ h.ins] at ea; cases ea; exact t
    · rw [z, e _ _ hxs] at ea; cases ea; exact t
    · rw [z, e _ _ hys] at ea; cases ea; exact t
end
/-! ### numbers as texts -/
theorem char_back : ∀ c : Nat, c < 58 → (Char.ofNat c).toNat = c := by decide
theorem all_dig {l : List Nat} (h : l.all digit = true) : NumText.AllDigits l := fun c hc => by
  have z := List.all_eq_true.mp h c hc
  unfold digit at z
  exact of_decide_eq_true z
theorem dig_lt : ∀ (l : List Nat) (a : Nat), NumText.AllDigits l → l.foldl (fun acc c => acc * 10 + (c - 48)) a < (a + 1) * 10 ^ l.length
  | [], a, _ => by simp
  | c :: r, a, h => by
    have hc := h.head
    have ih := dig_lt r (a * 10 + (c - 48)) h.tail
    rw [List.foldl_cons, List.length_cons, Nat.pow_succ]
    refine Nat.lt_of_lt_of_le ih ?_
    have : a * 10 + (c - 48) + 1 ≤ (a + 1) * 10 := by omega
    calc (a * 10 + (c - 48) + 1) * 10 ^ r.length ≤ ((a + 1) * 10) * 10 ^ r.length := Nat.mul_le_mul_right _ this
      _ = (a + 1) * (10 ^ r.length * 10) := by rw [Nat.mul_assoc, Nat.mul_comm 10]
theorem num_lt {z : Str} {i : Int} (h : num z = some i) : i < 1000000000 := by
  unfold num at h
  split at h
  · rename_i hn
    unfold numOk at hn
    simp only [Bool.and_eq_true, Bool.not_eq_true', Bool.or_eq_false_iff, decide_eq_false_iff_not] at hn
    obtain ⟨⟨⟨h1, h2⟩, h3⟩, h4⟩ := hn
    have hd := all_dig h4
    have hl : z.cps.toList.length = z.length := Array.length_toList
    have hne : z.cps.toList ≠ [] := fun e => by rw [e] at hl; exact h1 hl.symm
    rw [PySem.intText_digits hd hne (by omega)] at h
    cases Option.some.inj h
    have hb := dig_lt z.cps.toList 0 hd
    have hp : 10 ^ z.cps.toList.length ≤ 10 ^ 9 := Nat.pow_le_pow_right (by decide) (by omega)
    have : NumText.digitsVal z.cps.toList < 10 ^ 9 := by
      show z.cps.toList.foldl _ 0 < _
      omega
    omega
  · cases h
theorem log_ok {i : Int} (h0 : -10000000000 < i) (h : i < 10000000000) : i.natAbs.log2 < 1920 := by
  by_cases e : i.natAbs = 0
  · rw [e]
    decide
  · rw [Nat.log2_lt e]
    have h1 : i.natAbs < 2 ^ 40 := by omega
    exact Nat.lt_of_lt_of_le h1 (Nat.pow_le_pow_right (by decide) (by decide))
theorem toS_len {i : Int} (h0 : 0 ≤ i) (h : i < 1000000000) : (toS i).length ≤ 9 := by
  obtain ⟨n, rfl⟩ := Int.eq_ofNat_of_zero_le h0
  have e : (toS (n : Int)).length = (TL.numL n).length := by
    rw [← TL.tl_num n]
    exact (Array.length_toList (xs := (PySem.Str.ofString (toString (n : Int))).cps)).symm
  rw [e]
  exact TL.numL_len (by decide) (by omega)
theorem gt_key {l : Lens} {k : Str} (h : k ∈ l.map (·.1)) : ∃ v, gt l k = some v := by
  cases e : gt l k with
  | some v => exact ⟨v, rfl⟩
  | none =>
    unfold gt at e
    rw [Option.map_eq_none_iff, List.find?_eq_none] at e
    obtain ⟨p, hp, rfl⟩ := List.mem_map.mp h
    exact absurd (decide_eq_true rfl) (e p hp)
theorem app_len (a b : Str) : (a ++ b).length = a.length + b.length := by
  show (a.cps ++ b.cps).size = _
  rw [Array.size_append]
  rfl
theorem num_some {z : Str} {i : Int} (h : num z = some i) : PySem.intText? z = some i ∧ toS i = z ∧ z.length ≤ 9 ∧ 0 ≤ i := by
  unfold num at h
  split at h
  · rename_i hn
    unfold numOk at hn
    simp only [Bool.and_eq_true, Bool.not_eq_true', Bool.or_eq_false_iff, decide_eq_false_iff_not] at hn
    obtain ⟨⟨⟨h1, h2⟩, h3⟩, h4⟩ := hn
    have hd := all_dig h4
    have hl : z.cps.toList.length = z.length := Array.length_toList
    have hne : z.cps.toList ≠ [] := fun e => by rw [e] at hl; exact h1 hl.symm
    have e := PySem.intText_digits hd hne (by omega)
    refine ⟨h, ?_, by omega, ?_⟩
    · rw [e] at h
      cases Option.some.inj h
      obtain ⟨n, hn⟩ : ∃ n, z.cps.toList.length = n + 1 := ⟨z.cps.toList.length - 1, by have := List.length_pos_iff.mpr hne; omega⟩
      have td := NumText.toDigits_digitsVal n z.cps.toList hn hd (by
        by_cases h5 : n = 0
        · exact .inl h5
        · right
          cases e2 : z.cps.toList with
          | nil => exact absurd e2 hne
          | cons c r =>
            refine ⟨c, r, rfl, ?_⟩
            have hc := hd c (by rw [e2]; exact List.mem_cons_self)
            have h6 : ¬ c = 48 := fun e3 => by
              have h7 : z.cps.toList[0]? = some 48 := by rw [e2, e3]; rfl
              have h8 : 1 < z.length := by omega
              rw [decide_eq_true h7, decide_eq_true h8] at h3
              cases h3
            omega)
      apply str_ext
      show (PySem.Str.ofString (toString (((NumText.digitsVal z.cps.toList : Nat)) : Int))).cps.toList = _
      have t1 := TL.tl_num (NumText.digitsVal z.cps.toList)
      have t2 : TL.numL (NumText.digitsVal z.cps.toList) = z.cps.toList := by
        unfold TL.numL
        rw [td, List.map_map]
        have : ∀ l : List Nat, NumText.AllDigits l → l.map (Char.toNat ∘ Char.ofNat) = l := by
          intro l
          induction l with
          | nil => intro _; rfl
          | cons c l ih =>
            intro hl
            rw [List.map_cons, ih hl.tail]
            have := hl.head
            rw [show (Char.toNat ∘ Char.ofNat) c = c from char_back c (by omega)]
        exact this _ hd
      exact t1.trans t2
    · rw [e] at h
      cases Option.some.inj h
      omega
  · cases h
theorem dig_mem (c : Nat) : decide (c ∈ (PySem.Str.ofString "0123456789").cps.toList) = digit c := by
  have e : (PySem.Str.ofString "0123456789").cps.toList = [48, 49, 50, 51, 52, 53, 54, 55, 56, 57] := by decide +kernel
  rw [e]
  unfold digit
  rw [Bool.eq_iff_iff, decide_eq_true_eq, decide_eq_true_eq]
  constructor
  · intro h
    simp only [List.mem_cons, List.not_mem_nil, or_false] at h
    omega
  · intro ⟨h1, h2⟩
    simp only [List.mem_cons, List.not_mem_nil, or_false]
    omega
theorem num_of {z : Str} (h : numOk z = true) : ∃ i, num z = some i := by
  have h0 := h
  unfold numOk at h
  simp only [Bool.and_eq_true, Bool.not_eq_true', Bool.or_eq_false_iff, decide_eq_false_iff_not] at h
  obtain ⟨⟨⟨h1, h2⟩, h3⟩, h4⟩ := h
  have hl : z.cps.toList.length = z.length := Array.length_toList
  have hne : z.cps.toList ≠ [] := fun e => by rw [e] at hl; exact h1 hl.symm
  refine ⟨((NumText.digitsVal z.cps.toList : Nat) : Int), ?_⟩
  unfold num
  rw [if_pos h0]
  exact PySem.intText_digits (all_dig h4) hne (by omega)
theorem empty_len {z : Str} (h : z.length = 0) : z = "" := by
  have e : z.cps = #[] := Array.eq_empty_of_size_eq_zero h
  obtain ⟨c⟩ := z
  rw [show c = #[] from e]
  decide +kernel
/-! ### lines -/
theorem line_at {K : PySem.W.Frag} {H : Hp} {xs : List V} {L : List (List Str)} {i : Nat} {x : List Str} (h : DpAll K H xs (L.map wD)) (e : L[i]? = some x) : ∃ b, xs[i]? = some (.ref b) ∧ SqL K H b (x.map V.str) := by
  obtain ⟨u, hu, hd⟩ := dpA_at (d := wD x) h (by rw [List.getElem?_map, e]; rfl)
  obtain ⟨b, rfl, sb⟩ := dp_strs hd
  exact ⟨b, hu, sb⟩
theorem lines_mono {K : PySem.W.Frag} {H H' : Hp} {v : V} {L : List (List Str)} (h : LinesAt K H v L) (e : Same H H') : LinesAt K H' v L := ⟨dp_mono e _ _ h.1, h.2⟩
theorem spoolM_len {x : List Str} {last : Str} (h : ¬ x.length = 3) : spoolM x last = none := by
  match x, h with
  | [], _ => rfl
  | [_], _ => rfl
  | [_, _], _ => rfl
  | [_, _, _], h => exact absurd rfl h
  | _ :: _ :: _ :: _ :: _, _ => rfl
theorem tabletM_len {x : List Str} (h : ¬ x.length = 4) : tabletM x = none := by
  match x, h with
  | [], _ => rfl
  | [_], _ => rfl
  | [_, _], _ => rfl
  | [_, _, _], _ => rfl
  | [_, _, _, _], h => exact absurd rfl h
  | _ :: _ :: _ :: _ :: _ :: _, _ => rfl
theorem lineM_len {most : Int} {s : Sg} {x : List Str} (h : ¬ x.length = 2) : lineM most s x = none := by
  match x, h with
  | [], _ => rfl
  | [_], _ => rfl
  | [_, _], h => exact absurd rfl h
  | _ :: _ :: _ :: _, _ => rfl
theorem three {α : Type} {x : List α} (h : x.length = 3) : ∃ a b c, x = [a, b, c] := by
  match x, h with
  | [a, b, c], _ => exact ⟨a, b, c, rfl⟩
theorem four_ {α : Type} {x : List α} (h : x.length = 4) : ∃ a b c d, x = [a, b, c, d] := by
  match x, h with
  | [a, b, c, d], _ => exact ⟨a, b, c, d, rfl⟩
theorem two_ {α : Type} {x : List α} (h : x.length = 2) : ∃ a b, x = [a, b] := by
  match x, h with
  | [a, b], _ => exact ⟨a, b, rfl⟩
theorem drop_at {α : Type} {l : List α} {i : Nat} {x : α} (h : l[i]? = some x) : l.drop i = x :: l.drop (i + 1) := by
  obtain ⟨hi, e⟩ := List.getElem?_eq_some_iff.mp h
  rw [List.drop_eq_getElem_cons hi, e]
theorem spoolsM_stop {L : List (List Str)} {last : Str} {acc : Lens} (h : ¬ (L[0]?).bind List.head? = some ("spool" : Str)) : spoolsM L last acc = some (acc, L) := by
  cases L with
  | nil => rfl
  | cons x r => exact if_neg h
theorem draftM_stop {L : List (List Str)} {acc : List Card} (h : ¬ (L[0]?).bind List.head? = some ("tablet" : Str)) : draftM L acc = some (acc, L) := by
  cases L with
  | nil => rfl
  | cons x r => exact if_neg h
theorem ok_sg (c : Nat) : isCol (sg c) = low c := by
  unfold isCol
  rw [decide_eq_true (show (sg c).length = 1 from rfl)]
  simp [sg]
theorem col_len {z : Str} (h : isCol z = true) : z.length = 1 := by
  unfold isCol at h
  exact of_decide_eq_true ((Bool.and_eq_true _ _).mp h).1
theorem card_str {z : Card} (h : CardOk z) : PyData.strOk z.1 = true ∧ PyData.strOk z.2.1 = true := by
  obtain ⟨h1, h2, h3, _⟩ := cardOk_parts h
  constructor
  · rcases h1 with e | e <;> rw [e] <;> decide +kernel
  · unfold PyData.strOk
    rw [← Array.all_toList, List.all_eq_true]
    intro c hc
    have z := List.all_eq_true.mp h3 c hc
    unfold low at z
    have z2 := of_decide_eq_true z
    exact decide_eq_true (by omega)
theorem cD_lay : ∀ zs : List Card, (∀ t ∈ zs, CardOk t) → PyData.canLayAll0 (zs.map cD) = true
  | [], _ => by simp [PyData.canLayAll0]
  | z :: zs, h => by
    have e := card_str (h z List.mem_cons_self)
    simp [PyData.canLayAll0, cD, PyData.canLay0, cD_lay zs fun t m => h t (List.mem_cons_of_mem _ m), e]
theorem tabletM_ok {x : List Str} {c : Card} (h : tabletM x = some c) : CardOk c := by
  unfold tabletM at h
  split at h
  · cases hn : num ‹Str› with
    | none => rw [hn] at h; cases h
    | some n =>
      rw [hn] at h
      have h2 : (if madeP _ _ n = true then some (_, _, n) else none) = some c := h
      split at h2
      · rename_i hm
        cases h2
        exact hm
      · cases h2
  · cases h
theorem cD_depth : ∀ zs : List Card, PyData.depthAll (zs.map cD) ≤ 1
  | [] => by simp [PyData.depthAll]
  | z :: zs => by
    have h1 := cD_depth zs
    simp only [List.map_cons, PyData.depthAll, cD, PyData.depth]
    omega
theorem cD_shaped (zs : List Card) (h : ∀ t ∈ zs, CardOk t) : SeqAt.shaped (.list (zs.map cD)) = true := by
  have h1 := cD_depth zs
  have h2 : PyData.depth (.list (zs.map cD)) ≤ 64 := by
    simp only [PyData.depth]
    omega
  show (PyData.canLay0 (.list (zs.map cD)) && decide (PyData.depth (.list (zs.map cD)) ≤ 64)) = true
  rw [Bool.and_eq_true]
  exact ⟨by simp only [PyData.canLay0]; exact cD_lay zs h, decide_eq_true h2⟩
theorem nil_shaped : SeqAt.shaped (.list []) = true := by
  show (PyData.canLay0 (.list []) && decide (PyData.depth (.list []) ≤ 64)) = true
  simp [PyData.canLay0, PyData.canLayAll0, PyData.depth, PyData.depthAll]
theorem cD_nil (zs : List Card) : PyData.eqv (.list (zs.map cD)) (.list []) = decide (zs = []) := by
  cases zs with
  | nil => simp [PyData.eqv, PyData.eqvAll]
  | cons z zs => simp [PyData.eqv, PyData.eqvAll]
/-! ### texts cut and joined -/
theorem pre_one (s c : Nat) (r : List Nat) : TL.pre [s] (c :: r) = (c == s) := by
  show ([c] == [s]) = _
  simp
theorem spl_facts (s : Nat) : ∀ (l acc : List Nat), TL.spl [s] 0 acc l ≠ [] ∧ TL.joinL [s] (TL.spl [s] 0 acc l) = acc ++ l ∧ (TL.spl [s] 0 acc l).length ≤ l.length + 1 ∧ ∀ p ∈ TL.spl [s] 0 acc l, p.length ≤ acc.length + l.length := by
  intro l
  induction l with
  | nil =>
    intro acc
    rw [TL.spl_nil]
    exact ⟨by simp, by simp [TL.joinL], by simp, fun p m => by rw [List.mem_singleton.mp m]; simp⟩
  | cons c r ih =>
    intro acc
    cases e : (c == s) with
    | true =>
      rw [TL.spl_hit (by rw [pre_one, e])]
      obtain ⟨h1, h2, h3, h4⟩ := ih []
      show _ :: TL.spl [s] 0 [] r ≠ [] ∧ TL.joinL [s] (_ :: TL.spl [s] 0 [] r) = _ ∧ (_ :: TL.spl [s] 0 [] r).length ≤ _ ∧ ∀ p ∈ _ :: TL.spl [s] 0 [] r, _
      refine ⟨by simp, ?_, by rw [List.length_cons, List.length_cons]; omega, fun p m => ?_⟩
      · cases e2 : TL.spl [s] 0 [] r with
        | nil => exact absurd e2 h1
        | cons q qs =>
          show acc ++ ([s] ++ TL.joinL [s] (q :: qs)) = _
          rw [← e2, h2, eq_of_beq e]
          simp
      · rcases List.mem_cons.mp m with m | m
        · rw [m, List.length_cons]; omega
        · have := h4 p m
          rw [List.length_cons]
          simp at this
          omega
    | false =>
      rw [TL.spl_miss (by rw [pre_one, e])]
      obtain ⟨h1, h2, h3, h4⟩ := ih (acc ++ [c])
      refine ⟨h1, by rw [h2]; simp, by rw [List.length_cons]; omega, fun p m => ?_⟩
      have := h4 p m
      rw [List.length_append] at this
      rw [List.length_cons]
      simp at this
      omega
theorem split_facts {y : Str} {s : Nat} (ey : TL.tl y = [s]) (hk : y.cps.all (· < 256) = true) (x : Str) : Txt.split x y ≠ [] ∧ Txt.join y (Txt.split x y) = x ∧ (Txt.split x y).length ≤ x.length + 1 ∧ ∀ p ∈ Txt.split x y, p.length ≤ x.length := by
  have e := TL.split_spl x y (by rw [ey]; simp) (TL.kind_ok hk)
  rw [ey] at e
  obtain ⟨h1, h2, h3, h4⟩ := spl_facts s (TL.tl x) []
  rw [← e] at h1 h2 h3 h4
  have lx : (TL.tl x).length = x.length := (TL.len_tl x).symm
  refine ⟨fun z => h1 (by rw [z]; rfl), ?_, ?_, fun p m => ?_⟩
  · apply TL.ext_tl
    rw [TL.join_eq, TL.tl_join, ey, h2]
    rfl
  · rw [List.length_map, lx] at h3
    exact h3
  · have := h4 (TL.tl p) (List.mem_map.mpr ⟨p, m, rfl⟩)
    rw [← TL.len_tl] at this
    simp only [List.length_nil, Nat.zero_add] at this
    rw [lx] at this
    exact this
theorem split_nl (x : Str) : Txt.split x "\n" ≠ [] ∧ Txt.join "\n" (Txt.split x "\n") = x ∧ (Txt.split x "\n").length ≤ x.length + 1 ∧ ∀ p ∈ Txt.split x "\n", p.length ≤ x.length := split_facts (s := 10) (by decide +kernel) (by decide +kernel) x
theorem split_bl (x : Str) : Txt.split x " " ≠ [] ∧ Txt.join " " (Txt.split x " ") = x ∧ (Txt.split x " ").length ≤ x.length + 1 ∧ ∀ p ∈ Txt.split x " ", p.length ≤ x.length := split_facts (s := 32) (by decide +kernel) (by decide +kernel) x
theorem lines_facts {z : Str} (hz : z.length ≤ 1000000) : linesOf z ≠ [] ∧ (∀ w ∈ linesOf z, w ≠ []) ∧ (linesOf z).length ≤ 1000001 ∧ ∀ w ∈ linesOf z, ∀ y ∈ w, y.length ≤ 1000000 := by
  obtain ⟨h1, h2, h3, h4⟩ := split_nl z
  unfold linesOf
  refine ⟨fun e => h1 (List.map_eq_nil_iff.mp e), fun w m => ?_, by rw [List.length_map]; omega, fun w m y my => ?_⟩
  · obtain ⟨l, hl, rfl⟩ := List.mem_map.mp m
    exact (split_bl l).1
  · obtain ⟨l, hl, rfl⟩ := List.mem_map.mp m
    have := (split_bl l).2.2.2 y my
    have := h4 l hl
    omega
/-- the list of lines, made from its pieces -/
def PvW (K : PySem.W.Frag) (Hb : Hp) (D : Addr) (l : List Str) (i : Nat) (H' : Hp) : Prop := Same Hb H' ∧ Lof K H' D (((l.take i).map fun z => Txt.split z " ").map wD)
theorem PvW.step {K : PySem.W.Frag} {Hb H' : Hp} {D p : Addr} {l : List Str} {i : Nat} {z : Str} (h : PvW K Hb D l i H') (n : Hb D = none) (hz : l[i]? = some z) (hl : l.length ≤ 1000001) (np : H' p = none) :
    ∃ acc, (upd H' p (.lst ((Txt.split z " ").map V.str))) D = some (.lst acc) ∧ acc.length < sizeLine ∧ PvW K Hb D l (i + 1) (upd (upd H' p (.lst ((Txt.split z " ").map V.str))) D (.lst (acc ++ [V.ref p]))) := by
  obtain ⟨s, f⟩ := h
  obtain ⟨acc, ea, la, da⟩ := f.len
  have sp := same_new (o := .lst ((Txt.split z " ").map V.str)) np
  have ne : p ≠ D := Ne.symm (ne_of_none ea np)
  rw [List.length_map, List.length_map, List.length_take] at la
  refine ⟨acc, sp _ _ ea, by rw [sizeLine_eq]; omega, same_put (s.trans sp) n, ?_⟩
  rw [take_map (fun z => Txt.split z " ") hz, List.map_append]
  refine Lof.app (dpA_mono (same_wos sp) _ _ da) (d := wD (Txt.split z " ")) ?_
  exact .lst (SqL.of (by rw [wo_ne ne]; exact upd_same)) dpA_ofStrs

/-! ### the plain reckoning keeps its shape -/
theorem pt_keys {l : Lens} {k : Str} {v w : Int} (h : gt l k = some w) : (pt l k v).map (·.1) = l.map (·.1) := by
  unfold pt
  have e : (l.any fun p => decide (p.1 = k)) = true := by
    rw [List.any_eq_true]
    exact ⟨_, gt_mem h, decide_eq_true rfl⟩
  rw [if_pos e, List.map_map]
  apply List.map_congr_left
  intro p _
  show (if p.1 = k then (p.1, v) else p).1 = p.1
  split <;> rfl
theorem drawn_keys : ∀ (t : Lens) (l l' : Lens), (∀ q ∈ t, 0 < q.2) → (∀ q ∈ l, 0 ≤ q.2) → t.foldl drawOne (some l) = some l' → l'.map (·.1) = l.map (·.1) ∧ ∀ q ∈ l', 0 ≤ q.2 := by
  intro t
  induction t with
  | nil =>
    intro l l' _ hl h
    cases h
    exact ⟨rfl, hl⟩
  | cons x t ih =>
    intro l l' ht hl h
    rw [List.foldl_cons] at h
    by_cases g : (gt l x.1).getD 0 < x.2
    · have e1 : drawOne (some l) x = none := if_pos g
      rw [e1, drawn_none] at h
      cases h
    · have e1 : drawOne (some l) x = some (pt l x.1 ((gt l x.1).getD 0 - x.2)) := if_neg g
      rw [e1] at h
      have hx := ht x List.mem_cons_self
      cases hg : gt l x.1 with
      | none =>
        rw [hg] at g
        exact absurd hx g
      | some v =>
        rw [hg] at g h
        obtain ⟨k1, k2⟩ := ih _ l' (fun q m => ht q (List.mem_cons_of_mem _ m)) (fun q m => by
          rcases pt_mem m with m | m
          · exact hl q m
          · rw [m]
            show 0 ≤ v - x.2
            have g2 : ¬ v < x.2 := g
            omega) h
        exact ⟨k1.trans (pt_keys hg), k2⟩
theorem turn_len {cards : List Card} {z : Str} (h : fitsP z cards.length = true) : (turnP cards z.cps.toList).length = cards.length := by
  obtain ⟨zl, _, _⟩ := fits_len h
  unfold turnP
  rw [List.length_zipWith]
  omega
theorem turn_ok {cards : List Card} {row : List Nat} (h : ∀ t ∈ cards, CardOk t) : ∀ t ∈ turnP cards row, CardOk t := by
  intro t m
  unfold turnP at m
  obtain ⟨i, hi⟩ := List.mem_iff_getElem?.mp m
  rw [List.getElem?_zipWith] at hi
  split at hi
  · rename_i a b ha hb
    cases hi
    exact cardOk_turned (h _ (List.mem_of_getElem? ha))
  · cases hi
theorem rowP_ok {most : Int} {s s' : Sg} {z : Str} (ok : StOk s) (h : rowP most s z = some s') : StOk s' ∧ fitsP z s.cards.length = true ∧ s'.cards = turnP s.cards z.cps.toList ∧ s'.cards.length = s.cards.length := by
  unfold rowP at h
  split at h
  · rename_i hf
    split at h
    · cases h
    · obtain ⟨l, hl, rfl⟩ := Option.map_eq_some_iff.mp h
      obtain ⟨zl, _, _⟩ := fits_len hf
      have tl := turn_len hf
      obtain ⟨k1, k2⟩ := drawn_keys _ _ _ (taken_pos _ (drw_pos _ _) [] (fun q m => absurd m (by simp))) ok.pos hl
      have ll : l.length = s.left.length := by
        have e := congrArg List.length k1
        rw [List.length_map, List.length_map] at e
        exact e
      have twl : (twP s z.cps.toList).length = s.cards.length := by
        unfold twP
        rw [List.length_zipWith, List.length_zipWith, ok.tw]
        omega
      refine ⟨⟨turn_ok ok.cards, by rw [tl]; exact ok.n8, fun e => ok.n1 ?_, by rw [tl]; exact twl, ?_, k2, by rw [ll]; exact ok.few, by rw [k1]; exact ok.nod⟩, hf, rfl, tl⟩
      · have e2 : (turnP s.cards z.cps.toList).length = 0 := by rw [show turnP s.cards z.cps.toList = [] from e]; rfl
        rw [tl] at e2
        exact List.length_eq_zero_iff.mp e2
      · rw [tl]
        unfold farP
        rw [List.length_zipWith, twl, ok.far]
        omega
  · cases h
theorem flip_ok {t : Card} (h : CardOk t) : CardOk (cFlip t) := by
  obtain ⟨h1, h2, h3, h4, h5⟩ := cardOk_parts h
  have hole_low : ∀ i, i < 4 → low (t.2.1.cps.toList.getD i 0) = true := fun i hi => by
    rw [List.getD_eq_getElem?_getD, List.getElem?_eq_getElem (by omega : i < t.2.1.cps.toList.length)]
    exact List.all_eq_true.mp h3 _ (List.getElem_mem _)
  unfold CardOk madeP
  have e1 : (decide ((cFlip t).1 = "S") || decide ((cFlip t).1 = "Z")) = true := by
    show (decide ((if t.1 = "S" then ("Z" : Str) else "S") = "S") || decide ((if t.1 = "S" then ("Z" : Str) else "S") = "Z")) = true
    by_cases e : t.1 = "S"
    · rw [if_pos e]
      decide +kernel
    · rw [if_neg e]
      decide +kernel
  have e2 : (cFlip t).2.1.cps.toList = [t.2.1.cps.toList.getD 0 0, t.2.1.cps.toList.getD 3 0, t.2.1.cps.toList.getD 2 0, t.2.1.cps.toList.getD 1 0] := rfl
  have e3 : (cFlip t).2.1.length = 4 := rfl
  rw [e1, decide_eq_true e3, e2]
  simp only [List.all_cons, List.all_nil, hole_low 0 (by decide), hole_low 1 (by decide), hole_low 2 (by decide), hole_low 3 (by decide), Bool.and_true, Bool.true_and]
  apply decide_eq_true
  show 0 ≤ (4 - t.2.2) % 4 ∧ (4 - t.2.2) % 4 ≤ 3
  omega
theorem flipP_ok {s : Sg} {k : Nat} (ok : StOk s) (hk : k < s.cards.length) : StOk (flipP s k) := by
  have e : s.cards.getD k ("", "", 0) = s.cards[k] := by rw [List.getD_eq_getElem?_getD, List.getElem?_eq_getElem hk]; rfl
  refine ⟨fun t m => ?_, by show (s.cards.set _ _).length ≤ 8; rw [List.length_set]; exact ok.n8, fun z => ok.n1 ?_, by show _ = (s.cards.set _ _).length; rw [List.length_set]; exact ok.tw, by show _ = (s.cards.set _ _).length; rw [List.length_set]; exact ok.far, ok.pos, ok.few, ok.nod⟩
  · rcases List.mem_or_eq_of_mem_set (show t ∈ s.cards.set k (cFlip (s.cards.getD k ("", "", 0))) from m) with m | m
    · exact ok.cards t m
    · rw [m, e]
      exact flip_ok (ok.cards _ (List.getElem_mem hk))
  · have z2 : s.cards.set k (cFlip (s.cards.getD k ("", "", 0))) = [] := z
    have z3 := congrArg List.length z2
    rw [List.length_set] at z3
    exact List.length_eq_zero_iff.mp z3
theorem lineM_ok {most : Int} {s s' : Sg} {x : List Str} {d : Deed} (ok : StOk s) (h : lineM most s x = some (d, s')) : StOk s' ∧ s'.cards.length = s.cards.length ∧
    (∃ z, x = ([("row" : Str), z] : List Str) ∧ d = .row z ∧ rowP most s z = some s' ∧ fitsP z s.cards.length = true) ∨ (StOk s' ∧ s'.cards.length = s.cards.length ∧ ∃ z k, x = ([("flip" : Str), z] : List Str) ∧ num z = some (k : Nat) ∧ d = .flip k ∧ s' = flipP s k ∧ k < s.cards.length) := by
  unfold lineM at h
  split at h
  · rename_i a b
    split at h
    · rename_i ea
      obtain ⟨s2, hs2, e⟩ := Option.map_eq_some_iff.mp h
      cases e
      obtain ⟨k1, k2, k3, k4⟩ := rowP_ok ok hs2
      exact .inl ⟨k1, k4, b, by rw [ea], rfl, hs2, k2⟩
    · split at h
      · rename_i eb
        obtain ⟨n, hn, h⟩ := Option.bind_eq_some_iff.mp h
        split at h
        · rename_i hlt
          cases h
          obtain ⟨_, _, _, n0⟩ := num_some hn
          obtain ⟨k, rfl⟩ := Int.eq_ofNat_of_zero_le n0
          have hk : k < s.cards.length := by omega
          exact .inr ⟨flipP_ok ok hk, by show (s.cards.set _ _).length = _; rw [List.length_set], b, k, by rw [eb], hn, rfl, rfl, hk⟩
        · cases h
      · cases h
  · cases h

theorem lineM_ok2 {most : Int} {s s' : Sg} {x : List Str} {d : Deed} (ok : StOk s) (h : lineM most s x = some (d, s')) : StOk s' ∧ s'.cards.length = s.cards.length := by
  rcases lineM_ok ok h with ⟨h1, h2, _⟩ | ⟨h1, h2, _⟩ <;> exact ⟨h1, h2⟩
theorem getLastD_app {l : List Sg} {s d : Sg} : (l ++ [s]).getLastD d = s := by simp
theorem lm_add {m : Lm} {x : List Str} {d : Deed} {s : Sg} (ok : LmOk m) (h : lineM m.most m.last x = some (d, s)) (hx : ∀ z ∈ x, z.length ≤ 1000000) (few : m.done.length < 2000000) : LmOk (m.add d s) ∧ (m.add d s).last = s := by
  have ol := lm_last ok
  have lml : m.last.cards.length = m.draft.length := ok.dn _ (List.mem_of_getElem? (last_get (d := ⟨[], [], [], []⟩) (lm_ne ok)))
  obtain ⟨k1, k2⟩ := lineM_ok2 ol h
  have sl := ok.len
  have lst : m.sts[m.done.length]? = some m.last := by
    have e := last_get (d := ⟨[], [], [], []⟩) (lm_ne ok)
    rw [show m.sts.length - 1 = m.done.length by omega] at e
    exact e
  refine ⟨⟨fun t mt => ?_, ?_, ?_, fun t mt => ?_, ok.dok, fun i z s2 h1 h2 => ?_, ok.sp, ok.few2, ok.mo, fun e me => ?_⟩, getLastD_app⟩
  · rcases List.mem_append.mp mt with mt | mt
    · exact ok.st t mt
    · rw [List.mem_singleton.mp mt]; exact k1
  · show (m.sts ++ [s]).length = (m.done ++ [d]).length + 1
    rw [List.length_append, List.length_append]
    simp
    omega
  · show (m.done ++ [d]).length ≤ _
    rw [List.length_append]
    simp
    omega
  · rcases List.mem_append.mp mt with mt | mt
    · exact ok.dn t mt
    · rw [List.mem_singleton.mp mt, k2]; exact lml
  · have h1 : (m.done ++ [d])[i]? = some (.row z) := h1
    have h2 : (m.sts ++ [s])[i]? = some s2 := h2
    by_cases hi : i < m.done.length
    · rw [List.getElem?_append_left hi] at h1
      rw [List.getElem?_append_left (by omega)] at h2
      exact ok.row i z s2 h1 h2
    · have hi2 : i = m.done.length := by
        have := (List.getElem?_eq_some_iff.mp h1).1
        rw [List.length_append] at this
        simp at this
        omega
      subst hi2
      rw [List.getElem?_append_right (Nat.le_refl _), Nat.sub_self] at h1
      cases Option.some.inj h1
      have h2 : (m.sts ++ [s])[m.done.length]? = some s2 := h2
      rw [List.getElem?_append_left (by omega), lst] at h2
      cases h2
      rcases lineM_ok ol h with ⟨_, _, z2, _, e2, _, hf⟩ | ⟨_, _, z2, k, _, _, e2, _⟩
      · cases e2
        exact hf
      · cases e2
  · rcases List.mem_append.mp me with me | me
    · exact ok.fl e me
    · rw [List.mem_singleton.mp me]
      rcases lineM_ok ol h with ⟨_, _, z2, e1, e2, _, hf⟩ | ⟨_, _, z2, k, e1, hn, e2, _⟩
      · rw [e2]
        exact hx z2 (by rw [e1]; simp)
      · rw [e2]
        have := num_lt hn
        show k < 1000000000
        omega
theorem deedsM_snoc (most : Int) : ∀ (a : List (List Str)) (s : Sg) (x : List Str) (ds : List (Deed × Sg)), deedsM most s a = some ds → deedsM most s (a ++ [x]) = (lineM most ((ds.map (·.2)).getLastD s) x).map fun q => ds ++ [q] := by
  intro a
  induction a with
  | nil =>
    intro s x ds h
    cases h
    show (lineM most s x).bind (fun q => (deedsM most q.2 []).map fun l => q :: l) = (lineM most s x).map fun q => [q]
    cases lineM most s x <;> rfl
  | cons y a ih =>
    intro s x ds h
    have h2 : (lineM most s y).bind (fun q => (deedsM most q.2 a).map fun l => q :: l) = some ds := h
    obtain ⟨q, hq, h3⟩ := Option.bind_eq_some_iff.mp h2
    obtain ⟨l, hl, rfl⟩ := Option.map_eq_some_iff.mp h3
    show (lineM most s y).bind (fun q => (deedsM most q.2 (a ++ [x])).map fun l => q :: l) = _
    rw [hq]
    show (deedsM most q.2 (a ++ [x])).map (fun l => q :: l) = _
    rw [ih q.2 x l hl]
    have e : ((q :: l).map (·.2)).getLastD s = (l.map (·.2)).getLastD q.2 := by
      cases l with
      | nil => rfl
      | cons l0 l => simp [List.getLastD]
    rw [e, Option.map_map]
    rfl
theorem deedsM_fail (most : Int) : ∀ (a b : List (List Str)) (s : Sg), deedsM most s a = none → deedsM most s (a ++ b) = none := by
  intro a
  induction a with
  | nil => intro b s h; cases h
  | cons y a ih =>
    intro b s h
    have h2 : (lineM most s y).bind (fun q => (deedsM most q.2 a).map fun l => q :: l) = none := h
    show (lineM most s y).bind (fun q => (deedsM most q.2 (a ++ b)).map fun l => q :: l) = none
    cases hy : lineM most s y with
    | none => rfl
    | some q =>
      rw [hy] at h2
      have h3 : deedsM most q.2 a = none := Option.map_eq_none_iff.mp h2
      show (deedsM most q.2 (a ++ b)).map (fun l => q :: l) = none
      rw [ih b q.2 h3]
      rfl
theorem deedsM_len (most : Int) : ∀ (a : List (List Str)) (s : Sg) (ds : List (Deed × Sg)), deedsM most s a = some ds → ds.length = a.length := by
  intro a
  induction a with
  | nil => intro s ds h; cases h; rfl
  | cons y a ih =>
    intro s ds h
    have h2 : (lineM most s y).bind (fun q => (deedsM most q.2 a).map fun l => q :: l) = some ds := h
    obtain ⟨q, hq, h3⟩ := Option.bind_eq_some_iff.mp h2
    obtain ⟨l, hl, rfl⟩ := Option.map_eq_some_iff.mp h3
    simp [ih _ _ hl]
/-! ### the head of a text -/
theorem spoolM_ok {x : List Str} {last c : Str} {v : Int} (h : spoolM x last = some (c, v)) : ∃ w n, x = [w, c, n] ∧ isCol c = true ∧ ltS last c = true ∧ num n = some v := by
  unfold spoolM at h
  split at h
  · rename_i w c2 n
    split at h
    · rename_i hc
      obtain ⟨k, hk, e⟩ := Option.map_eq_some_iff.mp h
      cases e
      exact ⟨w, n, rfl, hc.1, hc.2, hk⟩
    · cases h
  · cases h
/-- spools in order: what a text's head gives -/
structure SpOk (l : Lens) : Prop where
  col : ∀ p ∈ l, isCol p.1 = true ∧ 0 ≤ p.2 ∧ p.2 < 1000000000
  ord : (l.map (·.1)).Pairwise fun a b => ltS a b = true
theorem ltS_trans {a b c : Str} (h : ltS a b = true) (g : ltS b c = true) : ltS a c = true := by
  unfold ltS at *
  have h1 := of_decide_eq_true h
  have h2 := of_decide_eq_true g
  exact decide_eq_true (List.lt_trans h1 h2)
theorem ltS_irr (a : Str) : ltS a a = false := by
  unfold ltS
  exact decide_eq_false (List.lt_irrefl _)
theorem pt_new {l : Lens} {k : Str} {v : Int} (h : k ∉ l.map (·.1)) : pt l k v = l ++ [(k, v)] := by
  unfold pt
  rw [if_neg]
  intro e
  obtain ⟨p, hp, e2⟩ := List.any_eq_true.mp e
  exact h (List.mem_map.mpr ⟨p, hp, of_decide_eq_true e2⟩)
theorem spoolsM_ok : ∀ (L : List (List Str)) (last : Str) (acc sp : Lens) (r : List (List Str)), spoolsM L last acc = some (sp, r) → SpOk acc → (∀ k ∈ acc.map (·.1), k = last ∨ ltS k last = true) →
    SpOk sp ∧ ∃ (a : List (List Str)) (b : Lens), L = a ++ r ∧ sp = acc ++ b ∧ a.map (fun w => Txt.join " " w) = b.map (fun p => "spool " ++ p.1 ++ " " ++ toS p.2) ∧ a.length = b.length ∧ ¬ (r[0]?).bind List.head? = some ("spool" : Str) := by
  intro L
  induction L with
  | nil =>
    intro last acc sp r h ok _
    cases h
    exact ⟨ok, [], [], rfl, by simp, rfl, rfl, by simp⟩
  | cons w L ih =>
    intro last acc sp r h ok hk
    by_cases hw : w.head? = some ("spool" : Str)
    · have h2 : (match spoolM w last with | some q => spoolsM L q.1 (pt acc q.1 q.2) | none => none) = some (sp, r) := by
        rw [← h]
        exact (if_pos hw).symm
      cases e : spoolM w last with
      | none => rw [e] at h2; cases h2
      | some q =>
        obtain ⟨c, v⟩ := q
        rw [e] at h2
        have h2 : spoolsM L c (pt acc c v) = some (sp, r) := h2
        obtain ⟨w0, n, rfl, hc, hlt, hn⟩ := spoolM_ok e
        have w0e : w0 = "spool" := Option.some.inj hw
        have nin : c ∉ acc.map (·.1) := fun m => by
          rcases hk c m with e | e
          · rw [e, ltS_irr] at hlt; cases hlt
          · have := ltS_trans e hlt
            rw [ltS_irr] at this
            cases this
        rw [pt_new nin] at h2
        obtain ⟨n1, n2, n3, n4⟩ := num_some hn
        have n5 := num_lt hn
        have ok2 : SpOk (acc ++ [(c, v)]) := by
          refine ⟨fun p m => ?_, ?_⟩
          · rcases List.mem_append.mp m with m | m
            · exact ok.col p m
            · rw [List.mem_singleton.mp m]
              exact ⟨hc, n4, n5⟩
          · rw [List.map_append, List.pairwise_append]
            refine ⟨ok.ord, List.pairwise_singleton _ _, fun a ha b hb => ?_⟩
            rw [List.mem_singleton.mp hb]
            rcases hk a ha with e | e
            · rw [e]; exact hlt
            · exact ltS_trans e hlt
        obtain ⟨k1, a, b, e1, e2, e3, e4, e5⟩ := ih c _ sp r h2 ok2 (fun k m => by
          rw [List.map_append] at m
          rcases List.mem_append.mp m with m | m
          · rcases hk k m with e | e
            · right; rw [e]; exact hlt
            · right; exact ltS_trans e hlt
          · left; exact List.mem_singleton.mp m)
        refine ⟨k1, [w0, c, n] :: a, (c, v) :: b, by rw [e1]; rfl, by rw [e2]; simp, ?_, by simp [e4], e5⟩
        rw [List.map_cons, List.map_cons, e3, n2, w0e]
        congr 1
    · have h2 : spoolsM (w :: L) last acc = some (acc, w :: L) := if_neg hw
      rw [h2] at h
      cases h
      exact ⟨ok, [], [], rfl, by simp, rfl, rfl, hw⟩
theorem draftM_ok : ∀ (L : List (List Str)) (acc dr : List Card) (r : List (List Str)), draftM L acc = some (dr, r) → (∀ t ∈ acc, CardOk t) →
    (∀ t ∈ dr, CardOk t) ∧ ∃ (a : List (List Str)) (b : List Card), L = a ++ r ∧ dr = acc ++ b ∧ a.map (fun w => Txt.join " " w) = b.map (fun t => "tablet " ++ t.1 ++ " " ++ t.2.1 ++ " " ++ toS t.2.2) ∧ a.length = b.length ∧ ¬ (r[0]?).bind List.head? = some ("tablet" : Str) := by
  intro L
  induction L with
  | nil =>
    intro acc dr r h ok
    cases h
    exact ⟨ok, [], [], rfl, by simp, rfl, rfl, by simp⟩
  | cons w L ih =>
    intro acc dr r h ok
    by_cases hw : w.head? = some ("tablet" : Str)
    · have h2 : (match tabletM w with | some c => draftM L (acc ++ [c]) | none => none) = some (dr, r) := by
        rw [← h]
        exact (if_pos hw).symm
      cases e : tabletM w with
      | none => rw [e] at h2; cases h2
      | some c =>
        rw [e] at h2
        have h2 : draftM L (acc ++ [c]) = some (dr, r) := h2
        have okc := tabletM_ok e
        obtain ⟨k1, a, b, e1, e2, e3, e4, e5⟩ := ih _ dr r h2 (fun t m => (List.mem_append.mp m).elim (ok t) fun m => by rw [List.mem_singleton.mp m]; exact okc)
        refine ⟨k1, w :: a, c :: b, by rw [e1]; rfl, by rw [e2]; simp, ?_, by simp [e4], e5⟩
        rw [List.map_cons, List.map_cons, e3]
        congr 1
        unfold tabletM at e
        split at e
        · rename_i w0 lay holes st
          obtain ⟨n, hn, e⟩ := Option.bind_eq_some_iff.mp e
          split at e
          · cases e
            obtain ⟨n1, n2, n3, n4⟩ := num_some hn
            have w0e : w0 = "tablet" := Option.some.inj hw
            show Txt.join " " [w0, lay, holes, st] = "tablet " ++ lay ++ " " ++ holes ++ " " ++ toS n
            rw [n2, w0e]
            apply TL.ext_tl
            rw [TL.join_eq, TL.tl_join]
            simp only [TL.tl_append, List.map_cons, List.map_nil]
            have es : TL.tl ("tablet " : Str) = TL.tl ("tablet" : Str) ++ TL.tl (" " : Str) := by decide +kernel
            rw [es]
            simp [TL.joinL]
          · cases e
        · cases e
    · have h2 : draftM (w :: L) acc = some (acc, w :: L) := if_neg hw
      rw [h2] at h
      cases h
      exact ⟨ok, [], [], rfl, by simp, rfl, rfl, hw⟩
theorem deedsM_text (most : Int) : ∀ (L : List (List Str)) (s : Sg) (ds : List (Deed × Sg)), StOk s → deedsM most s L = some ds → L.map (fun w => Txt.join " " w) = ds.map fun q => deedT q.1 := by
  intro L
  induction L with
  | nil => intro s ds _ h; cases h; rfl
  | cons x L ih =>
    intro s ds ok h
    have h2 : (lineM most s x).bind (fun q => (deedsM most q.2 L).map fun l => q :: l) = some ds := h
    obtain ⟨q, hq, h3⟩ := Option.bind_eq_some_iff.mp h2
    obtain ⟨l, hl, rfl⟩ := Option.map_eq_some_iff.mp h3
    rw [List.map_cons, List.map_cons, ih q.2 l (lineM_ok2 ok hq).1 hl]
    congr 1
    have two : ∀ (a b : Str), Txt.join " " [a, b] = a ++ " " ++ b := fun a b => by
      apply TL.ext_tl
      rw [TL.join_eq, TL.tl_join]
      simp [TL.joinL, TL.tl_append]
    rcases lineM_ok ok hq with ⟨_, _, z, e1, e2, _⟩ | ⟨_, _, z, k, e1, hn, e2, _⟩
    · rw [e1, e2, two]
      rfl
    · rw [e1, e2, two]
      show "flip" ++ " " ++ z = "flip" ++ " " ++ toS k
      rw [(num_some hn).2.1]
/-! ### keys in order -/
def leS (a b : Str) : Prop := a.cps.toList ≤ b.cps.toList
theorem rising_pw : ∀ (l : List Str) (p : Str), risingS p l = true → (p :: l).Pairwise leS := by
  intro l
  induction l with
  | nil => intro p _; exact List.pairwise_singleton _ _
  | cons x r ih =>
    intro p h
    have h2 : (!PySem.Spec.ltCps x.cps.toList p.cps.toList && risingS x r) = true := h
    rw [Bool.and_eq_true, Bool.not_eq_true', PyProof.Rows.ltCps_eq, decide_eq_false_iff_not] at h2
    obtain ⟨h3, h4⟩ := h2
    have ih2 := ih x h4
    have px : leS p x := List.not_lt.mp h3
    refine List.pairwise_cons.mpr ⟨fun y m => ?_, ih2⟩
    rcases List.mem_cons.mp m with e | m
    · rw [e]; exact px
    · exact List.le_trans px (List.rel_of_pairwise_cons ih2 m)
theorem sorted_pw {l : List Str} (h : sortedS l = true) : l.Pairwise leS := by
  cases l with
  | nil => exact .nil
  | cons x r => exact rising_pw r x h
theorem sorted_eq {ys ks : List Str} (p : ys.Perm ks) (h : sortedS ys = true) (g : ks.Pairwise fun a b => ltS a b = true) : ys = ks := by
  refine List.Perm.eq_of_pairwise (le := leS) (fun a b _ _ h1 h2 => str_ext (List.le_antisymm h1 h2)) (sorted_pw h) (g.imp fun {a b} q => ?_) p
  unfold ltS at q
  exact List.le_of_lt (of_decide_eq_true q)
theorem len_asc : ∀ (l : List Nat) (lo : Nat), l.Pairwise (· < ·) → (∀ c ∈ l, lo ≤ c ∧ c ≤ 122) → l.length ≤ 123 - lo := by
  intro l
  induction l with
  | nil => intro lo _ _; simp
  | cons c l ih =>
    intro lo h g
    have hc := g c List.mem_cons_self
    have := ih (c + 1) (List.pairwise_cons.mp h).2 (fun d m => ⟨(List.pairwise_cons.mp h).1 d m, (g d (List.mem_cons_of_mem _ m)).2⟩)
    rw [List.length_cons]
    omega
theorem sp_len {l : Lens} (h : SpOk l) : l.length ≤ 26 := by
  have f : ∀ p ∈ l, ∃ c, p.1 = sg c ∧ 97 ≤ c ∧ c ≤ 122 := fun p m => by
    have hc := (h.col p m).1
    obtain ⟨c, e⟩ := one_sign (col_len hc)
    rw [e, ok_sg] at hc
    unfold low at hc
    exact ⟨c, e, of_decide_eq_true hc⟩
  have g := len_asc (l.map fun p => p.1.cps.toList.headD 0) 97 ?_ fun c m => ?_
  · rw [List.length_map] at g
    omega
  · have o := h.ord
    rw [List.pairwise_map] at o ⊢
    refine List.Pairwise.imp_of_mem (fun {a b} ma mb q => ?_) o
    obtain ⟨c, e, _⟩ := f a ma
    obtain ⟨d, e2, _⟩ := f b mb
    rw [e, e2] at q ⊢
    unfold ltS at q
    have q2 : [c] < [d] := of_decide_eq_true q
    show c < d
    rcases List.cons_lt_cons_iff.mp q2 with q3 | ⟨_, q3⟩
    · exact q3
    · exact absurd q3 (List.lt_irrefl _)
  · obtain ⟨p, hp, rfl⟩ := List.mem_map.mp m
    obtain ⟨c, e, h1⟩ := f p hp
    rw [e]
    exact h1
theorem sp_nodup {l : Lens} (h : SpOk l) : (l.map (·.1)).Nodup := by
  refine h.ord.imp fun {a b} q e => ?_
  rw [e, ltS_irr] at q
  cases q
theorem st0_ok {cards : List Card} {sp : Lens} (h1 : ∀ t ∈ cards, CardOk t) (h2 : ¬ (cards = [] ∨ 8 < cards.length)) (h3 : SpOk sp) : StOk (st0 cards sp) := by
  refine ⟨h1, ?_, fun e => h2 (.inl e), List.length_map .., List.length_map .., fun p m => (h3.col p m).2.1, ?_, sp_nodup h3⟩
  · show cards.length ≤ 8
    omega
  · have := sp_len h3
    show sp.length ≤ _
    omega
theorem lm0_ok {cards : List Card} {sp : Lens} {mo : Int} {n : Str} (h1 : ∀ t ∈ cards, CardOk t) (h2 : ¬ (cards = [] ∨ 8 < cards.length)) (h3 : SpOk sp) (h4 : num n = some mo) : LmOk ⟨cards, mo, sp, [], [st0 cards sp]⟩ := by
  have ok := st0_ok h1 h2 h3
  refine ⟨fun s m => by rw [List.mem_singleton.mp m]; exact ok, rfl, Nat.zero_le _, fun s m => by rw [List.mem_singleton.mp m]; rfl, h1, fun i z s e _ => by simp at e, fun p m => ⟨(h3.col p m).2.1, (h3.col p m).2.2, col_len (h3.col p m).1⟩, ?_, ⟨(num_some h4).2.2.2, num_lt h4⟩, fun d m => absurd m (by simp)⟩
  have := sp_len h3
  show sp.length ≤ 60
  omega
/-- the loom behind some deeds -/
def lmOf (cards : List Card) (mo : Int) (sp : Lens) (ds : List (Deed × Sg)) : Lm := ⟨cards, mo, sp, ds.map (·.1), st0 cards sp :: ds.map (·.2)⟩
theorem lmOf_add {cards : List Card} {mo : Int} {sp : Lens} {ds : List (Deed × Sg)} {d : Deed} {s : Sg} : (lmOf cards mo sp ds).add d s = lmOf cards mo sp (ds ++ [(d, s)]) := by
  unfold lmOf Lm.add
  simp
theorem lmOf_last {cards : List Card} {mo : Int} {sp : Lens} {ds : List (Deed × Sg)} : (lmOf cards mo sp ds).last = (ds.map (·.2)).getLastD (st0 cards sp) := by
  unfold lmOf Lm.last
  cases ds with
  | nil => rfl
  | cons q ds => simp [List.getLastD]
theorem lmOf_ok {cards : List Card} {mo : Int} {sp : Lens} (h : LmOk (lmOf cards mo sp [])) : ∀ (L : List (List Str)) (ds : List (Deed × Sg)), deedsM mo (st0 cards sp) L = some ds → (∀ w ∈ L, ∀ z ∈ w, z.length ≤ 1000000) → L.length ≤ 1000001 → LmOk (lmOf cards mo sp ds) := by
  intro L
  induction hn : L.length generalizing L with
  | zero =>
    intro ds hd _ _
    have e : L = [] := List.length_eq_zero_iff.mp hn
    subst e
    cases hd
    exact h
  | succ n ih =>
    intro ds hd hz hl
    have hne : L ≠ [] := fun e => by rw [e] at hn; cases hn
    have e := List.dropLast_concat_getLast hne
    generalize L.dropLast = a at e
    generalize L.getLast hne = x at e
    subst e
    rw [List.length_append] at hn
    simp at hn
    cases ha : deedsM mo (st0 cards sp) a with
    | none =>
      rw [deedsM_fail mo a [x] _ ha] at hd
      cases hd
    | some da =>
      rw [deedsM_snoc mo a _ x da ha] at hd
      obtain ⟨q, hq, rfl⟩ := Option.map_eq_some_iff.mp hd
      have ok := ih a hn da ha (fun w m => hz w (List.mem_append_left _ m)) (by omega)
      obtain ⟨d, s⟩ := q
      rw [← lmOf_add]
      refine (lm_add ok (x := x) ?_ (fun z m => hz x (by simp) z m) ?_).1
      · rw [lmOf_last]
        exact hq
      · show (da.map (·.1)).length < _
        rw [List.length_map, deedsM_len mo a _ da ha]
        omega
theorem loomM_some {l0 : List Str} {mo : Int} (h : loomM l0 = some mo) : ∃ n, l0 = [("loom" : Str), n] ∧ num n = some mo := by
  unfold loomM at h
  split at h
  · split at h
    · rename_i e
      exact ⟨_, by rw [e], h⟩
    · cases h
  · cases h
theorem sp_nil : SpOk [] := ⟨fun p m => absurd m (by simp), .nil⟩
theorem gt_nodup : ∀ {l : Lens}, (l.map (·.1)).Nodup → ∀ p ∈ l, (gt l p.1).getD 0 = p.2 := by
  intro l
  induction l with
  | nil => intro _ p m; exact absurd m (by simp)
  | cons q l ih =>
    intro nd p m
    rw [List.map_cons, List.nodup_cons] at nd
    unfold gt
    rw [List.find?_cons]
    rcases List.mem_cons.mp m with e | m
    · rw [e]
      simp
    · have ne : ¬ q.1 = p.1 := fun z => nd.1 (z ▸ List.mem_map.mpr ⟨p, m, rfl⟩)
      simp only [ne, decide_false]
      exact ih nd.2 p m
/-- all of a text that is let by -/
theorem readM_some {z : Str} {m : Lm} (hz : z.length ≤ 1000000) (h : readM z = some m) : ∃ l0 rest sp r1 dr r2 mo ds, linesOf z = l0 :: rest ∧ spoolsM rest "" [] = some (sp, r1) ∧ draftM r1 [] = some (dr, r2) ∧ ¬ (dr = [] ∨ 8 < dr.length) ∧ loomM l0 = some mo ∧ deedsM mo (st0 dr sp) r2 = some ds ∧ m = lmOf dr mo sp ds ∧ LmOk m ∧ SpOk sp ∧ toldL m (sp.map (·.1)) = Txt.split z "\n" := by
  obtain ⟨g1, g2, g3, g4⟩ := lines_facts hz
  unfold readM at h
  cases hL : linesOf z with
  | nil => exact absurd hL g1
  | cons l0 rest =>
    rw [hL] at h
    obtain ⟨q, hq, h⟩ := Option.bind_eq_some_iff.mp (show (spoolsM rest "" []).bind _ = some m from h)
    obtain ⟨sp, r1⟩ := q
    obtain ⟨e, he, h⟩ := Option.bind_eq_some_iff.mp h
    obtain ⟨dr, r2⟩ := e
    split at h
    · cases h
    · rename_i hn
      obtain ⟨mo, hmo, h⟩ := Option.bind_eq_some_iff.mp h
      obtain ⟨ds, hds, rfl⟩ := Option.map_eq_some_iff.mp h
      obtain ⟨k1, a, b, a1, a2, a3, a4, _⟩ := spoolsM_ok rest "" [] sp r1 hq sp_nil (fun k m => absurd m (by simp))
      obtain ⟨c1, c, d, c2, c3, c4, c5, _⟩ := draftM_ok r1 [] dr r2 he (fun t m => absurd m (by simp))
      obtain ⟨n, hl0, hnum⟩ := loomM_some hmo
      have ok0 : LmOk (lmOf dr mo sp []) := lm0_ok c1 hn k1 hnum
      have mem2 : ∀ w ∈ r2, w ∈ linesOf z := fun w m => by
        rw [hL, a1, c2]
        exact List.mem_cons_of_mem _ (List.mem_append_right _ (List.mem_append_right _ m))
      have len2 : r2.length ≤ 1000001 := by
        rw [hL, a1, c2, List.length_cons, List.length_append, List.length_append] at g3
        omega
      have okm := lmOf_ok ok0 r2 ds hds (fun w m => g4 w (mem2 w m)) len2
      refine ⟨l0, rest, sp, r1, dr, r2, mo, ds, rfl, hq, he, hn, hmo, hds, rfl, okm, k1, ?_⟩
      have tx := deedsM_text mo r2 _ ds (st0_ok c1 hn k1) hds
      have all : (linesOf z).map (fun w => Txt.join " " w) = Txt.split z "\n" := by
        unfold linesOf
        rw [List.map_map]
        conv => rhs; rw [← List.map_id (Txt.split z "\n")]
        apply List.map_congr_left
        intro l _
        exact (split_bl l).2.1
      rw [← all, hL, a1, c2]
      simp only [List.map_cons, List.map_append]
      rw [a3, c4, tx]
      have e1 : Txt.join " " l0 = "loom " ++ toS mo := by
        rw [hl0, (num_some hnum).2.1]
        apply TL.ext_tl
        rw [TL.join_eq, TL.tl_join]
        simp only [TL.tl_append, List.map_cons, List.map_nil]
        have es : TL.tl ("loom " : Str) = TL.tl ("loom" : Str) ++ TL.tl (" " : Str) := by decide +kernel
        rw [es]
        simp [TL.joinL]
      have e2 : sp = b := by simpa using a2
      have e3 : dr = d := by simpa using c3
      subst e2 e3
      have gk := gt_nodup (sp_nodup k1)
      unfold toldL
      rw [e1]
      simp only [List.map_map, List.cons_append, List.append_assoc]
      congr 2
      apply List.map_congr_left
      intro p m
      show "spool " ++ p.1 ++ " " ++ toS ((gt sp p.1).getD 0) = _
      rw [gk p m]
theorem dpA_drop {K : PySem.W.Frag} {H : Hp} : ∀ {n : Nat} {vs : List V} {ds : List PyData}, DpAll K H vs ds → DpAll K H (vs.drop n) (ds.drop n) := by
  intro n
  induction n with
  | zero => intro vs ds h; exact h
  | succ n ih =>
    intro vs ds h
    cases ds with
    | nil => cases h; exact .nil
    | cons d ds =>
      cases h with
      | cons h t => exact ih t
theorem cutV_from {xs : List V} {i : Nat} (h : i ≤ xs.length) : cutV xs (some (i : Int)) none = xs.drop i := by
  have e1 : HT.sIx xs.length 0 (some (i : Int)) = i := by
    rw [HT.sIx_nat]
    omega
  have e2 : HT.sIx xs.length xs.length none = xs.length := rfl
  unfold cutV
  rw [e1, e2, List.take_of_length_le (by rw [List.length_drop]; exact Nat.le_refl _)]
/-! ### the law's reckoning of the spools is the program's -/
def subOne (l : Lens) (q : Nat × Int) : Lens := pt l (sg q.1) ((gt l (sg q.1)).getD 0 - q.2)
theorem gt_pt (l : Lens) (k k' : Str) (v : Int) : gt (pt l k v) k' = if k' = k then some v else gt l k' := by
  unfold pt
  split
  · rename_i h
    induction l with
    | nil => simp at h
    | cons p l ih =>
      unfold gt at *
      rw [List.map_cons, List.find?_cons, List.find?_cons]
      by_cases e : p.1 = k
      · rw [if_pos e]
        by_cases e2 : k' = k
        · subst e2
          simp [e]
        · have n1 : ¬ p.1 = k' := fun z => e2 (z ▸ e)
          simp only [n1, decide_false, e2, if_false]
          by_cases h3 : (l.any fun p => decide (p.1 = k)) = true
          · have := ih h3
            rw [if_neg e2] at this
            exact this
          · have : l.map (fun p => if p.1 = k then (p.1, v) else p) = l := by
              conv => rhs; rw [← List.map_id l]
              apply List.map_congr_left
              intro q hq
              have : ¬ q.1 = k := fun z => h3 (List.any_eq_true.mpr ⟨q, hq, decide_eq_true z⟩)
              rw [if_neg this]
              rfl
            rw [this]
      · rw [if_neg e]
        have h3 : (l.any fun p => decide (p.1 = k)) = true := by
          rw [List.any_cons] at h
          simpa [e] using h
        by_cases e3 : p.1 = k'
        · have : ¬ k' = k := fun z => e (e3.trans z)
          simp [e3, this]
        · simp only [e3, decide_false]
          exact ih h3
  · rename_i h
    have hn : ∀ p ∈ l, ¬ p.1 = k := fun p hp z => h (List.any_eq_true.mpr ⟨p, hp, decide_eq_true z⟩)
    unfold gt
    rw [List.find?_append]
    by_cases e2 : k' = k
    · subst e2
      have : l.find? (fun p => decide (p.1 = k')) = none := List.find?_eq_none.mpr fun p hp => by simpa using hn p hp
      rw [this, if_pos rfl]
      simp
    · rw [if_neg e2]
      have : ¬ k = k' := fun z => e2 z.symm
      cases l.find? (fun p => decide (p.1 = k')) with
      | none => simp [this]
      | some p => simp
theorem key_gt {l : Lens} {k : Str} {v : Int} (h : gt l k = some v) : k ∈ l.map (·.1) := List.mem_map.mpr ⟨_, gt_mem h, rfl⟩
theorem pt_nodup {l : Lens} {k : Str} {v : Int} (h : (l.map (·.1)).Nodup) : ((pt l k v).map (·.1)).Nodup := by
  by_cases e : k ∈ l.map (·.1)
  · obtain ⟨w, hw⟩ := gt_key e
    rw [pt_keys hw]
    exact h
  · rw [pt_new e, List.map_append, List.nodup_append]
    refine ⟨h, by simp, fun a ha b hb => ?_⟩
    rw [show b = k by simpa using hb]
    intro z
    rw [z] at ha
    exact e ha
theorem taken_nodup (ds : List (Nat × Int)) : ∀ A : Lens, (A.map (·.1)).Nodup → ((ds.foldl takeOne A).map (·.1)).Nodup := by
  induction ds with
  | nil => intro A h; exact h
  | cons q ds ih => intro A h; exact ih _ (pt_nodup h)
def RelL (l A L : Lens) : Prop := ∀ k, gt L k = match gt A k with | none => gt l k | some t => some ((gt l k).getD 0 - t)
theorem relL_fold (l : Lens) (ds : List (Nat × Int)) : ∀ A L : Lens, RelL l A L → RelL l (ds.foldl takeOne A) (ds.foldl subOne L) := by
  induction ds with
  | nil => intro A L h; exact h
  | cons q ds ih =>
    intro A L h
    refine ih _ _ fun k => ?_
    unfold takeOne subOne
    rw [gt_pt, gt_pt]
    by_cases e : k = sg q.1
    · subst e
      rw [if_pos rfl, if_pos rfl, h (sg q.1)]
      cases gt A (sg q.1) with
      | none => show some ((gt l (sg q.1)).getD 0 - q.2) = some ((gt l (sg q.1)).getD 0 - (0 + q.2)); congr 1; omega
      | some t => show some _ = some _; congr 1; show ((gt l (sg q.1)).getD 0 - t) - q.2 = _ - (t + q.2); omega
    · rw [if_neg e, if_neg e]
      exact h k
theorem taken_has (ds : List (Nat × Int)) : ∀ A : Lens, (∀ k v, gt A k = some v → ∃ w, gt (ds.foldl takeOne A) k = some w) ∧ ∀ q ∈ ds, ∃ w, gt (ds.foldl takeOne A) (sg q.1) = some w := by
  induction ds with
  | nil => intro A; exact ⟨fun k v h => ⟨v, h⟩, fun q m => absurd m (by simp)⟩
  | cons x ds ih =>
    intro A
    obtain ⟨h1, h2⟩ := ih (takeOne A x)
    have hx : gt (takeOne A x) (sg x.1) = some _ := (gt_pt _ _ _ _).trans (if_pos rfl)
    refine ⟨fun k v h => ?_, fun q m => ?_⟩
    · by_cases e : k = sg x.1
      · rw [e]; exact h1 _ _ hx
      · exact h1 k v (((gt_pt _ _ _ _).trans (if_neg e)).trans h)
    · rcases List.mem_cons.mp m with e | m
      · rw [e]; exact h1 _ _ hx
      · exact h2 q m
theorem sub_keys (ds : List (Nat × Int)) : ∀ L : Lens, (∀ q ∈ ds, sg q.1 ∈ L.map (·.1)) → (ds.foldl subOne L).map (·.1) = L.map (·.1) := by
  induction ds with
  | nil => intro L _; rfl
  | cons x ds ih =>
    intro L h
    obtain ⟨w, hw⟩ := gt_key (h x List.mem_cons_self)
    have e : (subOne L x).map (·.1) = L.map (·.1) := pt_keys hw
    rw [List.foldl_cons, ih _ (fun q m => by rw [e]; exact h q (List.mem_cons_of_mem _ m)), e]
theorem drawn_iff (t : Lens) : ∀ l : Lens, (t.map (·.1)).Nodup → (∀ q ∈ t, 0 < q.2) → (∀ q ∈ l, 0 ≤ q.2) →
    ((∀ q ∈ t, q.2 ≤ (gt l q.1).getD 0) → ∃ l', t.foldl drawOne (some l) = some l' ∧ ∀ k, gt l' k = match gt t k with | none => gt l k | some x => some ((gt l k).getD 0 - x)) ∧
    ((∃ q ∈ t, (gt l q.1).getD 0 < q.2) → t.foldl drawOne (some l) = none) := by
  induction t with
  | nil =>
    intro l _ _ _
    exact ⟨fun _ => ⟨l, rfl, fun k => rfl⟩, fun ⟨q, m, _⟩ => absurd m (by simp)⟩
  | cons x t ih =>
    intro l nd pos hl
    rw [List.map_cons, List.nodup_cons] at nd
    rw [List.foldl_cons]
    have nx : ∀ q ∈ t, ¬ q.1 = x.1 := fun q m z => nd.1 (z ▸ List.mem_map.mpr ⟨q, m, rfl⟩)
    have gx : ∀ k, gt (x :: t) k = if k = x.1 then some x.2 else gt t k := fun k => by
      unfold gt
      rw [List.find?_cons]
      by_cases e : k = x.1
      · subst e; simp
      · have : ¬ x.1 = k := fun z => e z.symm
        simp [e, this]
    by_cases g : (gt l x.1).getD 0 < x.2
    · have e1 : drawOne (some l) x = none := if_pos g
      rw [e1, drawn_none]
      exact ⟨fun h => absurd (h x List.mem_cons_self) (by omega), fun _ => rfl⟩
    · have e1 : drawOne (some l) x = some (pt l x.1 ((gt l x.1).getD 0 - x.2)) := if_neg g
      rw [e1]
      obtain ⟨i1, i2⟩ := ih (pt l x.1 ((gt l x.1).getD 0 - x.2)) nd.2 (fun q m => pos q (List.mem_cons_of_mem _ m)) (fun q m => by
        rcases pt_mem m with m | m
        · exact hl q m
        · rw [m]; show 0 ≤ _ - _; omega)
      have same : ∀ q ∈ t, gt (pt l x.1 ((gt l x.1).getD 0 - x.2)) q.1 = gt l q.1 := fun q m => (gt_pt _ _ _ _).trans (if_neg (nx q m))
      refine ⟨fun h => ?_, fun ⟨q, m, hq⟩ => ?_⟩
      · obtain ⟨l', h1, h2⟩ := i1 fun q m => by rw [same q m]; exact h q (List.mem_cons_of_mem _ m)
        refine ⟨l', h1, fun k => ?_⟩
        rw [h2 k, gx k, gt_pt]
        by_cases e : k = x.1
        · subst e
          have : gt t x.1 = none := by
            cases ht : gt t x.1 with
            | none => rfl
            | some v => exact absurd (key_gt ht) nd.1
          rw [this]
          simp
        · simp [e]
      · rcases List.mem_cons.mp m with e | m
        · rw [e] at hq; exact absurd hq g
        · exact i2 ⟨q, m, by rw [same q m]; exact hq⟩
theorem lens_ext : ∀ {a b : Lens}, a.map (·.1) = b.map (·.1) → (a.map (·.1)).Nodup → (∀ k, gt a k = gt b k) → a = b := by
  intro a
  induction a with
  | nil => intro b h _ _; cases b with
    | nil => rfl
    | cons _ _ => cases h
  | cons p a ih =>
    intro b h nd g
    cases b with
    | nil => cases h
    | cons q b =>
      rw [List.map_cons, List.map_cons] at h
      injection h with h1 h2
      rw [List.map_cons, List.nodup_cons] at nd
      have e : p.2 = q.2 := by
        have := g p.1
        unfold gt at this
        rw [List.find?_cons, List.find?_cons] at this
        simp [h1] at this
        exact this
      have hp : p = q := Prod.ext h1 e
      rw [hp, ih h2 nd.2 fun k => ?_]
      have := g k
      unfold gt at this ⊢
      rw [List.find?_cons, List.find?_cons, hp] at this
      by_cases e2 : q.1 = k
      · have n1 : k ∉ a.map (·.1) := by rw [← e2, ← h1]; exact nd.1
        have n2 : k ∉ b.map (·.1) := by rw [← h2]; exact n1
        have f1 : a.find? (fun p => decide (p.1 = k)) = none := List.find?_eq_none.mpr fun r hr => by
          have : ¬ r.1 = k := fun z => n1 (z ▸ List.mem_map.mpr ⟨r, hr, rfl⟩)
          simpa using this
        have f2 : b.find? (fun p => decide (p.1 = k)) = none := List.find?_eq_none.mpr fun r hr => by
          have : ¬ r.1 = k := fun z => n2 (z ▸ List.mem_map.mpr ⟨r, hr, rfl⟩)
          simpa using this
        rw [f1, f2]
      · simp only [e2, decide_false] at this
        exact this
theorem law_left {l : Lens} {ds : List (Nat × Int)} (nd : (l.map (·.1)).Nodup) (hl : ∀ q ∈ l, 0 ≤ q.2) (hp : ∀ q ∈ ds, 0 < q.2) :
    ((∀ q ∈ ds.foldl subOne l, 0 ≤ q.2) → drawnP l (ds.foldl takeOne []) = some (ds.foldl subOne l)) ∧ ((∃ q ∈ ds.foldl subOne l, q.2 < 0) → drawnP l (ds.foldl takeOne []) = none) := by
  have rel : RelL l (ds.foldl takeOne []) (ds.foldl subOne l) := relL_fold l ds [] l fun k => rfl
  have ndA := taken_nodup ds [] .nil
  have posA := taken_pos ds hp [] (fun q m => absurd m (by simp))
  obtain ⟨d1, d2⟩ := drawn_iff (ds.foldl takeOne []) l ndA posA hl
  have gA : ∀ q ∈ ds.foldl takeOne [], gt (ds.foldl takeOne []) q.1 = some q.2 := fun q m => by
    obtain ⟨v, hv⟩ := gt_key (List.mem_map.mpr ⟨q, m, rfl⟩ : q.1 ∈ (ds.foldl takeOne []).map (·.1))
    have := gt_nodup ndA q m
    rw [hv] at this
    rw [hv]
    exact congrArg some this
  constructor
  · intro h
    have cond : ∀ q ∈ ds.foldl takeOne [], q.2 ≤ (gt l q.1).getD 0 := fun q m => by
      have r := rel q.1
      rw [gA q m] at r
      have := h _ (gt_mem r)
      have this : 0 ≤ (gt l q.1).getD 0 - q.2 := this
      omega
    obtain ⟨l', h1, h2⟩ := d1 cond
    have k1 := (drawn_keys _ _ _ posA hl h1).1
    have k2 : (ds.foldl subOne l).map (·.1) = l.map (·.1) := sub_keys ds l fun q m => by
      obtain ⟨w, hw⟩ := (taken_has ds []).2 q m
      have hm := gt_mem hw
      have c := cond _ hm
      have p := posA _ hm
      cases e : gt l (sg q.1) with
      | none => rw [show (gt l (sg q.1, w).1) = none from e] at c; exact absurd p (by show ¬ 0 < w; have : w ≤ 0 := c; omega)
      | some v => exact key_gt e
    show (ds.foldl takeOne []).foldl drawOne (some l) = _
    rw [h1]
    congr 1
    refine lens_ext (k1.trans k2.symm) (by rw [k1]; exact nd) fun k => ?_
    rw [h2 k, rel k]
  · rintro ⟨q, m, hq⟩
    have ndL : ((ds.foldl subOne l).map (·.1)).Nodup := by
      have : ∀ (ds : List (Nat × Int)) (L : Lens), (L.map (·.1)).Nodup → ((ds.foldl subOne L).map (·.1)).Nodup := by
        intro ds
        induction ds with
        | nil => intro L h; exact h
        | cons x ds ih => intro L h; exact ih _ (pt_nodup h)
      exact this ds l nd
    have g : gt (ds.foldl subOne l) q.1 = some q.2 := by
      obtain ⟨v, hv⟩ := gt_key (List.mem_map.mpr ⟨q, m, rfl⟩ : q.1 ∈ (ds.foldl subOne l).map (·.1))
      have := gt_nodup ndL q m
      rw [hv] at this
      rw [hv]
      exact congrArg some this
    have r := rel q.1
    rw [g] at r
    cases e : gt (ds.foldl takeOne []) q.1 with
    | none =>
      rw [e] at r
      have := hl _ (gt_mem r.symm)
      have this : 0 ≤ q.2 := this
      omega
    | some t =>
      rw [e] at r
      have r2 : q.2 = (gt l q.1).getD 0 - t := Option.some.inj r
      exact d2 ⟨(q.1, t), gt_mem e, by show (gt l q.1).getD 0 < t; omega⟩
theorem sub_nodup : ∀ (ds : List (Nat × Int)) (L : Lens), (L.map (·.1)).Nodup → ((ds.foldl subOne L).map (·.1)).Nodup := by
  intro ds
  induction ds with
  | nil => intro L h; exact h
  | cons x ds ih => intro L h; exact ih _ (pt_nodup h)
theorem sub_len : ∀ (ds : List (Nat × Int)) (L : Lens), (ds.foldl subOne L).length ≤ L.length + ds.length := by
  intro ds
  induction ds with
  | nil => intro L; exact Nat.le_refl _
  | cons x ds ih =>
    intro L
    have h := ih (subOne L x)
    have h2 : (subOne L x).length ≤ L.length + 1 := pt_len _ _ _
    rw [List.foldl_cons, List.length_cons]
    omega
theorem sub_ne {ds : List (Nat × Int)} {L : Lens} (h : ds ≠ []) : 0 < (ds.foldl subOne L).length := by
  have rel : RelL L (ds.foldl takeOne []) (ds.foldl subOne L) := relL_fold L ds [] L fun k => rfl
  cases ds with
  | nil => exact absurd rfl h
  | cons q ds =>
    obtain ⟨w, hw⟩ := (taken_has (q :: ds) []).2 q List.mem_cons_self
    have r := rel (sg q.1)
    rw [hw] at r
    exact List.length_pos_of_mem (gt_mem r)
theorem drw_ne {cards : List Card} {z : Str} (h : ∀ t ∈ cards, CardOk t) (n : cards ≠ []) (f : fitsP z cards.length = true) : drw cards z.cps.toList ≠ [] := by
  obtain ⟨zl, _, _⟩ := fits_len f
  cases cards with
  | nil => exact absurd rfl n
  | cons t cards =>
    cases e : z.cps.toList with
    | nil => rw [e] at zl; cases zl
    | cons c row =>
      intro k
      have l4 := (cardOk_parts (h t List.mem_cons_self)).2.1
      have := congrArg List.length k
      unfold drw at this
      rw [List.zipWith_cons_cons, List.flatten_cons, List.length_append, List.length_map, l4] at this
      simp at this
theorem drw_step {cards : List Card} {row : List Nat} {i c : Nat} {t : Card} (hl : row.length = cards.length) (ht : cards[i]? = some t) (hc : row[i]? = some c) : drw (cards.take (i + 1)) (row.take (i + 1)) = drw (cards.take i) (row.take i) ++ t.2.1.cps.toList.map fun h => (h, if c = 105 then (1 : Int) else 2) := by
  unfold drw
  rw [List.take_succ, List.take_succ, ht, hc, List.zipWith_append (by rw [List.length_take, List.length_take]; omega)]
  simp
theorem num_digit {st : Str} {n : Int} (h : num st = some n) : (0 ≤ n ∧ n ≤ 3) ↔ (decide (st = "0") || (decide (st = "1") || (decide (st = "2") || decide (st = "3")))) = true := by
  obtain ⟨_, h2, _, h4⟩ := num_some h
  constructor
  · intro ⟨_, h3⟩
    have : n = 0 ∨ n = 1 ∨ n = 2 ∨ n = 3 := by omega
    rcases this with e | e | e | e <;> (subst e; rw [← h2]; decide +kernel)
  · intro k
    simp only [Bool.or_eq_true, decide_eq_true_eq] at k
    have : ∀ z : Str, num z = some n → ∀ m, num z = some m → n = m := fun z a m b => by rw [a] at b; exact Option.some.inj b
    rcases k with e | e | e | e <;> subst e
    · have := this _ h 0 (by decide +kernel); omega
    · have := this _ h 1 (by decide +kernel); omega
    · have := this _ h 2 (by decide +kernel); omega
    · have := this _ h 3 (by decide +kernel); omega
theorem num_digits {st : Str} (k : (decide (st = "0") || (decide (st = "1") || (decide (st = "2") || decide (st = "3")))) = true) : ∃ n, num st = some n ∧ 0 ≤ n ∧ n ≤ 3 := by
  have k0 := k
  simp only [Bool.or_eq_true, decide_eq_true_eq] at k
  rcases k with e | e | e | e <;> subst e
  · exact ⟨0, by decide +kernel, by decide, by decide⟩
  · exact ⟨1, by decide +kernel, by decide, by decide⟩
  · exact ⟨2, by decide +kernel, by decide, by decide⟩
  · exact ⟨3, by decide +kernel, by decide, by decide⟩
theorem inV_d3 (z : Str) : inV (V.str z) [V.str "0", V.str "1", V.str "2", V.str "3"] = (decide (z = "0") || (decide (z = "1") || (decide (z = "2") || decide (z = "3")))) := by
  unfold inV
  simp only [List.any_cons, List.any_nil, eqV_str, Bool.or_false]
theorem tabletM_eq {w0 lay holes st : Str} : tabletM [w0, lay, holes, st] = (num st).bind fun n => if madeP lay holes n = true then some (lay, holes, n) else none := rfl
/-- where the head stands -/
def headAt (rem : List (List Str)) (last : Str) (acc : Lens) (dr : List Card) : Option (List Card × Lens) :=
  if dr = [] then (spoolsM rem last acc).bind fun q => (draftM q.2 []).map fun e => (e.1, q.1) else (draftM rem dr).map fun e => (e.1, acc)
theorem headAt_spool {x : List Str} {r : List (List Str)} {last : Str} {acc : Lens} (h : x.head? = some ("spool" : Str)) : headAt (x :: r) last acc [] = match spoolM x last with | some q => headAt r q.1 (pt acc q.1 q.2) [] | none => none := by
  unfold headAt
  rw [if_pos rfl]
  have e : spoolsM (x :: r) last acc = match spoolM x last with | some q => spoolsM r q.1 (pt acc q.1 q.2) | none => none := if_pos h
  rw [e]
  cases spoolM x last with
  | none => rfl
  | some q => simp
theorem headAt_tablet {x : List Str} {r : List (List Str)} {last : Str} {acc : Lens} {dr : List Card} (h : x.head? = some ("tablet" : Str)) : headAt (x :: r) last acc dr = match tabletM x with | some c => headAt r last acc (dr ++ [c]) | none => none := by
  have e : ∀ d, draftM (x :: r) d = match tabletM x with | some c => draftM r (d ++ [c]) | none => none := fun d => if_pos h
  have ne : ∀ c, ¬ dr ++ [c] = [] := fun c => by simp
  unfold headAt
  by_cases hd : dr = []
  · subst hd
    rw [if_pos rfl]
    have ns : ¬ x.head? = some ("spool" : Str) := by
      rw [h]
      decide +kernel
    have e2 : spoolsM (x :: r) last acc = some (acc, x :: r) := if_neg ns
    rw [e2]
    show (draftM (x :: r) []).map _ = _
    rw [e]
    cases tabletM x with
    | none => rfl
    | some c => simp
  · rw [if_neg hd, e]
    cases tabletM x with
    | none => rfl
    | some c => simp
theorem headAt_stop {rem : List (List Str)} {last : Str} {acc : Lens} {dr : List Card} (h1 : dr = [] → ¬ (rem[0]?).bind List.head? = some ("spool" : Str)) (h2 : ¬ (rem[0]?).bind List.head? = some ("tablet" : Str)) : headAt rem last acc dr = some (dr, acc) := by
  unfold headAt
  by_cases hd : dr = []
  · rw [if_pos hd, spoolsM_stop (h1 hd)]
    show (draftM rem []).map _ = _
    rw [draftM_stop h2, hd]
    rfl
  · rw [if_neg hd, draftM_stop h2]
    rfl
theorem headM_at (L : List (List Str)) : headM L = headAt (L.drop 1) "" [] [] := rfl
theorem cut_len (z : Str) (lo hi : Option Int) : (cutS z lo hi).length ≤ z.length := by
  unfold cutS
  show ((z.cps.toList.drop _).take _).toArray.size ≤ _
  rw [List.size_toArray, List.length_take, List.length_drop]
  have : z.cps.toList.length = z.length := Array.length_toList
  omega
theorem join_len (ys : List Str) : (Txt.join "" ys).length = (ys.map Str.length).sum := by
  rw [TL.len_tl, TL.join_eq, TL.tl_join]
  have e : TL.tl ("" : Str) = [] := by decide +kernel
  rw [e]
  have : ∀ l : List (List Nat), (TL.joinL [] l).length = (l.map List.length).sum := by
    intro l
    induction l with
    | nil => rfl
    | cons p l ih =>
      cases l with
      | nil => simp [TL.joinL]
      | cons q l =>
        show (p ++ ([] ++ TL.joinL [] (q :: l))).length = _
        rw [List.nil_append, List.length_append, ih]
        simp
  have e2 : ys.map (List.length ∘ TL.tl) = ys.map Str.length := by
    apply List.map_congr_left
    intro z _
    exact (TL.len_tl z).symm
  rw [this, List.map_map, e2]
theorem join_len1 (y : Str) (hy : y.length = 1) (ys : List Str) : (Txt.join y ys).length ≤ (ys.map Str.length).sum + ys.length := by
  rw [TL.len_tl, TL.join_eq, TL.tl_join]
  have hl : (TL.tl y).length = 1 := by rw [← TL.len_tl]; exact hy
  generalize TL.tl y = S at hl
  have : ∀ l : List (List Nat), (TL.joinL S l).length ≤ (l.map List.length).sum + l.length := by
    intro l
    induction l with
    | nil => simp [TL.joinL]
    | cons p l ih =>
      cases l with
      | nil => simp [TL.joinL]
      | cons q l =>
        show (p ++ (S ++ TL.joinL S (q :: l))).length ≤ _
        rw [List.length_append, List.length_append, hl]
        simp at ih ⊢
        omega
  have h := this (ys.map TL.tl)
  rw [List.length_map, List.map_map] at h
  have e : ys.map (List.length ∘ TL.tl) = ys.map Str.length := by
    apply List.map_congr_left
    intro z _
    exact (TL.len_tl z).symm
  rw [e] at h
  exact h
theorem sum_le {l : List Str} {n : Nat} (h : ∀ z ∈ l, z.length ≤ n) : (l.map Str.length).sum ≤ n * l.length := by
  induction l with
  | nil => simp
  | cons z l ih =>
    have h1 := h z List.mem_cons_self
    have h2 := ih fun y m => h y (List.mem_cons_of_mem _ m)
    rw [List.map_cons, List.sum_cons, List.length_cons, Nat.mul_succ]
    omega
theorem tyx_tup {K : PySem.W.Frag} {H : Hp} {a : Addr} {xs : List V} (h : SqT K H a xs) : TyX K H (.ref a) (.type "tuple") := by
  rcases h with (h | ⟨o, h⟩) | ⟨o, its, n, h1, h2, _⟩
  · exact .base (.tup h)
  · exact .fTuple h
  · exact .kTuple h1 h2
theorem tyx_lst {K : PySem.W.Frag} {H : Hp} {a : Addr} {xs : List V} (h : SqL K H a xs) : TyX K H (.ref a) (.type "list") := by
  rcases h with (h | ⟨o, h⟩) | ⟨o, its, n, h1, h2, _⟩
  · exact .base (.lst h)
  · exact .base (.frz h)
  · exact .kList h1 h2
theorem stateN_upd {K : PySem.W.Frag} {N : Addr → Prop} {H : Hp} {D : Addr} {xs ys : List V} {v : V} {s : Sg} (h : StateN K N H v s) (hN : ∀ a, N a → a ≠ D) (hD : H D = some (.lst xs)) : StateN K N (upd H D (.lst ys)) v s := by
  obtain ⟨a, l1, l2, l3, d, ⟨n1, n2, n3, n4⟩, rfl, sq, h1, h2, h3, h4⟩ := h
  have sl : ∀ {l : Addr} {zs : List V}, l ≠ D → SqL K H l zs → SqL K (upd H D (.lst ys)) l zs := fun ne q => by
    rcases q with (q | ⟨o, q⟩) | q
    · exact .inl (.inl (by rw [upd_ne ne]; exact q))
    · exact .inl (.inr ⟨o, by rw [upd_ne ne]; exact q⟩)
    · exact .inr q
  obtain ⟨_, x1, e1, q1, d1⟩ := dp_lst h1
  cases e1
  obtain ⟨_, e2, q2⟩ := dp_ints h2
  cases e2
  obtain ⟨_, e3, q3⟩ := dp_ints h3
  cases e3
  have ts := ts_upd (o := .lst ys) hD nt_lst
  exact ⟨a, l1, l2, l3, d, ⟨n1, n2, n3, n4⟩, rfl, ts_seq ts sq, .lst (sl (hN _ n1) q1) (dpA_ts ts (flat_c _) d1), .lst (sl (hN _ n2) q2) dpA_ofInts, .lst (sl (hN _ n3) q3) dpA_ofInts, by rw [upd_ne (hN _ n4)]; exact h4⟩
theorem stateN_mono {K : PySem.W.Frag} {N : Addr → Prop} {H H' : Hp} {v : V} {s : Sg} (h : StateN K N H v s) (e : Same H H') : StateN K N H' v s := by
  obtain ⟨a, l1, l2, l3, d, hn, rfl, sq, h1, h2, h3, h4⟩ := h
  exact ⟨a, l1, l2, l3, d, hn, rfl, same_seqT e sq, dp_mono e _ _ h1, dp_mono e _ _ h2, dp_mono e _ _ h3, e _ _ h4⟩
theorem stateN_at {K : PySem.W.Frag} {N : Addr → Prop} {H : Hp} {v : V} {s : Sg} (h : StateN K N H v s) : StateAt K H v s := by
  obtain ⟨a, l1, l2, l3, d, hn, rfl, sq, h1, h2, h3, h4⟩ := h
  exact ⟨a, l1, l2, l3, d, rfl, sq, h1, h2, h3, h4⟩
theorem bandM_snoc : ∀ (a : List Deed) (b : List Sg) (d : Deed) (t s0 : Sg), b.length = a.length + 1 → bandM (a ++ [d]) (b ++ [t]) = bandM a b ++ bandM [d] [b.getLastD s0] := by
  intro a
  induction a with
  | nil =>
    intro b d t s0 h
    match b, h with
    | [x], _ =>
      show (_ ++ bandM [] [t]) = [] ++ (_ ++ bandM [] [])
      rfl
  | cons a0 a ih =>
    intro b d t s0 h
    cases b with
    | nil => simp at h
    | cons b0 b =>
      show _ ++ bandM (a ++ [d]) (b ++ [t]) = (_ ++ bandM a b) ++ _
      rw [ih b d t s0 (by simpa using h), List.append_assoc]
      have e : (b0 :: b).getLastD s0 = b.getLastD s0 := by
        cases b with
        | nil => simp at h
        | cons _ _ => simp [List.getLastD]
      rw [e]
/-- at pb a list whose parts lean neither on pb nor on pd -/
def B2 (K : PySem.W.Frag) (H : Hp) (pb pd : Addr) (ds : List PyData) : Prop := ∃ acc, H pb = some (.lst acc) ∧ DpAll K (wo (wo H pb) pd) acc ds
theorem B2.same {K : PySem.W.Frag} {H H' : Hp} {pb pd : Addr} {ds : List PyData} (h : B2 K H pb pd ds) (e : Same H H') : B2 K H' pb pd ds := by
  obtain ⟨acc, q, r⟩ := h
  exact ⟨acc, e _ _ q, dpA_mono (same_wos (same_wos e)) _ _ r⟩
theorem B2.other {K : PySem.W.Frag} {H : Hp} {pb pd : Addr} {ds : List PyData} {o : HO} (h : B2 K H pb pd ds) (n : pb ≠ pd) : B2 K (upd H pd o) pb pd ds := by
  obtain ⟨acc, q, r⟩ := h
  refine ⟨acc, by rw [upd_ne n]; exact q, ?_⟩
  rw [wo_updne (Ne.symm n), wo_upd]
  exact r
theorem B2.app {K : PySem.W.Frag} {H : Hp} {pb pd l : Addr} {ds es : List PyData} {acc xs nacc : List V} (hb : H pb = some (.lst acc)) (hd : H pd = some (.lst nacc)) (n : pb ≠ pd) (r : DpAll K (wo (wo H pb) pd) acc ds) (nb : l ≠ pb) (nd : l ≠ pd) (hl : H l = some (.lst xs)) (f : ∀ d ∈ es, flatT d = true) (hx : DpAll K H xs es) : B2 K (upd H pb (.lst (acc ++ [V.ref l]))) pb pd (ds ++ [.list es]) := by
  refine ⟨_, upd_same, ?_⟩
  rw [wo_upd]
  have hd2 : (wo H pb) pd = some (.lst nacc) := (wo_ne (Ne.symm n)).trans hd
  exact dpA_app r (.cons (.lst (SqL.of (by rw [wo_ne nd, wo_ne nb]; exact hl)) (dpA_ts ((ts_wo hb nt_lst).trans (ts_wo hd2 nt_lst)) f hx)) .nil)
theorem B2.dp {K : PySem.W.Frag} {H : Hp} {pb pd : Addr} {ds : List PyData} (h : B2 K H pb pd ds) : Dp K H (.ref pb) (.list ds) := by
  obtain ⟨acc, q, r⟩ := h
  exact .lst (SqL.of q) (dpA_mono (same_wo.trans same_wo) _ _ r)

theorem ok_is_colour {P : Program} {w : World} {K : PySem.W.Frag} {mg : Str → Option Value} {base : Heap} (T : Tx K mg) : Has P w K mg base CX0 1 "is_colour" ["sign"] sp_is_colour := by
  refine T.d_is_colour.has sc_is_colour (fun vs H Q E h => ?_) (fun f cdv A outer s H vs Q E hr h => ?_)
  · obtain ⟨_, rfl, _⟩ := h
    rfl
  · obtain ⟨z, rfl, hz, q⟩ := h
    refine ⟨_, PSs.nox ((pss_one (ps_ret (pe_and (pe_cmpR op_eq (pe_callB call_len_str (by rfl) T.m_len PySem.boot_len (pa_cons (pv 0) pa_nil)) pe_int (nomark _)) (pe_one (pe_cmpR op_in_sign (pv 0) (pe_glob (v := .str "abcdefghijklmnopqrstuvwxyz") (by rfl) (T.v_COLOURS).choose_spec ⟨_, rfl⟩) rfl)))))), ?_⟩
    refine ⟨_, rfl, z, rfl, hz, rfl, _, rfl, bb (fun h => ?_) fun h => ?_⟩
    · rw [dec_i] at h
      have hl : z.length = 1 := by have := of_decide_eq_true h; omega
      obtain ⟨c, rfl⟩ := one_sign hl
      refine ⟨_, rfl, c, _, rfl, rfl, ?_⟩
      have e : decide (c ∈ (PySem.Str.ofString "abcdefghijklmnopqrstuvwxyz").cps.toList) = isCol (sg c) := by
        have e1 : isCol (sg c) = low c := by
          unfold isCol
          rw [decide_eq_true hl]
          simp [sg]
        rw [e1, Bool.eq_iff_iff, decide_eq_true_eq, abc_mem]
      rw [e]
      exact q
    · rw [dec_i] at h
      have hl : ¬ z.length = 1 := by have := of_decide_eq_false h; omega
      have e : isCol z = false := by
        unfold isCol
        rw [decide_eq_false hl]
        rfl
      rw [e] at q
      exact q

theorem has_is_colour {P : Program} {w : World} {K : PySem.W.Frag} {mg : Str → Option Value} {base : Heap} (T : Tx K mg) : Has P w K mg base CX0 1 "is_colour" ["sign"] sp_is_colour := ok_is_colour T
theorem ok_top {P : Program} {w : World} {K : PySem.W.Frag} {mg : Str → Option Value} {base : Heap} (T : Tx K mg) : Has P w K mg base CX0 1 "top" ["tablet"] (sp_top K) := by
  refine T.d_top.has sc_top (fun vs H Q E h => ?_) (fun f cdv A outer s H vs Q E hr h => ?_)
  · obtain ⟨_, _, rfl, _⟩ := h
    rfl
  · obtain ⟨v, t, rfl, hv, ok, q⟩ := h
    refine ⟨_, PSs.nox ((pss_one (ps_ret (pe_ix ix_str (pe_ix ix_tup (pv 0) pe_int (fun _ _ => rfl)) (pe_ix ix_tup (pv 0) pe_int (fun _ _ => rfl)) (fun _ _ => rfl))))), ?_⟩
    obtain ⟨a, rfl, s⟩ := card_at hv
    obtain ⟨o1, o2, o3, o4, o5⟩ := cardOk_parts ok
    obtain ⟨c, hc, e⟩ := hole_at o2 o4 (show t.2.2 < ((4 : Nat) : Int) by omega)
    refine ⟨_, rfl, a, _, _, _, rfl, rfl, s, rfl, _, rfl, a, _, _, _, rfl, rfl, s, rfl, _, _, c, rfl, rfl, len_size o2 (by decide), hc, ?_⟩
    rw [e]
    exact q

theorem has_top {P : Program} {w : World} {K : PySem.W.Frag} {mg : Str → Option Value} {base : Heap} (T : Tx K mg) : Has P w K mg base CX0 1 "top" ["tablet"] (sp_top K) := ok_top T
theorem ok_bottom {P : Program} {w : World} {K : PySem.W.Frag} {mg : Str → Option Value} {base : Heap} (T : Tx K mg) : Has P w K mg base CX0 1 "bottom" ["tablet"] (sp_bottom K) := by
  refine T.d_bottom.has sc_bottom (fun vs H Q E h => ?_) (fun f cdv A outer s H vs Q E hr h => ?_)
  · obtain ⟨_, _, rfl, _⟩ := h
    rfl
  · obtain ⟨v, t, rfl, hv, ok, q⟩ := h
    refine ⟨_, PSs.nox ((pss_one (ps_ret (pe_ix ix_str (pe_ix ix_tup (pv 0) pe_int (fun _ _ => rfl)) (pe_op op_mod (pe_op op_add (pe_ix ix_tup (pv 0) pe_int (fun _ _ => rfl)) pe_int) pe_int) (fun _ _ => rfl))))), ?_⟩
    obtain ⟨a, rfl, s⟩ := card_at hv
    obtain ⟨o1, o2, o3, o4, o5⟩ := cardOk_parts ok
    obtain ⟨c, hc, e⟩ := hole_at (i := (t.2.2 + 2) % 4) o2 (by omega) (show (t.2.2 + 2) % 4 < ((4 : Nat) : Int) by omega)
    refine ⟨_, rfl, a, _, _, _, rfl, rfl, s, rfl, _, rfl, a, _, _, _, rfl, rfl, s, rfl, _, _, rfl, rfl, _, _, rfl, rfl, (by show (0 : Int) < 4; decide), _, _, c, rfl, rfl, len_size o2 (by decide), hc, ?_⟩
    rw [e]
    exact q

theorem has_bottom {P : Program} {w : World} {K : PySem.W.Frag} {mg : Str → Option Value} {base : Heap} (T : Tx K mg) : Has P w K mg base CX0 1 "bottom" ["tablet"] (sp_bottom K) := ok_bottom T
theorem ok_advance {P : Program} {w : World} {K : PySem.W.Frag} {mg : Str → Option Value} {base : Heap} (T : Tx K mg) : Has P w K mg base CX0 1 "advance" ["turn"] sp_advance := by
  refine T.d_advance.has sc_advance (fun vs H Q E h => ?_) (fun f cdv A outer s H vs Q E hr h => ?_)
  · obtain ⟨_, rfl, _⟩ := h
    rfl
  · obtain ⟨c, rfl, q⟩ := h
    refine ⟨_, PSs.nox ((pss_cons (ps_if (pt_cmpR op_eq (pv 0) pe_str (nomark _)) (pss_one (ps_ret pe_int)) pss_nil) (pss_cons (ps_if (pt_cmpR op_eq (pv 0) pe_str (nomark _)) (pss_one (ps_ret (pe_un un_neg pe_int))) pss_nil) (pss_one (ps_ret pe_int))))), ?_⟩
    refine ⟨_, rfl, rfl, _, rfl, bb (fun h => ?_) fun h => ?_⟩
    · rw [dec_sg (n := 102) (by decide)] at h
      have e : adv c = 1 := if_pos (of_decide_eq_true h)
      rw [e] at q
      exact q
    · rw [dec_sg (n := 102) (by decide)] at h
      refine ⟨_, rfl, rfl, _, rfl, bb (fun g => ?_) fun g => ?_⟩
      · rw [dec_sg (n := 98) (by decide)] at g
        have e : adv c = -1 := (if_neg (of_decide_eq_false h)).trans (if_pos (of_decide_eq_true g))
        rw [e] at q
        exact ⟨_, rfl, q⟩
      · rw [dec_sg (n := 98) (by decide)] at g
        have e : adv c = 0 := (if_neg (of_decide_eq_false h)).trans (if_neg (of_decide_eq_false g))
        rw [e] at q
        exact q

theorem has_advance {P : Program} {w : World} {K : PySem.W.Frag} {mg : Str → Option Value} {base : Heap} (T : Tx K mg) : Has P w K mg base CX0 1 "advance" ["turn"] sp_advance := ok_advance T
theorem ok_flipped {P : Program} {w : World} {K : PySem.W.Frag} {mg : Str → Option Value} {base : Heap} (T : Tx K mg) : Has P w K mg base CX0 1 "flipped" ["tablet"] (sp_flipped K) := by
  refine T.d_flipped.has sc_flipped (fun vs H Q E h => ?_) (fun f cdv A outer s H vs Q E hr h => ?_)
  · obtain ⟨_, _, rfl, _⟩ := h
    rfl
  · obtain ⟨v, t, rfl, hv, ok, q⟩ := h
    refine ⟨_, PSs.nox ((pss_cons (ps_set (i := 1) sc_flipped.nd rfl (Or.inl rfl) pe_str) (pss_cons (ps_if (pt_cmpR op_eq (pe_ix ix_tup (pv 0) pe_int (fun _ _ => rfl)) pe_str (nomark _)) (pss_one (ps_set (i := 1) sc_flipped.nd rfl (Or.inl rfl) pe_str)) pss_nil) (pss_cons (ps_set (i := 2) sc_flipped.nd rfl (Or.inl rfl) (pe_ix ix_tup (pv 0) pe_int (fun _ _ => rfl))) (pss_one (ps_ret (pe_tup (pa_cons (pv 1) (pa_cons (pe_op op_add_str (pe_op op_add_str (pe_op op_add_str (pe_ix ix_str (pv 2) pe_int (fun _ _ => rfl)) (pe_ix ix_str (pv 2) pe_int (fun _ _ => rfl))) (pe_ix ix_str (pv 2) pe_int (fun _ _ => rfl))) (pe_ix ix_str (pv 2) pe_int (fun _ _ => rfl))) (pa_cons (pe_op op_mod (pe_op op_sub pe_int (pe_ix ix_tup (pv 0) pe_int (fun _ _ => rfl))) pe_int) pa_nil)))))))))), ?_⟩
    obtain ⟨a, rfl, s⟩ := card_at hv
    obtain ⟨o1, o2, o3, o4, o5⟩ := cardOk_parts ok
    obtain ⟨c0, h0, e0⟩ := hole_at (i := 0) o2 (by decide) (by decide)
    obtain ⟨c1, h1, e1⟩ := hole_at (i := 1) o2 (by decide) (by decide)
    obtain ⟨c2, h2, e2⟩ := hole_at (i := 2) o2 (by decide) (by decide)
    obtain ⟨c3, h3, e3⟩ := hole_at (i := 3) o2 (by decide) (by decide)
    have hl := len_size o2 (by decide)
    have eh : (⟨#[c0]⟩ : Str) ++ ⟨#[c3]⟩ ++ ⟨#[c2]⟩ ++ ⟨#[c1]⟩ = (cFlip t).2.1 := by
      rw [e0, e1, e2, e3]
      rfl
    refine ⟨_, rfl, a, _, _, _, rfl, rfl, s, rfl, rfl, _, rfl, bb (fun h => ?_) fun h => ?_⟩
    · rw [dec_str] at h
      have el : (cFlip t).1 = "Z" := if_pos (of_decide_eq_true h)
      refine ⟨_, rfl, a, _, _, _, rfl, rfl, s, rfl, _, rfl, _, rfl, _, _, c0, rfl, rfl, hl, h0, _, rfl, _, _, c3, rfl, rfl, hl, h3, _, _, rfl, rfl, (by rw [sizeLine_eq]; exact (by decide : (1 : Nat) + 1 ≤ 16777216)), _, rfl, _, _, c2, rfl, rfl, hl, h2, _, _, rfl, rfl, ?_, _, rfl, _, _, c1, rfl, rfl, hl, h1, _, _, rfl, rfl, ?_, ?_⟩
      · rw [sizeLine_eq]; exact (by decide : (2 : Nat) + 1 ≤ 16777216)
      · rw [sizeLine_eq]; exact (by decide : (3 : Nat) + 1 ≤ 16777216)
      rw [eh]
      refine ⟨_, rfl, a, _, _, _, rfl, rfl, s, rfl, _, _, rfl, rfl, _, _, rfl, rfl, (by show (0 : Int) < 4; decide), (by show 3 ≤ sizeLine; decide), fun p hp => ?_⟩
      have z := q p hp
      unfold tupC at z
      rw [el] at z
      exact z
    · rw [dec_str] at h
      have el : (cFlip t).1 = "S" := if_neg (of_decide_eq_false h)
      refine ⟨_, rfl, a, _, _, _, rfl, rfl, s, rfl, _, rfl, _, rfl, _, _, c0, rfl, rfl, hl, h0, _, rfl, _, _, c3, rfl, rfl, hl, h3, _, _, rfl, rfl, (by rw [sizeLine_eq]; exact (by decide : (1 : Nat) + 1 ≤ 16777216)), _, rfl, _, _, c2, rfl, rfl, hl, h2, _, _, rfl, rfl, ?_, _, rfl, _, _, c1, rfl, rfl, hl, h1, _, _, rfl, rfl, ?_, ?_⟩
      · rw [sizeLine_eq]; exact (by decide : (2 : Nat) + 1 ≤ 16777216)
      · rw [sizeLine_eq]; exact (by decide : (3 : Nat) + 1 ≤ 16777216)
      rw [eh]
      refine ⟨_, rfl, a, _, _, _, rfl, rfl, s, rfl, _, _, rfl, rfl, _, _, rfl, rfl, (by show (0 : Int) < 4; decide), (by show 3 ≤ sizeLine; decide), fun p hp => ?_⟩
      have z := q p hp
      unfold tupC at z
      rw [el] at z
      exact z

theorem has_flipped {P : Program} {w : World} {K : PySem.W.Frag} {mg : Str → Option Value} {base : Heap} (T : Tx K mg) : Has P w K mg base CX0 1 "flipped" ["tablet"] (sp_flipped K) := ok_flipped T
theorem ok_slant_of {P : Program} {w : World} {K : PySem.W.Frag} {mg : Str → Option Value} {base : Heap} (T : Tx K mg) : Has P w K mg base CX0 1 "slant_of" ["twist"] sp_slant_of := by
  refine T.d_slant_of.has sc_slant_of (fun vs H Q E h => ?_) (fun f cdv A outer s H vs Q E hr h => ?_)
  · obtain ⟨_, rfl, _⟩ := h
    rfl
  · obtain ⟨t, rfl, q⟩ := h
    refine ⟨_, PSs.nox ((pss_cons (ps_if (pt_cmpR op_eq (pv 0) pe_int (nomark _)) (pss_one (ps_ret pe_str)) pss_nil) (pss_cons (ps_if (pt_cmpR op_eq (pv 0) (pe_un un_neg pe_int) (nomark _)) (pss_one (ps_ret pe_str)) pss_nil) (pss_one (ps_ret pe_str))))), ?_⟩
    refine ⟨_, rfl, rfl, _, rfl, bb (fun h => ?_) fun h => ?_⟩
    · rw [dec_i] at h
      have e : slant t = "s" := if_pos (of_decide_eq_true h)
      rw [e] at q
      exact q
    · rw [dec_i] at h
      refine ⟨_, rfl, _, rfl, rfl, _, rfl, bb (fun g => ?_) fun g => ?_⟩
      · rw [dec_i] at g
        have e : slant t = "z" := (if_neg (of_decide_eq_false h)).trans (if_pos (of_decide_eq_true g))
        rw [e] at q
        exact q
      · rw [dec_i] at g
        have e : slant t = "o" := (if_neg (of_decide_eq_false h)).trans (if_neg (of_decide_eq_false g))
        rw [e] at q
        exact q

theorem has_slant_of {P : Program} {w : World} {K : PySem.W.Frag} {mg : Str → Option Value} {base : Heap} (T : Tx K mg) : Has P w K mg base CX0 1 "slant_of" ["twist"] sp_slant_of := ok_slant_of T
theorem ok_fits {P : Program} {w : World} {K : PySem.W.Frag} {mg : Str → Option Value} {base : Heap} (T : Tx K mg) : Has P w K mg base CX0 1 "fits" ["row", "width"] sp_fits := by
  refine T.d_fits.has sc_fits (fun vs H Q E h => ?_) (fun f cdv A outer s H vs Q E hr h => ?_)
  · obtain ⟨_, _, rfl, _⟩ := h
    rfl
  · obtain ⟨z, n, rfl, hz, q⟩ := h
    refine ⟨_, PSs.nox ((pss_cons (ps_if (pt_cmpR op_ne (pe_callB call_len_str (by rfl) T.m_len PySem.boot_len (pa_cons (pv 0) pa_nil)) (pv 1) (nomark _)) (pss_one (ps_ret pe_bl)) pss_nil) (pss_cons (ps_for PassesOwn.never rfl (pi_str (pv 0)) (pg_name (i := 2) sc_fits.nd rfl (Or.inl rfl)) (pss_one (ps_if (pt_cmpR op_notIn_seq (pv 2) (pe_glob (v := .ref (He.ga K "TURNS")) (by rfl) T.g_TURNS rfl) rfl) (pss_one (ps_ret pe_bl)) pss_nil))) (pss_one (ps_ret pe_bl))))), ?_⟩
    refine ⟨_, rfl, z, rfl, hz, _, rfl, rfl, _, rfl, bb (fun h => ?_) fun h => ?_⟩
    · rw [dec_i, Bool.not_eq_true', decide_eq_false_iff_not] at h
      have e : fitsP z n = false := by
        unfold fitsP
        rw [decide_eq_false (fun k => h (by rw [k]))]
        rfl
      rw [e] at q
      exact q
    · rw [dec_i, Bool.not_eq_false', decide_eq_true_eq] at h
      have hl : z.length = n := by omega
      refine ⟨_, rfl, z, rfl, for_it (J := Its z) z.cps.size (fun i σ H' => (∃ o, σ = [some (V.str z), some (V.int n), o]) ∧ H' = H ∧ (z.cps.toList.take i).all fbi = true) ⟨⟨_, rfl⟩, rfl, rfl⟩ (fun i σ H' hi _ => hi) (fun _ _ _ => Nat.le_refl _) ?_ ?_⟩
      · rintro i σ H1 x H2 hi ⟨⟨o, rfl⟩, rfl, ha⟩ ⟨rfl, c, hc, rfl⟩
        have hc2 : z.cps.toList[i]? = some c := by rw [Array.getElem?_toList]; exact hc
        refine ⟨_, rfl, _, _, rfl, .inr (T.t_TURNS _), rfl, rfl, _, rfl, bb (fun g => ?_) fun g => ?_⟩
        · have g2 : fbi c = false := by
            have z1 : (!inV (V.str (sg c)) [V.str "f", V.str "b", V.str "i"]) = true := g
            rw [inV_fbi] at z1
            simpa using z1
          have e : fitsP z n = false := by
            unfold fitsP
            rw [all_none hc2 g2, Bool.and_false]
          rw [e] at q
          exact q
        · have g2 : fbi c = true := by
            have z1 : (!inV (V.str (sg c)) [V.str "f", V.str "b", V.str "i"]) = false := g
            rw [inV_fbi] at z1
            simpa using z1
          exact ⟨⟨_, rfl⟩, rfl, all_step ha hc2 g2⟩
      · rintro σ H1 ⟨_, rfl, ha⟩
        have e : fitsP z n = true := by
          unfold fitsP
          rw [decide_eq_true hl]
          rw [show z.cps.size = z.cps.toList.length from (Array.length_toList ..).symm, List.take_length] at ha
          rw [ha]
          rfl
        rw [e] at q
        exact q

theorem has_fits {P : Program} {w : World} {K : PySem.W.Frag} {mg : Str → Option Value} {base : Heap} (T : Tx K mg) : Has P w K mg base CX0 1 "fits" ["row", "width"] sp_fits := ok_fits T
theorem ok_taken_by {P : Program} {w : World} {K : PySem.W.Frag} {mg : Str → Option Value} {base : Heap} (T : Tx K mg) : Has P w K mg base CX0 1 "taken_by" ["tablets", "row"] (sp_taken_by K) := by
  refine T.d_taken_by.has sc_taken_by (fun vs H Q E h => ?_) (fun f cdv A outer s H vs Q E hr h => ?_)
  · obtain ⟨_, _, _, rfl, _⟩ := h
    rfl
  · obtain ⟨v, cards, z, rfl, hrow, q⟩ := h
    refine ⟨_, PSs.nox ((pss_cons (ps_set (i := 2) sc_taken_by.nd rfl (Or.inl rfl) pe_dnewK) (pss_cons (ps_for PassesOwn.never rfl (pi_zipS (by rfl) T.m_zip (pa_cons (pv 0) (pa_cons (pv 1) pa_nil))) (pg_tup rfl (pgs_cons (pg_name (i := 3) sc_taken_by.nd rfl (Or.inl rfl)) (pgs_cons (pg_name (i := 4) sc_taken_by.nd rfl (Or.inl rfl)) pgs_nil))) (pss_cons (ps_set (i := 5) sc_taken_by.nd rfl (Or.inl rfl) pe_int) (pss_cons (ps_if (pt_cmpR op_eq (pv 4) pe_str (nomark _)) (pss_one (ps_set (i := 5) sc_taken_by.nd rfl (Or.inl rfl) pe_int)) pss_nil) (pss_one (ps_for PassesOwn.never rfl (pi_str (pe_ix ix_tup (pv 3) pe_int (fun _ _ => rfl))) (pg_name (i := 6) sc_taken_by.nd rfl (Or.inl rfl)) (pss_one (ps_dput (hu_of hr) (pv 2) (pv 6) (pe_op op_add (pe_dget2 (hu_of hr) (pv 2) (pv 6) pe_int ⟨rfl, rfl, rfl, rfl⟩) (pv 5)) rfl))))))) (pss_one (ps_ret (pv 2)))))), ?_⟩
    obtain ⟨hv, hok, h8, hf⟩ := hrow
    obtain ⟨a, xs, rfl, sq, ha⟩ := dp_lst hv
    obtain ⟨zl, zs, zf⟩ := fits_len hf
    have xl : xs.length = cards.length := by rw [dpA_len ha, List.length_map]
    intro p1 n1
    have s0 := same_new (o := .dK []) n1
    refine ⟨_, rfl, _, rfl, a, z, xs, rfl, s0.seq sq, for_it (J := ItzS K a z) cards.length (fun i σ H' => (∃ o3 o4 o5 o6, σ = [some (V.ref a), some (V.str z), some (V.ref p1), o3, o4, o5, o6]) ∧ Same H H' ∧ H' p1 = some (.dK (eL ((drw (cards.take i) (z.cps.toList.take i)).foldl takeOne []))))
      ⟨⟨_, _, _, _, rfl⟩, s0, upd_same⟩ (fun i σ H' hi h => ⟨xs, h.2.1.seq sq, by omega, by omega⟩) (fun σ H' h => ⟨xs, h.2.1.seq sq, by omega, by omega, .inl xl.symm⟩) ?_ ?_⟩
    · rintro i σ H1 x H2 hi ⟨⟨o3, o4, o5, o6, rfl⟩, s1, e1⟩ ⟨T1, x, c, rfl, nT, rfl, hc, hx⟩
      have hc2 : z.cps.toList[i]? = some c := by rw [Array.getElem?_toList]; exact hc
      have hxi := hx xs (s1.seq sq)
      obtain ⟨t, ht, hxd⟩ := card_get ha hxi
      have okt := hok t (List.mem_of_getElem? ht)
      have sT := same_new (o := .tup [x, .str ⟨#[c]⟩]) nT
      obtain ⟨ax, rfl, sx⟩ := card_at (dp_mono (s1.trans sT) _ _ hxd)
      have e1' := sT _ _ e1
      have hdr : drw (cards.take (i + 1)) (z.cps.toList.take (i + 1)) = drw (cards.take i) (z.cps.toList.take i) ++ t.2.1.cps.toList.map fun h => (h, if c = 105 then (1 : Int) else 2) := by
        unfold drw
        rw [List.take_succ, List.take_succ, ht, hc2, List.zipWith_append (by rw [List.length_take, List.length_take]; omega)]
        simp
      have h32 : (drw (cards.take i) (z.cps.toList.take i)).length ≤ 32 := by
        have h1 := drw_len (cards.take i) (z.cps.toList.take i) (fun t m => hok t (List.mem_of_mem_take m))
        rw [List.length_take] at h1
        omega
      refine ⟨T1, _, rfl, SqT.of upd_same, rfl, _, _, rfl, _, _, rfl, rfl, ?_⟩
      obtain ⟨o1', o2', o3', o4', o5'⟩ := cardOk_parts okt
      have hsz : t.2.1.cps.size = 4 := by rw [← Array.length_toList]; exact o2'
      refine ⟨_, rfl, rfl, _, rfl, bb (fun g => ?_) fun g => ?_⟩
      · change decide (V.str (sg c) = V.str "i") = true at g
        rw [dec_sg (n := 105) (by decide)] at g
        have hea : (1 : Int) = if c = 105 then (1 : Int) else 2 := (if_pos (of_decide_eq_true g)).symm
        refine ⟨_, rfl, ax, _, _, _, rfl, rfl, sx, rfl, t.2.1, rfl, for_it (J := Its t.2.1) 4 (fun j σ H' => (∃ ea o6, ea = (if c = 105 then (1 : Int) else 2) ∧ σ = [some (V.ref a), some (V.str z), some (V.ref p1), some (V.ref ax), some (V.str ⟨#[c]⟩), some (V.int ea), o6]) ∧ Same H H' ∧ H' p1 = some (.dK (eL (((t.2.1.cps.toList.take j).map fun h => (h, if c = 105 then (1 : Int) else 2)).foldl takeOne ((drw (cards.take i) (z.cps.toList.take i)).foldl takeOne [])))))
          ⟨⟨_, _, hea, rfl⟩, s1.trans sT, e1'⟩ (fun j σ H' hj h => (show j < t.2.1.cps.size by omega)) (fun σ H' h => (show t.2.1.cps.size ≤ 4 by omega)) ?_ ?_⟩
        · rintro j σ H3 x H4 hj ⟨⟨ea, o6, he, rfl⟩, s3, e3⟩ ⟨rfl, d, hd, rfl⟩
          have hd2 : t.2.1.cps.toList[j]? = some d := by rw [Array.getElem?_toList]; exact hd
          have hlen := taken_len (((t.2.1.cps.toList.take j).map fun h => (h, if c = 105 then (1 : Int) else 2))) ((drw (cards.take i) (z.cps.toList.take i)).foldl takeOne [])
          have hlen2 := taken_len (drw (cards.take i) (z.cps.toList.take i)) []
          rw [List.length_map, List.length_take] at hlen
          rw [List.length_nil] at hlen2
          refine ⟨_, rfl, p1, rfl, .inl ⟨_, .inl e3⟩, _, rfl, _, gt_d e3, ?_⟩
          rw [getD_map]
          refine ⟨_, rfl, _, _, rfl, rfl, _, rfl, _, rfl, p1, _, rfl, pt_d e3 (by rw [sizeLine_eq]; omega), ⟨_, _, he, rfl⟩, same_put s3 n1, ?_⟩
          rw [take_map (fun h => (h, if c = 105 then (1 : Int) else 2)) hd2, List.foldl_append, upd_same, he]
          rfl
        · rintro σ H3 ⟨⟨ea, o6, he, rfl⟩, s3, e3⟩
          refine ⟨⟨_, _, _, _, rfl⟩, s3, ?_⟩
          rw [hdr, List.foldl_append]
          rw [List.take_of_length_le (Nat.le_of_eq o2')] at e3
          exact e3
      · change decide (V.str (sg c) = V.str "i") = false at g
        rw [dec_sg (n := 105) (by decide)] at g
        have hea : (2 : Int) = if c = 105 then (1 : Int) else 2 := (if_neg (of_decide_eq_false g)).symm
        refine ⟨_, rfl, ax, _, _, _, rfl, rfl, sx, rfl, t.2.1, rfl, for_it (J := Its t.2.1) 4 (fun j σ H' => (∃ ea o6, ea = (if c = 105 then (1 : Int) else 2) ∧ σ = [some (V.ref a), some (V.str z), some (V.ref p1), some (V.ref ax), some (V.str ⟨#[c]⟩), some (V.int ea), o6]) ∧ Same H H' ∧ H' p1 = some (.dK (eL (((t.2.1.cps.toList.take j).map fun h => (h, if c = 105 then (1 : Int) else 2)).foldl takeOne ((drw (cards.take i) (z.cps.toList.take i)).foldl takeOne [])))))
          ⟨⟨_, _, hea, rfl⟩, s1.trans sT, e1'⟩ (fun j σ H' hj h => (show j < t.2.1.cps.size by omega)) (fun σ H' h => (show t.2.1.cps.size ≤ 4 by omega)) ?_ ?_⟩
        · rintro j σ H3 x H4 hj ⟨⟨ea, o6, he, rfl⟩, s3, e3⟩ ⟨rfl, d, hd, rfl⟩
          have hd2 : t.2.1.cps.toList[j]? = some d := by rw [Array.getElem?_toList]; exact hd
          have hlen := taken_len (((t.2.1.cps.toList.take j).map fun h => (h, if c = 105 then (1 : Int) else 2))) ((drw (cards.take i) (z.cps.toList.take i)).foldl takeOne [])
          have hlen2 := taken_len (drw (cards.take i) (z.cps.toList.take i)) []
          rw [List.length_map, List.length_take] at hlen
          rw [List.length_nil] at hlen2
          refine ⟨_, rfl, p1, rfl, .inl ⟨_, .inl e3⟩, _, rfl, _, gt_d e3, ?_⟩
          rw [getD_map]
          refine ⟨_, rfl, _, _, rfl, rfl, _, rfl, _, rfl, p1, _, rfl, pt_d e3 (by rw [sizeLine_eq]; omega), ⟨_, _, he, rfl⟩, same_put s3 n1, ?_⟩
          rw [take_map (fun h => (h, if c = 105 then (1 : Int) else 2)) hd2, List.foldl_append, upd_same, he]
          rfl
        · rintro σ H3 ⟨⟨ea, o6, he, rfl⟩, s3, e3⟩
          refine ⟨⟨_, _, _, _, rfl⟩, s3, ?_⟩
          rw [hdr, List.foldl_append]
          rw [List.take_of_length_le (Nat.le_of_eq o2')] at e3
          exact e3
    · rintro σ H1 ⟨⟨o3, o4, o5, o6, rfl⟩, s1, e1⟩
      rw [List.take_of_length_le (Nat.le_refl _), List.take_of_length_le (by omega)] at e1
      exact ⟨_, rfl, q _ p1 s1 n1 e1⟩

theorem has_taken_by {P : Program} {w : World} {K : PySem.W.Frag} {mg : Str → Option Value} {base : Heap} (T : Tx K mg) : Has P w K mg base CX0 1 "taken_by" ["tablets", "row"] (sp_taken_by K) := ok_taken_by T
theorem ok_Stage_init {P : Program} {w : World} {K : PySem.W.Frag} {mg : Str → Option Value} {base : Heap} (T : Tx K mg) : HasK P w K mg base CX0 1 "Stage" ["self", "tablets", "twists", "peaks", "spools"] (sp_Stage_init K) := by
  refine T.d_Stage_init.has sc_Stage_init (fun vs H Q E h => ?_) (fun f cdv A outer s H vs Q E hr h => ?_)
  · obtain ⟨_, _, _, _, _, _, rfl, _⟩ := h
    rfl
  · obtain ⟨x, dx, a, b, c, d, rfl, hx, q⟩ := h
    refine ⟨_, PSs.nox ((pss_cons (ps_fld (pv 0) (pv 1) rfl) (pss_cons (ps_fld (pv 0) (pv 2) rfl) (pss_cons (ps_fld (pv 0) (pv 3) rfl) (pss_one (ps_fld (pv 0) (pv 4) rfl)))))), ?_⟩
    refine ⟨_, rfl, _, rfl, x, _, _, _, rfl, hx, T.c_Stage, T.a_cards, (by show (_ : Nat) < 1000; first | (show 0 < 1000; omega) | (show 1 < 1000; omega) | (show 2 < 1000; omega) | (show 3 < 1000; omega)), ?_⟩
    refine ⟨_, rfl, _, rfl, x, _, _, _, rfl, upd_same, T.c_Stage, T.a_turned_by, (by show (_ : Nat) < 1000; first | (show 0 < 1000; omega) | (show 1 < 1000; omega) | (show 2 < 1000; omega) | (show 3 < 1000; omega)), ?_⟩
    refine ⟨_, rfl, _, rfl, x, _, _, _, rfl, upd_same, T.c_Stage, T.a_farthest, (by show (_ : Nat) < 1000; first | (show 0 < 1000; omega) | (show 1 < 1000; omega) | (show 2 < 1000; omega) | (show 3 < 1000; omega)), ?_⟩
    refine ⟨_, rfl, _, rfl, x, _, _, _, rfl, upd_same, T.c_Stage, T.a_lengths, (by show (_ : Nat) < 1000; first | (show 0 < 1000; omega) | (show 1 < 1000; omega) | (show 2 < 1000; omega) | (show 3 < 1000; omega)), ?_⟩
    refine q _ (fun r ne => ?_) upd_same
    rw [upd_ne ne, upd_ne ne, upd_ne ne, upd_ne ne]

theorem mk_Stage {P : Program} {w : World} {K : PySem.W.Frag} {mg : Str → Option Value} {base : Heap} (T : Tx K mg) : HasK P w K mg base CX0 1 "Stage" ["self", "tablets", "twists", "peaks", "spools"] (sp_Stage_init K) := ok_Stage_init T
theorem ok_Loom_put_deed {P : Program} {w : World} {K : PySem.W.Frag} {mg : Str → Option Value} {base : Heap} (T : Tx K mg) : HasM P w K mg base CX0 1 "Loom" "put_deed" ["self", "deed", "stage"] (sp_Loom_put_deed K) := by
  refine T.d_Loom_put_deed.has T.c_Loom sc_Loom_put_deed (fun vs H Q E h => ?_) (fun f cdv A outer s H vs Q E hr h => ?_)
  · obtain ⟨_, _, _, _, _, _, _, _, _, _, _, _, _, _, rfl, _⟩ := h
    rfl
  · obtain ⟨p, dv, de, q, s, m, G, G0, dx, ad, asp, ado, ast, aun, rfl, hl, hlen, hdv, hst, q0⟩ := h
    refine ⟨_, PSs.nox ((pss_cons (ps_expr (pe_bm PySem.F.plainAttrs_list PySem.F.slot_list_append PySem.F.type_list_append mt_append (pe_fld (pv 0) rfl) (pa_cons (pv 1) pa_nil))) (pss_cons (ps_expr (pe_bm PySem.F.plainAttrs_list PySem.F.slot_list_append PySem.F.type_list_append mt_append (pe_fld (pv 0) rfl) (pa_cons (pv 2) pa_nil))) (pss_one (ps_fld (pv 0) (pe_lst pa_nil) rfl))))), ?_⟩
    have hl0 := hl
    obtain ⟨g0, g, np, nd, ns, ne, ins, dr, sp, ⟨xs, hxs, dxs⟩, ⟨ys, hys, dys⟩⟩ := hl
    have l1 : xs.length = m.done.length := by rw [dpA_len dxs, List.length_map]
    have l2 : ys.length = m.sts.length := all2_len dys
    have pd : p ≠ ado := ne_of ins hxs (fun z => nomatch z)
    have ps : p ≠ ast := ne_of ins hys (fun z => nomatch z)
    refine ⟨_, rfl, p, _, _, _, _, rfl, ins, T.c_Loom, T.a_done, rfl, .inl ⟨rfl, _, SqL.of hxs⟩, _, rfl, ado, _, _, rfl, rfl, hxs, (by rw [sizeLine_eq]; omega), ?_⟩
    have ins1 : (upd H ado (.lst (xs ++ [dv]))) p = _ := (upd_ne pd).trans ins
    have hys1 : (upd H ado (.lst (xs ++ [dv]))) ast = _ := (upd_ne (Ne.symm ne)).trans hys
    refine ⟨_, rfl, p, _, _, _, _, rfl, ins1, T.c_Loom, T.a_stages, rfl, .inl ⟨rfl, _, SqL.of hys1⟩, _, rfl, ast, _, _, rfl, rfl, hys1, (by rw [sizeLine_eq]; omega), ?_⟩
    have ins2 : (upd (upd H ado (.lst (xs ++ [dv]))) ast (.lst (ys ++ [.ref q]))) p = _ := (upd_ne ps).trans ins1
    refine ⟨Nat.zero_le _, fun l nl => ?_⟩
    have lp : l ≠ p := Ne.symm (ne_of_none ins2 nl)
    have ls : l ≠ ast := Ne.symm (ne_of_none upd_same nl)
    have ld : l ≠ ado := Ne.symm (ne_of_none (show (upd (upd H ado (.lst (xs ++ [dv]))) ast (.lst (ys ++ [.ref q]))) ado = _ from (upd_ne ne).trans upd_same) nl)
    refine ⟨_, rfl, p, _, _, _, rfl, (upd_ne (Ne.symm lp)).trans ins2, T.c_Loom, T.a_undone, (by show (6 : Nat) < 1000; omega), ?_⟩
    have gs : Same G (upd (upd H ado (.lst (xs ++ [dv]))) ast (.lst (ys ++ [.ref q]))) := fun b o e => by
      rw [upd_ne (ne_of_none e ns), upd_ne (ne_of_none e nd)]
      exact g _ _ e
    have gs2 : Same G (upd (upd (upd (upd H ado (.lst (xs ++ [dv]))) ast (.lst (ys ++ [.ref q]))) l (.lst [])) p (.ins (He.ga K "Loom") dx [("draft", .ref ad), ("most", .int m.most), ("spools", .ref asp), ("stages", .ref ast), ("done", .ref ado), ("undone", .ref l)])) := fun b o e => by
      rw [upd_ne (ne_of_none e np), upd_ne (ne_of_none (gs _ _ e) nl)]
      exact gs _ _ e
    refine q0 _ gs2 ⟨G, dx, ad, asp, ado, ast, l, g0, gs2, np, nd, ns, ne, upd_same, dr, sp, ⟨xs ++ [dv], ?_, ?_⟩, ⟨ys ++ [.ref q], ?_, ?_⟩⟩
    · rw [upd_ne (Ne.symm pd), upd_ne (Ne.symm ld), upd_ne ne, upd_same]
    · show DpAll K G _ ((m.done ++ [de]).map dD)
      rw [List.map_append]
      exact dpA_app dxs (.cons hdv .nil)
    · rw [upd_ne (Ne.symm ps), upd_ne (Ne.symm ls), upd_same]
    · exact all2_app dys ⟨q, rfl, hst⟩

theorem hasM_put_deed {P : Program} {w : World} {K : PySem.W.Frag} {mg : Str → Option Value} {base : Heap} (T : Tx K mg) : HasM P w K mg base CX0 1 "Loom" "put_deed" ["self", "deed", "stage"] (sp_Loom_put_deed K) := ok_Loom_put_deed T
theorem ok_Loom_tablets {P : Program} {w : World} {K : PySem.W.Frag} {mg : Str → Option Value} {base : Heap} (T : Tx K mg) : HasM P w K mg base CX0 1 "Loom" "tablets" ["self"] (sp_Loom_tablets K) := by
  refine T.d_Loom_tablets.has T.c_Loom sc_Loom_tablets (fun vs H Q E h => ?_) (fun f cdv A outer s H vs Q E hr h => ?_)
  · obtain ⟨_, _, _, rfl, _⟩ := h
    rfl
  · obtain ⟨p, m, G0, rfl, hl, hok, q⟩ := h
    refine ⟨_, PSs.nox ((pss_one (ps_ret (pe_callTy call_list_of (by rfl) T.m_list (by decide +kernel) (pa_cons (pe_fld (pe_ix ix_list (pe_fld (pv 0) rfl) (pe_un un_neg pe_int) (fun _ _ => rfl)) rfl) pa_nil))))), ?_⟩
    obtain ⟨G, dx, ad, asp, ado, ast, aun, hl⟩ := hl
    obtain ⟨ys, r, hys, hat, hst⟩ := loom_last hl (lm_ne hok)
    obtain ⟨dx2, a, b, c0, d0, hp, ha, hb, hc0, hd⟩ := stageAt_mono hl.g hst
    obtain ⟨_, xs, e, sq, hx⟩ := dp_lst ha
    cases e
    refine ⟨_, rfl, p, _, _, _, _, rfl, hl.ins, T.c_Loom, T.a_stages, rfl, _, rfl, ast, _, _, _, rfl, rfl, SqL.of hys, hat, r, _, _, _, _, rfl, hp, T.c_Stage, T.a_cards, rfl, a, xs, rfl, .inl sq, fun l nl => q _ _ (same_new nl) ?_⟩
    exact .lst (SqL.of upd_same) (dpA_mono (same_new nl) _ _ hx)

theorem hasM_tablets {P : Program} {w : World} {K : PySem.W.Frag} {mg : Str → Option Value} {base : Heap} (T : Tx K mg) : HasM P w K mg base CX0 1 "Loom" "tablets" ["self"] (sp_Loom_tablets K) := ok_Loom_tablets T
theorem ok_Loom_deeds {P : Program} {w : World} {K : PySem.W.Frag} {mg : Str → Option Value} {base : Heap} (T : Tx K mg) : HasM P w K mg base CX0 1 "Loom" "deeds" ["self"] (sp_Loom_deeds K) := by
  refine T.d_Loom_deeds.has T.c_Loom sc_Loom_deeds (fun vs H Q E h => ?_) (fun f cdv A outer s H vs Q E hr h => ?_)
  · obtain ⟨_, _, _, rfl, _⟩ := h
    rfl
  · obtain ⟨p, m, G0, rfl, hl, hok, q⟩ := h
    refine ⟨_, PSs.nox ((pss_one (ps_ret (pe_callTy call_list_of (by rfl) T.m_list (by decide +kernel) (pa_cons (pe_fld (pv 0) rfl) pa_nil))))), ?_⟩
    obtain ⟨G, dx, ad, asp, ado, ast, aun, hl⟩ := hl
    obtain ⟨xs, hxs, dxs⟩ := hl.done
    refine ⟨_, rfl, p, _, _, _, _, rfl, hl.ins, T.c_Loom, T.a_done, rfl, ado, xs, rfl, .inl (SqL.of hxs), fun l nl => q _ _ (same_new nl) ?_⟩
    exact .lst (SqL.of upd_same) (dpA_mono (hl.g.trans (same_new nl)) _ _ dxs)

theorem hasM_deeds {P : Program} {w : World} {K : PySem.W.Frag} {mg : Str → Option Value} {base : Heap} (T : Tx K mg) : HasM P w K mg base CX0 1 "Loom" "deeds" ["self"] (sp_Loom_deeds K) := ok_Loom_deeds T
theorem ok_Loom_twist {P : Program} {w : World} {K : PySem.W.Frag} {mg : Str → Option Value} {base : Heap} (T : Tx K mg) : HasM P w K mg base CX0 1 "Loom" "twist" ["self", "k"] (sp_Loom_twist K) := by
  refine T.d_Loom_twist.has T.c_Loom sc_Loom_twist (fun vs H Q E h => ?_) (fun f cdv A outer s H vs Q E hr h => ?_)
  · obtain ⟨_, _, _, _, _, rfl, _⟩ := h
    rfl
  · obtain ⟨p, m, G0, k, i, rfl, hl, hok, hi, q⟩ := h
    refine ⟨_, PSs.nox ((pss_one (ps_ret (pe_ix ix_list (pe_fld (pe_ix ix_list (pe_fld (pv 0) rfl) (pe_un un_neg pe_int) (fun _ _ => rfl)) rfl) (pv 1) (fun _ _ => rfl))))), ?_⟩
    obtain ⟨G, dx, ad, asp, ado, ast, aun, hl⟩ := hl
    obtain ⟨ys, r, hys, hat, hst⟩ := loom_last hl (lm_ne hok)
    obtain ⟨dx2, a, b, c0, d0, hp, ha, hb, hc0, hd⟩ := stageAt_mono hl.g hst
    obtain ⟨_, e, sq⟩ := dp_ints hb
    cases e
    refine ⟨_, rfl, p, _, _, _, _, rfl, hl.ins, T.c_Loom, T.a_stages, rfl, _, rfl, ast, _, _, _, rfl, rfl, SqL.of hys, hat, r, _, _, _, _, rfl, hp, T.c_Stage, T.a_turned_by, rfl, _, rfl, b, _, _, _, rfl, rfl, sq, atI_nat (by rw [List.getElem?_map, hi]; rfl), q⟩

theorem hasM_twist {P : Program} {w : World} {K : PySem.W.Frag} {mg : Str → Option Value} {base : Heap} (T : Tx K mg) : HasM P w K mg base CX0 1 "Loom" "twist" ["self", "k"] (sp_Loom_twist K) := ok_Loom_twist T
theorem ok_Loom_peak {P : Program} {w : World} {K : PySem.W.Frag} {mg : Str → Option Value} {base : Heap} (T : Tx K mg) : HasM P w K mg base CX0 1 "Loom" "peak" ["self", "k"] (sp_Loom_peak K) := by
  refine T.d_Loom_peak.has T.c_Loom sc_Loom_peak (fun vs H Q E h => ?_) (fun f cdv A outer s H vs Q E hr h => ?_)
  · obtain ⟨_, _, _, _, _, rfl, _⟩ := h
    rfl
  · obtain ⟨p, m, G0, k, i, rfl, hl, hok, hi, q⟩ := h
    refine ⟨_, PSs.nox ((pss_one (ps_ret (pe_ix ix_list (pe_fld (pe_ix ix_list (pe_fld (pv 0) rfl) (pe_un un_neg pe_int) (fun _ _ => rfl)) rfl) (pv 1) (fun _ _ => rfl))))), ?_⟩
    obtain ⟨G, dx, ad, asp, ado, ast, aun, hl⟩ := hl
    obtain ⟨ys, r, hys, hat, hst⟩ := loom_last hl (lm_ne hok)
    obtain ⟨dx2, a, b, c0, d0, hp, ha, hb, hc0, hd⟩ := stageAt_mono hl.g hst
    obtain ⟨_, e, sq⟩ := dp_ints hc0
    cases e
    refine ⟨_, rfl, p, _, _, _, _, rfl, hl.ins, T.c_Loom, T.a_stages, rfl, _, rfl, ast, _, _, _, rfl, rfl, SqL.of hys, hat, r, _, _, _, _, rfl, hp, T.c_Stage, T.a_farthest, rfl, _, rfl, c0, _, _, _, rfl, rfl, sq, atI_nat (by rw [List.getElem?_map, hi]; rfl), q⟩

theorem hasM_peak {P : Program} {w : World} {K : PySem.W.Frag} {mg : Str → Option Value} {base : Heap} (T : Tx K mg) : HasM P w K mg base CX0 1 "Loom" "peak" ["self", "k"] (sp_Loom_peak K) := ok_Loom_peak T
theorem ok_Loom_rest {P : Program} {w : World} {K : PySem.W.Frag} {mg : Str → Option Value} {base : Heap} (T : Tx K mg) : HasM P w K mg base CX0 1 "Loom" "rest" ["self", "colour"] (sp_Loom_rest K) := by
  refine T.d_Loom_rest.has T.c_Loom sc_Loom_rest (fun vs H Q E h => ?_) (fun f cdv A outer s H vs Q E hr h => ?_)
  · obtain ⟨_, _, _, _, rfl, _⟩ := h
    rfl
  · obtain ⟨p, m, G0, c, rfl, hl, hok, q⟩ := h
    refine ⟨_, PSs.nox ((pss_one (ps_ret (pe_dget2 (hu_of hr) (pe_fld (pe_ix ix_list (pe_fld (pv 0) rfl) (pe_un un_neg pe_int) (fun _ _ => rfl)) rfl) (pv 1) pe_int ⟨rfl, rfl, rfl, rfl⟩)))), ?_⟩
    obtain ⟨G, dx, ad, asp, ado, ast, aun, hl⟩ := hl
    obtain ⟨ys, r, hys, hat, hst⟩ := loom_last hl (lm_ne hok)
    obtain ⟨dx2, a, b, c0, d0, hp, ha, hb, hc0, hd⟩ := stageAt_mono hl.g hst
    refine ⟨_, rfl, p, _, _, _, _, rfl, hl.ins, T.c_Loom, T.a_stages, rfl, _, rfl, ast, _, _, _, rfl, rfl, SqL.of hys, hat, r, _, _, _, _, rfl, hp, T.c_Stage, T.a_lengths, rfl, d0, rfl, .inl ⟨_, .inl hd⟩, _, rfl, _, gt_d hd, ?_⟩
    rw [getD_map]
    exact q

theorem hasM_rest {P : Program} {w : World} {K : PySem.W.Frag} {mg : Str → Option Value} {base : Heap} (T : Tx K mg) : HasM P w K mg base CX0 1 "Loom" "rest" ["self", "colour"] (sp_Loom_rest K) := ok_Loom_rest T
theorem ok_told {P : Program} {w : World} {K : PySem.W.Frag} {mg : Str → Option Value} {base : Heap} (T : Tx K mg) : Has P w K mg base CX0 1 "told" ["loom"] (sp_told K) := by
  refine T.d_told.has sc_told (fun vs H Q E h => ?_) (fun f cdv A outer s H vs Q E hr h => ?_)
  · obtain ⟨_, _, _, rfl, _⟩ := h
    rfl
  · obtain ⟨p, m, G0, rfl, hl, hok, q0⟩ := h
    refine ⟨_, PSs.nox ((pss_cons (ps_set (i := 1) sc_told.nd rfl (Or.inl rfl) (pe_lst (pa_cons (pe_op op_add_str pe_str (pe_callTy call_str_int (by rfl) T.m_str (by decide +kernel) (pa_cons (pe_fld (pv 0) rfl) pa_nil))) pa_nil))) (pss_cons (ps_for PassesOwn.never rfl (pi_list (pe_sortKeys rfl (by rfl) T.m_sorted (pe_fld (pv 0) rfl))) (pg_name (i := 2) sc_told.nd rfl (Or.inl rfl)) (pss_one (ps_expr (pe_bm PySem.F.plainAttrs_list PySem.F.slot_list_append PySem.F.type_list_append mt_append (pv 1) (pa_cons (pe_op op_add_str (pe_op op_add_str (pe_op op_add_str pe_str (pv 2)) pe_str) (pe_callTy call_str_int (by rfl) T.m_str (by decide +kernel) (pa_cons (pe_dget (hu_of hr) (pe_fld (pv 0) rfl) (pv 2) (fun _ _ => rfl)) pa_nil))) pa_nil))))) (pss_cons (ps_for PassesOwn.never rfl (pi_list (pe_fld (pv 0) rfl)) (pg_tup rfl (pgs_cons (pg_name (i := 3) sc_told.nd rfl (Or.inl rfl)) (pgs_cons (pg_name (i := 4) sc_told.nd rfl (Or.inl rfl)) (pgs_cons (pg_name (i := 5) sc_told.nd rfl (Or.inl rfl)) pgs_nil)))) (pss_one (ps_expr (pe_bm PySem.F.plainAttrs_list PySem.F.slot_list_append PySem.F.type_list_append mt_append (pv 1) (pa_cons (pe_op op_add_str (pe_op op_add_str (pe_op op_add_str (pe_op op_add_str (pe_op op_add_str pe_str (pv 3)) pe_str) (pv 4)) pe_str) (pe_callTy call_str_int (by rfl) T.m_str (by decide +kernel) (pa_cons (pv 5) pa_nil))) pa_nil))))) (pss_cons (ps_for PassesOwn.never rfl (pi_list (pe_fld (pv 0) rfl)) (pg_tup rfl (pgs_cons (pg_name (i := 6) sc_told.nd rfl (Or.inl rfl)) (pgs_cons (pg_name (i := 7) sc_told.nd rfl (Or.inl rfl)) pgs_nil))) (pss_one (ps_expr (pe_bm PySem.F.plainAttrs_list PySem.F.slot_list_append PySem.F.type_list_append mt_append (pv 1) (pa_cons (pe_op op_add_str (pe_op op_add_str (pv 6) pe_str) (pe_callTy call_str_n (by rfl) T.m_str (by decide +kernel) (pa_cons (pv 7) pa_nil))) pa_nil))))) (pss_one (ps_ret (pe_join pe_str (pv 1))))))))), ?_⟩
    obtain ⟨G, dx, ad, asp, ado, ast, aun, hl⟩ := hl
    obtain ⟨xd, hxd, dxd⟩ := hl.done
    obtain ⟨_, xs, e, sqd, hdr⟩ := dp_lst (dp_mono hl.g _ _ hl.draft)
    cases e
    have hsp := hl.g _ _ hl.spools
    have mo := hok.mo
    have mol := toS_len mo.1 mo.2
    have lin : ∀ {n : Nat}, n ≤ 4000000 → n ≤ sizeLine := fun h => by rw [sizeLine_eq]; omega
    refine ⟨_, rfl, p, _, _, _, _, rfl, hl.ins, T.c_Loom, T.a_most, rfl, _, rfl, log_ok (by omega) (by omega), _, _, rfl, rfl, lin (by show 5 + (toS m.most).length ≤ _; omega), (by show 1 ≤ sizeLine; decide), fun l nl => ?_⟩
    have s1 := same_new (o := .lst [V.str ("loom " ++ toS m.most)]) nl
    refine ⟨_, rfl, p, _, _, _, _, rfl, s1 _ _ hl.ins, T.c_Loom, T.a_spools, rfl, asp, _, m.spools.map (·.1), rfl, s1 _ _ hsp, eL_keys _, (by rw [List.length_map]; have := hok.few2; omega), fun ks pk perm srt npk => ?_⟩
    obtain ⟨hsz, q⟩ := q0 ks perm srt
    have s2 := s1.trans (same_new (o := .lst (ks.map V.str)) npk)
    have hlen : ks.length ≤ 60 := by rw [perm.length_eq, List.length_map]; exact hok.few2
    have lnk : l ≠ pk := ne_of_none upd_same npk
    refine ⟨pk, rfl, ⟨_, SqL.of upd_same⟩, for_list (xs := ks.map V.str) (fun i σ H' => (∃ o2 o3 o4 o5 o6 o7, σ = [some (V.ref p), some (V.ref l), o2, o3, o4, o5, o6, o7]) ∧ Same H H' ∧ H' pk = some (.lst (ks.map V.str)) ∧ H' l = some (.lst ((("loom " ++ toS m.most) :: (ks.take i).map fun c => "spool " ++ c ++ " " ++ toS ((gt m.spools c).getD 0)).map V.str)))
      ⟨⟨_, _, _, _, _, _, rfl⟩, s2, upd_same, by rw [upd_ne lnk]; exact upd_same⟩ (fun i σ H' _ h => SqL.of h.2.2.1) ?_ ?_⟩
    · rintro i x σ H1 hx ⟨⟨o2, o3, o4, o5, o6, o7, rfl⟩, s3, epk, el⟩
      rw [List.getElem?_map] at hx
      obtain ⟨c, hc, rfl⟩ := Option.map_eq_some_iff.mp hx
      have hcm : c ∈ m.spools.map (·.1) := perm.mem_iff.mp (List.mem_of_getElem? hc)
      obtain ⟨v, hv⟩ := gt_key hcm
      obtain ⟨v0, v1, cl⟩ := hok.sp _ (gt_mem hv)
      have cl : c.length = 1 := cl
      have v0 : 0 ≤ v := v0
      have v1 : v < 1000000000 := v1
      have vl := toS_len v0 v1
      have gd := gt_d (k := c) (s3 _ _ hsp)
      rw [hv] at gd
      refine ⟨_, rfl, .inl ⟨rfl, _, SqL.of el⟩, _, rfl, _, _, rfl, rfl, lin (by show 6 + c.length ≤ _; omega), _, _, rfl, rfl, lin (by rw [app_len]; show 6 + c.length + 1 ≤ _; omega), _, rfl, p, _, _, _, _, rfl, s3 _ _ hl.ins, T.c_Loom, T.a_spools, rfl, _, rfl, asp, _, rfl, gd, _, rfl, log_ok (by omega) (by omega), _, _, rfl, rfl, lin (by rw [app_len, app_len]; show 6 + c.length + 1 + (toS v).length ≤ _; omega), l, _, _, rfl, rfl, el, (by rw [List.length_map, List.length_cons, List.length_map, List.length_take, sizeLine_eq]; omega), ⟨_, _, _, _, _, _, rfl⟩, same_put s3 nl, ?_, ?_⟩
      · rw [upd_ne (Ne.symm lnk)]
        exact epk
      · rw [take_map _ hc, upd_same, hv]
        simp [toS]
    · rintro σ H1 ⟨⟨o2, o3, o4, o5, o6, o7, rfl⟩, s3, epk, el⟩
      rw [List.length_map, List.take_length] at el
      have xl : xs.length = m.draft.length := by rw [dpA_len hdr, List.length_map]
      have dl8 : m.draft.length ≤ 8 := by
        have h1 : m.last.cards.length = m.draft.length := hok.dn _ (List.mem_of_getElem? (last_get (d := ⟨[], [], [], []⟩) (lm_ne hok)))
        have h2 := (lm_last hok).n8
        omega
      refine ⟨_, rfl, p, _, _, _, _, rfl, s3 _ _ hl.ins, T.c_Loom, T.a_draft, rfl, ad, rfl, ⟨_, s3.seq sqd⟩, for_list (xs := xs) (fun i σ H' => (∃ o2 o3 o4 o5 o6 o7, σ = [some (V.ref p), some (V.ref l), o2, o3, o4, o5, o6, o7]) ∧ Same H H' ∧ H' l = some (.lst ((("loom " ++ toS m.most) :: (ks.map fun c => "spool " ++ c ++ " " ++ toS ((gt m.spools c).getD 0)) ++ (m.draft.take i).map fun t => "tablet " ++ t.1 ++ " " ++ t.2.1 ++ " " ++ toS t.2.2).map V.str)))
        ⟨⟨_, _, _, _, _, _, rfl⟩, s3, by rw [el]; simp⟩ (fun i σ H' _ h => h.2.1.seq sqd) ?_ ?_⟩
      · rintro i x σ H2 hx ⟨⟨o2, o3, o4, o5, o6, o7, rfl⟩, s4, el⟩
        obtain ⟨t, ht, hxt⟩ := card_get hdr hx
        obtain ⟨ax, rfl, sx⟩ := card_at (dp_mono s4 _ _ hxt)
        obtain ⟨k1, k2, k3, k4, k5⟩ := cardOk_parts (hok.dok t (List.mem_of_getElem? ht))
        have n1 : t.1.length = 1 := by rcases k1 with e | e <;> rw [e] <;> rfl
        have n4 : t.2.1.length = 4 := by rw [← k2]; exact (Array.length_toList ..).symm
        have n9 := toS_len k4 (by omega)
        refine ⟨ax, _, rfl, sx, rfl, _, _, rfl, _, _, rfl, _, _, rfl, rfl, ?_⟩
        refine ⟨_, rfl, .inl ⟨rfl, _, SqL.of el⟩, _, rfl, _, _, rfl, rfl, lin (by show 7 + t.1.length ≤ _; omega), _, _, rfl, rfl, lin (by rw [app_len]; show 7 + t.1.length + 1 ≤ _; omega), _, rfl, _, _, rfl, rfl, lin (by rw [app_len, app_len]; show 7 + t.1.length + 1 + t.2.1.length ≤ _; omega), _, _, rfl, rfl, lin (by rw [app_len, app_len, app_len]; show 7 + t.1.length + 1 + t.2.1.length + 1 ≤ _; omega), _, rfl, _, rfl, log_ok (by omega) (by omega), _, _, rfl, rfl, lin (by rw [app_len, app_len, app_len, app_len]; show 7 + t.1.length + 1 + t.2.1.length + 1 + (toS t.2.2).length ≤ _; omega), l, _, _, rfl, rfl, el, (by rw [List.length_map, List.length_append, List.length_cons, List.length_map, List.length_map, List.length_take, sizeLine_eq]; omega), ⟨_, _, _, _, _, _, rfl⟩, same_put s4 nl, ?_⟩
        rw [take_map _ ht, upd_same]
        simp [toS]
      · rintro σ H2 ⟨⟨o2, o3, o4, o5, o6, o7, rfl⟩, s4, el⟩
        rw [xl, List.take_length] at el
        have ld : xd.length = m.done.length := by rw [dpA_len dxd, List.length_map]
        have sxd := SqL.of (K := K) hxd
        refine ⟨_, rfl, p, _, _, _, _, rfl, s4 _ _ hl.ins, T.c_Loom, T.a_done, rfl, ado, rfl, ⟨_, s4.seq sxd⟩, for_list (xs := xd) (fun i σ H' => (∃ o2 o3 o4 o5 o6 o7, σ = [some (V.ref p), some (V.ref l), o2, o3, o4, o5, o6, o7]) ∧ Same H H' ∧ H' l = some (.lst ((("loom " ++ toS m.most) :: (ks.map fun c => "spool " ++ c ++ " " ++ toS ((gt m.spools c).getD 0)) ++ (m.draft.map fun t => "tablet " ++ t.1 ++ " " ++ t.2.1 ++ " " ++ toS t.2.2) ++ (m.done.take i).map deedT).map V.str)))
          ⟨⟨_, _, _, _, _, _, rfl⟩, s4, by rw [el]; simp⟩ (fun i σ H' _ h => h.2.1.seq sxd) ?_ ?_⟩
        · rintro i x σ H3 hx ⟨⟨o2, o3, o4, o5, o6, o7, rfl⟩, s5, el⟩
          obtain ⟨d, hd, dd⟩ := dpA_get dxd hx
          rw [List.getElem?_map] at hd
          obtain ⟨de, hde, rfl⟩ := Option.map_eq_some_iff.mp hd
          have sm := hok.fl de (List.mem_of_getElem? hde)
          have fin : ∀ {H4 : Hp}, H4 = upd H3 l (.lst (((("loom " ++ toS m.most) :: (ks.map fun c => "spool " ++ c ++ " " ++ toS ((gt m.spools c).getD 0)) ++ (m.draft.map fun t => "tablet " ++ t.1 ++ " " ++ t.2.1 ++ " " ++ toS t.2.2) ++ (m.done.take i).map deedT).map V.str) ++ [V.str (deedT de)])) → Same H H4 ∧ H4 l = some (.lst ((("loom " ++ toS m.most) :: (ks.map fun c => "spool " ++ c ++ " " ++ toS ((gt m.spools c).getD 0)) ++ (m.draft.map fun t => "tablet " ++ t.1 ++ " " ++ t.2.1 ++ " " ++ toS t.2.2) ++ (m.done.take (i + 1)).map deedT).map V.str)) := by
            rintro H4 rfl
            refine ⟨same_put s5 nl, ?_⟩
            rw [take_map deedT hde, upd_same]
            simp
          have few := hok.few
          have sm8 : ((("loom " ++ toS m.most) :: (ks.map fun c => "spool " ++ c ++ " " ++ toS ((gt m.spools c).getD 0)) ++ (m.draft.map fun t => "tablet " ++ t.1 ++ " " ++ t.2.1 ++ " " ++ toS t.2.2) ++ (m.done.take i).map deedT).map V.str).length < sizeLine := by
            rw [List.length_map, List.length_append, List.length_append, List.length_cons, List.length_map, List.length_map, List.length_map, List.length_take, sizeLine_eq]
            omega
          cases de with
          | row z =>
            obtain ⟨ax, xx, rfl, sx, dx2⟩ := dp_tup (dp_mono (hl.g.trans s5) _ _ dd)
            have ex := dpA_strs (ns := ["row", z]) dx2
            subst ex
            have zl : z.length ≤ 1000000 := sm
            refine ⟨ax, _, rfl, sx, rfl, _, _, rfl, _, _, rfl, rfl, ?_⟩
            refine ⟨_, rfl, .inl ⟨rfl, _, SqL.of el⟩, _, rfl, _, _, rfl, rfl, lin (by show 3 + 1 ≤ 4000000; decide), _, rfl, .inr ⟨z, rfl, _, _, rfl, rfl, lin (by rw [app_len]; show 3 + 1 + z.length ≤ _; omega), l, _, _, rfl, rfl, el, sm8, ⟨_, _, _, _, _, _, rfl⟩, fin rfl⟩⟩
          | flip k =>
            obtain ⟨ax, xx, rfl, sx, dx2⟩ := dp_tup (dp_mono (hl.g.trans s5) _ _ dd)
            cases dx2 with
            | cons h1 t => cases t with
              | cons h2 t =>
                cases t
                rw [dp_str h1, dp_int h2] at sx
                have kl : k < 1000000000 := sm
                have n9 := toS_len (i := (k : Int)) (by omega) (by omega)
                refine ⟨ax, _, rfl, sx, rfl, _, _, rfl, _, _, rfl, rfl, ?_⟩
                refine ⟨_, rfl, .inl ⟨rfl, _, SqL.of el⟩, _, rfl, _, _, rfl, rfl, lin (by show 4 + 1 ≤ 4000000; decide), _, rfl, .inl ⟨_, rfl, log_ok (by omega) (by omega), _, _, rfl, rfl, lin (by rw [app_len]; show 4 + 1 + (toS k).length ≤ _; omega), l, _, _, rfl, rfl, el, sm8, ⟨_, _, _, _, _, _, rfl⟩, fin rfl⟩⟩
        · rintro σ H3 ⟨⟨o2, o3, o4, o5, o6, o7, rfl⟩, s5, el⟩
          rw [ld, List.take_length] at el
          exact ⟨⟨_, rfl⟩, _, rfl, _, l, toldL m ks, rfl, rfl, .inl (SqL.of el), (by show ((toldL m ks).map Str.length).sum + (toldL m ks).length * 1 ≤ 16777216; omega), q _ s5⟩

theorem has_told {P : Program} {w : World} {K : PySem.W.Frag} {mg : Str → Option Value} {base : Heap} (T : Tx K mg) : Has P w K mg base CX0 1 "told" ["loom"] (sp_told K) := ok_told T
theorem ok_number_of {P : Program} {w : World} {K : PySem.W.Frag} {mg : Str → Option Value} {base : Heap} (T : Tx K mg) : Has P w K mg base (L2N.CX P w) 1 "number_of" ["figures"] (sp_number_of K) := by
  refine T.d_number_of.has sc_number_of (fun vs H Q E h => ?_) (fun f cdv A outer s H vs Q E hr h => ?_)
  · obtain ⟨_, rfl, _⟩ := h
    rfl
  · obtain ⟨z, rfl, hz, q1, q0⟩ := h
    refine ⟨_, (pss_cons (ps_if (PW.pt (pw_or (pt_cmpR op_eq (pv 0) pe_str (nomark _)) (pw_or (pt_cmpR op_gt (pe_callB call_len_str (by rfl) T.m_len PySem.boot_len (pa_cons (pv 0) pa_nil)) (pe_glob (v := .int 9) (by rfl) (T.v_MOST_FIGURES).choose_spec ⟨_, rfl⟩) (nomark _)) (pw_or1 (PW.pt (pw_and (pt_cmpR op_eq (pe_ix ix_str (pv 0) pe_int (fun _ _ => rfl)) pe_str (nomark _)) (pw_and1 (pt_cmpR op_gt (pe_callB call_len_str (by rfl) T.m_len PySem.boot_len (pa_cons (pv 0) pa_nil)) pe_int (nomark _))))))))) (pss_one (L2N.ps_raise rfl (L2N.takes_of rfl rfl rfl rfl) (pm_own T.e_BadText (by rfl)))) pss_nil) (pss_cons (ps_for (passes_of rfl) rfl (pi_str (pv 0)) (pg_name (i := 1) sc_number_of.nd rfl (Or.inl rfl)) (pss_one (ps_if (pt_cmpR op_notIn_sign (pv 1) (pe_glob (v := .str "0123456789") (by rfl) (T.v_FIGURES).choose_spec ⟨_, rfl⟩) rfl) (pss_one (L2N.ps_raise rfl (L2N.takes_of rfl rfl rfl rfl) (pm_own T.e_BadText (by rfl)))) pss_nil))) (pss_one (ps_ret (pe_callTy call_int_str (by rfl) T.m_int (by decide +kernel) (pa_cons (pv 0) pa_nil)))))), ?_⟩
    have bad : numOk z = false → E (.ref (He.ga K "BadText")) none H := fun h => q0 (by unfold num; rw [if_neg (by rw [h]; exact Bool.false_ne_true)]) H (Same.refl _)
    refine ⟨_, rfl, rfl, _, rfl, bb (fun g => ?_) fun g => ?_⟩
    · rw [dec_str] at g
      have e := of_decide_eq_true g
      refine iteT (bad ?_)
      rw [e]
      decide +kernel
    rw [dec_str] at g
    have hne : z ≠ "" := of_decide_eq_false g
    have hl0 : ¬ z.length = 0 := fun h => hne (empty_len h)
    refine ⟨_, rfl, z, rfl, hz, _, _, rfl, rfl, _, rfl, bb (fun g2 => ?_) fun g2 => ?_⟩
    · have g3 := of_decide_eq_true g2
      refine iteT (bad ?_)
      unfold numOk
      rw [decide_eq_true (show 9 < z.length by omega)]
      simp
    have g3 := of_decide_eq_false g2
    have hi : 0 < z.cps.toList.length := by rw [Array.length_toList]; exact Nat.pos_of_ne_zero hl0
    have hc : z.cps.toList[0]? = some (z.cps.toList[0]'hi) := List.getElem?_eq_getElem hi
    have pre : ¬ (z.cps.toList[0]? = some 48 ∧ 1 < z.length) → z.cps.toList.all digit = numOk z := fun h => by
      unfold numOk
      rw [decide_eq_false hl0, decide_eq_false (show ¬ 9 < z.length by omega)]
      have : (decide (z.cps.toList[0]? = some 48) && decide (1 < z.length)) = false := by
        rw [← Bool.decide_and]
        exact decide_eq_false h
      rw [this]
      simp
    refine ⟨_, rfl, _, _, _, rfl, rfl, hz, atI_nat (j := 0) hc, rfl, _, rfl, bb (fun g4 => ⟨_, rfl, z, rfl, hz, _, _, rfl, rfl, _, rfl, bb (fun g5 => ?_) (fun g5 => ?_)⟩) fun g4 => ?_⟩
    · have g6 := of_decide_eq_true g5
      change decide (V.str (sg (z.cps.toList[0]'hi)) = V.str "0") = true at g4
      rw [dec_sg (n := 48) (by decide)] at g4
      have e48 := of_decide_eq_true g4
      refine bad ?_
      unfold numOk
      rw [decide_eq_true (show z.cps.toList[0]? = some 48 by rw [hc, e48]), decide_eq_true (show 1 < z.length by omega)]
      simp
    all_goals
      have npre : ¬ (z.cps.toList[0]? = some 48 ∧ 1 < z.length) := by
        first
          | (have g6 := of_decide_eq_false g5
             intro ⟨_, k⟩
             omega)
          | (change decide (V.str (sg (z.cps.toList[0]'hi)) = V.str "0") = false at g4
             rw [dec_sg (n := 48) (by decide)] at g4
             have e48 := of_decide_eq_false g4
             intro ⟨k, _⟩
             rw [hc] at k
             exact e48 (Option.some.inj k))
      have pre := pre npre
      refine ⟨_, rfl, z, rfl, for_it (J := Its z) z.cps.size (fun i σ H' => (∃ o, σ = [some (V.str z), o]) ∧ H' = H ∧ (z.cps.toList.take i).all digit = true) ⟨⟨_, rfl⟩, rfl, rfl⟩ (fun i σ H' hi _ => hi) (fun _ _ _ => Nat.le_refl _) ?_ ?_⟩
      · rintro i σ H1 x H2 hi ⟨⟨o, rfl⟩, rfl, ha⟩ ⟨rfl, c, hc, rfl⟩
        have hc2 : z.cps.toList[i]? = some c := by rw [Array.getElem?_toList]; exact hc
        refine ⟨_, rfl, c, _, rfl, rfl, _, rfl, bb (fun g => ?_) fun g => ?_⟩
        · rw [dig_mem, Bool.not_eq_true'] at g
          refine bad ?_
          rw [← pre, all_none hc2 g]
        · rw [dig_mem, Bool.not_eq_false'] at g
          exact ⟨⟨_, rfl⟩, rfl, all_step ha hc2 g⟩
      · rintro σ H1 ⟨⟨o, rfl⟩, rfl, ha⟩
        rw [show z.cps.size = z.cps.toList.length from (Array.length_toList ..).symm, List.take_length, pre] at ha
        obtain ⟨i, hn⟩ := num_of ha
        exact ⟨_, rfl, z, i, rfl, (num_some hn).1, by omega, q1 i hn⟩

theorem has_number_of {P : Program} {w : World} {K : PySem.W.Frag} {mg : Str → Option Value} {base : Heap} (T : Tx K mg) : Has P w K mg base (L2N.CX P w) 1 "number_of" ["figures"] (sp_number_of K) := ok_number_of T
theorem ok_begun {P : Program} {w : World} {K : PySem.W.Frag} {mg : Str → Option Value} {base : Heap} (T : Tx K mg) : Has P w K mg base CX0 1 "begun" ["lines", "at", "word"] (sp_begun K) := by
  refine T.d_begun.has sc_begun (fun vs H Q E h => ?_) (fun f cdv A outer s H vs Q E hr h => ?_)
  · obtain ⟨_, _, _, _, rfl, _⟩ := h
    rfl
  · obtain ⟨v, L, i, x, rfl, hl, q⟩ := h
    refine ⟨_, PSs.nox ((pss_one (ps_ret (pe_and (pe_cmpR op_lt (pv 1) (pe_callB call_len_seq (by rfl) T.m_len PySem.boot_len (pa_cons (pv 0) pa_nil)) (nomark _)) (pe_one (pe_cmpR op_eq (pe_ix ix_list (pe_ix ix_list (pv 0) (pv 1) (fun _ _ => rfl)) pe_int (fun _ _ => rfl)) (pv 2) (nomark _))))))), ?_⟩
    obtain ⟨hv, hne, hlen, hsz⟩ := hl
    obtain ⟨a, xs, rfl, sq, hx⟩ := dp_lst hv
    have xl : xs.length = L.length := by rw [dpA_len hx, List.length_map]
    refine ⟨_, rfl, _, rfl, a, xs, rfl, .inl sq, _, _, rfl, rfl, _, rfl, bb (fun g => ?_) fun g => ?_⟩
    · have g2 := of_decide_eq_true g
      have hi : i < L.length := by omega
      have hw : L[i]? = some L[i] := List.getElem?_eq_getElem hi
      obtain ⟨u, hu, hd⟩ := dpA_at (d := wD L[i]) hx (by rw [List.getElem?_map, hw]; rfl)
      obtain ⟨b, rfl, sb⟩ := dp_strs hd
      have hn := hne _ (List.getElem_mem hi)
      cases e : L[i] with
      | nil => exact absurd e hn
      | cons y ys =>
        rw [e] at sb
        refine ⟨_, rfl, _, rfl, a, _, _, _, rfl, rfl, sq, atI_nat hu, b, _, _, _, rfl, rfl, sb, atI_nat (j := 0) (v := V.str y) rfl, _, rfl, rfl, ?_⟩
        rw [hw, e] at q
        rw [dec_str]
        have e2 : decide ((some (y :: ys) : Option (List Str)).bind List.head? = some x) = decide (y = x) := by
          show decide (some y = some x) = _
          simp
        rw [e2] at q
        exact q
    · have g2 := of_decide_eq_false g
      have hw : L[i]? = none := List.getElem?_eq_none (by omega)
      rw [hw] at q
      exact q

theorem has_begun {P : Program} {w : World} {K : PySem.W.Frag} {mg : Str → Option Value} {base : Heap} (T : Tx K mg) : Has P w K mg base CX0 1 "begun" ["lines", "at", "word"] (sp_begun K) := ok_begun T
theorem ok_l_row {P : Program} {w : World} {K : PySem.W.Frag} {mg : Str → Option Value} {base : Heap} (T : Tx K mg) : Has P w K mg base CX0 1 "_law_row" ["_law_cell", "_law_many", "_law_base"] sp_l_row := by
  refine T.d_l_row.has sc_l_row (fun vs H Q E h => ?_) (fun f cdv A outer s H vs Q E hr h => ?_)
  · obtain ⟨_, _, _, rfl, _⟩ := h
    rfl
  · obtain ⟨c, many, base, rfl, hm, hb0, hb1, q⟩ := h
    refine ⟨_, PSs.nox ((pss_cons (ps_set (i := 3) sc_l_row.nd rfl (Or.inl rfl) (pe_callB call_abs (by rfl) T.m_abs (by decide +kernel) (pa_cons (pv 0) pa_nil))) (pss_cons (ps_set (i := 4) sc_l_row.nd rfl (Or.inl rfl) (pe_cmpR op_ge (pv 3) (pe_op op_pow pe_int pe_int) (nomark _))) (pss_cons (ps_set (i := 5) sc_l_row.nd rfl (Or.inl rfl) (pe_op op_mod (pv 3) pe_int)) (pss_cons (ps_set (i := 6) sc_l_row.nd rfl (Or.inl rfl) (pe_lst pa_nil)) (pss_cons (ps_for PassesOwn.never rfl (pi_range1 rfl T.m_range (pa_cons (pv 1) pa_nil)) (pg_name (i := 7) sc_l_row.nd rfl (Or.inl rfl)) (pss_cons (ps_set (i := 5) sc_l_row.nd rfl (Or.inl rfl) (pe_op op_mod (pe_op op_add (pe_op op_add (pe_op op_mul (pv 5) pe_int) pe_int) (pv 7)) pe_int)) (pss_one (ps_if (PW.pt (pw_and (pt_val (pv 4)) (pw_and1 (pt_cmpR op_gt (pv 3) pe_int (nomark _))))) (pss_cons (ps_expr (pe_bm PySem.F.plainAttrs_list PySem.F.slot_list_append PySem.F.type_list_append mt_append (pv 6) (pa_cons (pe_op op_mod (pv 3) (pv 2)) pa_nil))) (pss_one (ps_set (i := 3) sc_l_row.nd rfl (Or.inl rfl) (pe_op op_fdiv (pv 3) (pv 2))))) (pss_one (ps_expr (pe_bm PySem.F.plainAttrs_list PySem.F.slot_list_append PySem.F.type_list_append mt_append (pv 6) (pa_cons (pe_op op_mod (pe_op op_mod (pe_op op_mul (pv 5) (pv 5)) pe_int) (pv 2)) pa_nil)))))))) (pss_one (ps_ret (pv 6))))))))), ?_⟩
    refine ⟨_, rfl, c, rfl, ?_⟩
    refine ⟨_, rfl, _, _, rfl, rfl, ⟨by decide, by decide, by decide⟩, _, _, rfl, rfl, _, rfl, _, _, rfl, rfl, (by show (0 : Int) < 2147483647; decide), Nat.zero_le _, fun p1 n1 => ?_⟩
    have s0 := same_new (o := .lst []) n1
    have hab : 0 ≤ (if c < 0 then -c else c) := by split <;> omega
    have hab2 : 0 ≤ (if c < 0 then -c else c) % 2147483647 ∧ (if c < 0 then -c else c) % 2147483647 < 2147483647 := by omega
    refine ⟨_, rfl, (many : Int), rfl, by omega, by omega, for_range (lo := 0) (n := (many : Int).toNat) (fun i σ H' => (∃ (now mix : Int) (far : Bool) (o7 : Option V), 0 ≤ now ∧ 0 ≤ mix ∧ mix < 2147483647 ∧ σ = [some (V.int c), some (V.int (many : Nat)), some (V.int (base : Nat)), some (V.int now), some (V.bl far), some (V.int mix), some (V.ref p1), o7]) ∧ Same H H' ∧ ∃ ds : List Int, H' p1 = some (.lst (ds.map V.int)) ∧ ds.length = i ∧ ∀ d ∈ ds, 0 ≤ d ∧ d < base)
      ⟨⟨_, _, _, _, hab, hab2.1, hab2.2, rfl⟩, s0, [], upd_same, rfl, fun d m => absurd m (by simp)⟩ ?_ ?_⟩
    · rintro i σ H1 hi ⟨⟨now, mix, far, o7, h0, m0, m1, rfl⟩, s1, ds, e1, l1, r1⟩
      have hi2 : i < 40 := by omega
      refine ⟨_, rfl, _, _, rfl, rfl, .inl ⟨by omega, by omega⟩, _, _, rfl, rfl, _, rfl, _, _, rfl, rfl, _, _, rfl, rfl, (by show (0 : Int) < 2147483647; decide), ?_⟩
      have mm : 0 ≤ (mix * 48271 + 7919 + (0 + (i : Int))) % 2147483647 ∧ (mix * 48271 + 7919 + (0 + (i : Int))) % 2147483647 < 2147483647 := by omega
      have app : ∀ (v : Int) {H2 : Hp}, H2 = upd H1 p1 (.lst (ds.map V.int ++ [V.int v])) → 0 ≤ v ∧ v < base → Same H H2 ∧ ∃ ds : List Int, H2 p1 = some (.lst (ds.map V.int)) ∧ ds.length = i + 1 ∧ ∀ d ∈ ds, 0 ≤ d ∧ d < base := by
        rintro v H2 rfl hv
        refine ⟨same_put s1 n1, ds ++ [v], by rw [upd_same, List.map_append]; rfl, by rw [List.length_append, l1]; rfl, fun d m => ?_⟩
        rcases List.mem_append.mp m with m | m
        · exact r1 d m
        · rw [List.mem_singleton.mp m]; exact hv
      have slow : ∀ (σ2 : L2.St), True := fun _ => True.intro
      refine ⟨_, rfl, far, rfl, bb (fun g => ⟨_, rfl, _, _, rfl, rfl, _, rfl, bb (fun g2 => ?_) fun g2 => ?_⟩) fun g => ?_⟩
      · refine ⟨_, rfl, .inl ⟨rfl, _, SqL.of e1⟩, _, rfl, _, rfl, _, _, rfl, rfl, (by show (0 : Int) < (base : Int); omega), p1, _, _, rfl, rfl, e1, (by rw [List.length_map, sizeLine_eq]; omega), ?_⟩
        have hq : 0 ≤ now / (base : Int) := Int.ediv_nonneg h0 (by omega)
        refine ⟨_, rfl, _, rfl, _, _, rfl, rfl, ⟨by show (0 : Int) < (base : Int); omega, by show (base : Int) < _; omega⟩, ⟨_, _, _, _, hq, mm.1, mm.2, rfl⟩, app (now % base) rfl ⟨Int.emod_nonneg _ (by omega), Int.emod_lt_of_pos _ (by omega)⟩⟩
      all_goals
        refine ⟨_, rfl, .inl ⟨rfl, _, SqL.of e1⟩, _, rfl, _, rfl, _, _, rfl, rfl, .inl ⟨by omega, by omega⟩, _, _, rfl, rfl, (by show (0 : Int) < 1000003; decide), _, rfl, _, _, rfl, rfl, (by show (0 : Int) < (base : Int); omega), p1, _, _, rfl, rfl, e1, (by rw [List.length_map, sizeLine_eq]; omega), ⟨_, _, _, _, h0, mm.1, mm.2, rfl⟩, app _ rfl ⟨Int.emod_nonneg _ (by omega), Int.emod_lt_of_pos _ (by omega)⟩⟩
    · rintro σ H1 ⟨⟨now, mix, far, o7, h0, m0, m1, rfl⟩, s1, ds, e1, l1, r1⟩
      exact ⟨_, rfl, q _ p1 ds s1 n1 e1 (by omega) r1⟩

theorem has__law_row {P : Program} {w : World} {K : PySem.W.Frag} {mg : Str → Option Value} {base : Heap} (T : Tx K mg) : Has P w K mg base CX0 1 "_law_row" ["_law_cell", "_law_many", "_law_base"] sp_l_row := ok_l_row T
theorem ok_l_at {P : Program} {w : World} {K : PySem.W.Frag} {mg : Str → Option Value} {base : Heap} (T : Tx K mg) : Has P w K mg base CX0 1 "_law_at" ["_law_script", "_law_k"] (sp_l_at K) := by
  refine T.d_l_at.has sc_l_at (fun vs H Q E h => ?_) (fun f cdv A outer s H vs Q E hr h => ?_)
  · obtain ⟨_, _, _, rfl, _⟩ := h
    rfl
  · obtain ⟨v, ns, k, rfl, hs, hk, q⟩ := h
    refine ⟨_, PSs.nox ((pss_cons (ps_if (pt_cmpR op_lt (pv 1) (pe_callB call_len_seq (by rfl) T.m_len PySem.boot_len (pa_cons (pv 0) pa_nil)) (nomark _)) (pss_one (ps_ret (pe_ix ix_list (pv 0) (pv 1) (fun _ _ => rfl)))) pss_nil) (pss_one (ps_ret (pe_op op_mod (pe_op op_mul (pe_op op_add (pe_op op_mul (pv 1) pe_int) pe_int) (pe_op op_add (pe_callB call_len_seq (by rfl) T.m_len PySem.boot_len (pa_cons (pv 0) pa_nil)) pe_int)) pe_int))))), ?_⟩
    obtain ⟨hv, hl⟩ := hs
    obtain ⟨a, rfl, sq⟩ := dp_ints hv
    have ll : (ns.map V.int).length = ns.length := List.length_map ..
    refine ⟨_, rfl, _, rfl, a, _, rfl, .inl sq, _, _, rfl, rfl, _, rfl, bb (fun g => ?_) fun g => ?_⟩
    · have g2 := of_decide_eq_true g
      have hi : k < ns.length := by omega
      exact ⟨_, rfl, _, rfl, a, _, _, _, rfl, rfl, sq, atI_nat (v := V.int ns[k]) (by rw [List.getElem?_map, List.getElem?_eq_getElem hi]; rfl), q _⟩
    · refine ⟨_, rfl, _, _, rfl, rfl, .inl ⟨by omega, by omega⟩, _, _, rfl, rfl, _, rfl, a, _, rfl, .inl sq, _, _, rfl, rfl, _, _, rfl, rfl, .inl ⟨by omega, by omega⟩, _, _, rfl, rfl, (by show (0 : Int) < 1000003; decide), q _⟩

theorem has__law_at {P : Program} {w : World} {K : PySem.W.Frag} {mg : Str → Option Value} {base : Heap} (T : Tx K mg) : Has P w K mg base CX0 1 "_law_at" ["_law_script", "_law_k"] (sp_l_at K) := ok_l_at T
theorem ok_l_most {P : Program} {w : World} {K : PySem.W.Frag} {mg : Str → Option Value} {base : Heap} (T : Tx K mg) : Has P w K mg base CX0 1 "_law_most" ["_law_cell"] sp_l_most := by
  refine T.d_l_most.has sc_l_most (fun vs H Q E h => ?_) (fun f cdv A outer s H vs Q E hr h => ?_)
  · obtain ⟨_, rfl, _⟩ := h
    rfl
  · obtain ⟨c, rfl, q⟩ := h
    refine ⟨_, PSs.nox ((pss_cons (ps_if (pt_cmpR op_eq (pe_op op_mod (pv 0) pe_int) pe_int (nomark _)) (pss_one (ps_ret (pe_op op_sub pe_int (pe_op op_mod (pe_op op_fdiv (pv 0) pe_int) pe_int)))) pss_nil) (pss_one (ps_ret (pe_op op_mod (pe_op op_fdiv (pv 0) pe_int) pe_int))))), ?_⟩
    refine ⟨_, rfl, _, _, rfl, rfl, (by show (0 : Int) < 3; decide), rfl, _, rfl, bb (fun g => ?_) fun g => ?_⟩
    · refine ⟨_, rfl, _, _, rfl, rfl, ⟨by decide, by decide⟩, _, _, rfl, rfl, (by show (0 : Int) < 2; decide), _, _, rfl, rfl, q _ ?_ ?_⟩ <;> omega
    · refine ⟨_, rfl, _, _, rfl, rfl, ⟨by decide, by decide⟩, _, _, rfl, rfl, (by show (0 : Int) < 9; decide), q _ ?_ ?_⟩ <;> omega

theorem has__law_most {P : Program} {w : World} {K : PySem.W.Frag} {mg : Str → Option Value} {base : Heap} (T : Tx K mg) : Has P w K mg base CX0 1 "_law_most" ["_law_cell"] sp_l_most := ok_l_most T
theorem ok_l_begin {P : Program} {w : World} {K : PySem.W.Frag} {mg : Str → Option Value} {base : Heap} (T : Tx K mg) : Has P w K mg base CX0 1 "_law_begin" ["_law_draft_here", "_law_spools_here"] (sp_l_begin K) := by
  refine T.d_l_begin.has sc_l_begin (fun vs H Q E h => ?_) (fun f cdv A outer s H vs Q E hr h => ?_)
  · obtain ⟨_, _, _, _, rfl, _⟩ := h
    rfl
  · obtain ⟨v, d, l, cards, rfl, hv, h8, hd, q⟩ := h
    refine ⟨_, PSs.nox ((pss_one (ps_ret (pe_tup (pa_cons (pe_callTy call_list_of (by rfl) T.m_list (by decide +kernel) (pa_cons (pv 0) pa_nil)) (pa_cons (pe_lc (own := [("_law_card_here", 2)]) (g := (gName 2)) (tt := tYes) rfl sc_l_begin.nd (pi_list (pv 0)) (blkOk_by (own := [("_law_card_here", 2)]) (N := N_l_begin) (sc := defScope s_l_begin) (by decide +kernel)) (fun _ _ _ _ _ => (pg_name (i := 2) sc_l_begin.nd rfl (Or.inl rfl))) (fun _ _ _ _ _ => pts_nil) (fun _ _ _ _ _ => pe_int)) (pa_cons (pe_lc (own := [("_law_card_here", 2)]) (g := (gName 2)) (tt := tYes) rfl sc_l_begin.nd (pi_list (pv 0)) (blkOk_by (own := [("_law_card_here", 2)]) (N := N_l_begin) (sc := defScope s_l_begin) (by decide +kernel)) (fun _ _ _ _ _ => (pg_name (i := 2) sc_l_begin.nd rfl (Or.inl rfl))) (fun _ _ _ _ _ => pts_nil) (fun _ _ _ _ _ => pe_int)) (pa_cons (pe_callTy call_dictD (by rfl) T.m_dict (by decide +kernel) (pa_cons (pv 1) pa_nil)) pa_nil)))))))), ?_⟩
    obtain ⟨a, xs, rfl, sq, ha⟩ := dp_lst hv
    have xl : xs.length = cards.length := by rw [dpA_len ha, List.length_map]
    have zl : (cards.map fun _ => (0 : Int)).length = cards.length := List.length_map ..
    have z0 : ∀ i, i < xs.length → (cards.map fun _ => (0 : Int))[i]? = some 0 := fun i hi => by
      rw [List.getElem?_map, List.getElem?_eq_getElem (by omega : i < cards.length)]
      rfl
    refine ⟨_, rfl, a, xs, rfl, .inl sq, fun p1 n1 => ⟨_, rfl, a, rfl, ⟨_, (same_new n1).seq sq⟩, fun p2 n2 => ?_⟩⟩
    have s1 := same_new (o := .lst xs) n1
    refine lc_list (K := K) (a := a) (xs := xs) (PvI _ p2 (cards.map fun _ => (0 : Int))) (.start n2) (fun i H' _ h => (s1.trans h.1).seq sq) (fun i x H' hx h => ?_) fun H2 h2 => ?_
    · have hi := (List.getElem?_eq_some_iff.mp hx).1
      refine ⟨rfl, ?_⟩
      exact h.step (Same.refl _) n2 (z0 i hi) (by omega)
    obtain ⟨s2, e2⟩ := h2
    rw [List.take_of_length_le (by omega)] at e2
    refine ⟨_, rfl, a, rfl, ⟨_, (s1.trans s2).seq sq⟩, fun p3 n3 => ?_⟩
    refine lc_list (K := K) (a := a) (xs := xs) (PvI _ p3 (cards.map fun _ => (0 : Int))) (.start n3) (fun i H' _ h => ((s1.trans s2).trans h.1).seq sq) (fun i x H' hx h => ?_) fun H3 h3 => ?_
    · have hi := (List.getElem?_eq_some_iff.mp hx).1
      refine ⟨rfl, ?_⟩
      exact h.step (Same.refl _) n3 (z0 i hi) (by omega)
    obtain ⟨s3, e3⟩ := h3
    rw [List.take_of_length_le (by omega)] at e3
    have s13 := (s1.trans s2).trans s3
    refine ⟨_, rfl, d, _, rfl, .inl (s13 _ _ hd), fun p4 n4 => ⟨(by show 4 ≤ sizeLine; decide), fun p5 n5 => ?_⟩⟩
    have s4 := same_new (o := .dK (eL l)) n4
    have s5 := same_new (o := .tup [V.ref p1, V.ref p2, V.ref p3, V.ref p4]) n5
    have s15 := (s13.trans s4).trans s5
    have t1 : (upd (upd H3 p4 (.dK (eL l))) p5 (.tup [V.ref p1, V.ref p2, V.ref p3, V.ref p4])) p1 = some (.lst xs) := s5 _ _ (s4 _ _ (s3 _ _ (s2 _ _ upd_same)))
    have t2 := s5 _ _ (s4 _ _ (s3 _ _ e2))
    have t3 := s5 _ _ (s4 _ _ e3)
    have t4 : (upd (upd H3 p4 (.dK (eL l))) p5 (.tup [V.ref p1, V.ref p2, V.ref p3, V.ref p4])) p4 = some (.dK (eL l)) := s5 _ _ upd_same
    have ns : ∀ {o : Option HO} {u : HO}, o = some u → o ≠ none := fun e z => by rw [e] at z; cases z
    exact q _ _ s15 fun N hN => ⟨p5, p1, p2, p3, p4, ⟨hN _ n1 (ns t1), hN _ (s1.free n2) (ns t2), hN _ ((s1.trans s2).free n3) (ns t3), hN _ (s13.free n4) (ns t4)⟩, rfl, SqT.of upd_same, .lst (SqL.of t1) (dpA_mono s15 _ _ ha), .lst (SqL.of t2) dpA_ofInts, .lst (SqL.of t3) dpA_ofInts, t4⟩

theorem has__law_begin {P : Program} {w : World} {K : PySem.W.Frag} {mg : Str → Option Value} {base : Heap} (T : Tx K mg) : Has P w K mg base CX0 1 "_law_begin" ["_law_draft_here", "_law_spools_here"] (sp_l_begin K) := ok_l_begin T
theorem ok_l_sign {P : Program} {w : World} {K : PySem.W.Frag} {mg : Str → Option Value} {base : Heap} (T : Tx K mg) : Has P w K mg base CX0 1 "_law_sign" ["_law_cell"] sp_l_sign := by
  refine T.d_l_sign.has sc_l_sign (fun vs H Q E h => ?_) (fun f cdv A outer s H vs Q E hr h => ?_)
  · obtain ⟨_, rfl, _⟩ := h
    rfl
  · obtain ⟨c, rfl, q⟩ := h
    refine ⟨_, PSs.nox ((pss_cons (ps_set (i := 1) sc_l_sign.nd rfl (Or.inl rfl) pe_str) (pss_cons (ps_set (i := 1) sc_l_sign.nd rfl (Or.inl rfl) (pe_op op_add_str (pv 1) pe_str)) (pss_one (ps_ret (pe_ix ix_str (pv 1) (pe_op op_mod (pv 0) pe_int) (fun _ _ => rfl))))))), ?_⟩
    refine ⟨_, rfl, _, _, rfl, rfl, (by rw [sizeLine_eq]; decide +kernel), ?_⟩
    have hl : ((" !\"#$&'()*+,-./0123456789:;<=>?@ABCDEFGHIJKLMNOPQRSTUVWXYZ[\\]^_`" : PySem.Str) ++ ("abcdefghijklmnopqrstuvwxyz{|}~\n" : PySem.Str)).cps.toList.length = 95 := by decide +kernel
    obtain ⟨d, hd, _⟩ := hole_at (i := c % 95) hl (by omega) (show c % 95 < ((95 : Nat) : Int) by omega)
    exact ⟨_, rfl, _, rfl, _, _, rfl, rfl, (by show (0 : Int) < 95; decide), _, _, d, rfl, rfl, len_size hl (by decide), hd, q d⟩

theorem has__law_sign {P : Program} {w : World} {K : PySem.W.Frag} {mg : Str → Option Value} {base : Heap} (T : Tx K mg) : Has P w K mg base CX0 1 "_law_sign" ["_law_cell"] sp_l_sign := ok_l_sign T
theorem ok_l_go {P : Program} {w : World} {K : PySem.W.Frag} {mg : Str → Option Value} {base : Heap} (T : Tx K mg) : Has P w K mg base CX0 1 "_law_go" ["_law_turn"] sp_l_go := by
  refine T.d_l_go.has sc_l_go (fun vs H Q E h => ?_) (fun f cdv A outer s H vs Q E hr h => ?_)
  · obtain ⟨_, rfl, _⟩ := h
    rfl
  · obtain ⟨c, rfl, hf, q⟩ := h
    refine ⟨_, PSs.nox ((pss_one (ps_ret (pe_op op_sub (pe_bm PySem.F.plainAttrs_str PySem.F.slot_str_index PySem.F.type_str_index mt_indexF pe_str (pa_cons (pv 0) pa_nil)) pe_int)))), ?_⟩
    have hc : c = 102 ∨ c = 98 ∨ c = 105 := by unfold fbi at hf; exact of_decide_eq_true hf
    have key : ∃ k : Nat, Txt.index0 "bif" (sg c) = some k ∧ (k : Int) - 1 = adv c := by
      rcases hc with rfl | rfl | rfl
      · exact ⟨2, by decide +kernel, by decide⟩
      · exact ⟨0, by decide +kernel, by decide⟩
      · exact ⟨1, by decide +kernel, by decide⟩
    obtain ⟨k, hk, ek⟩ := key
    rw [← ek] at q
    exact ⟨rfl, _, rfl, _, _, k, rfl, rfl, hk, _, _, rfl, rfl, q⟩

theorem has__law_go {P : Program} {w : World} {K : PySem.W.Frag} {mg : Str → Option Value} {base : Heap} (T : Tx K mg) : Has P w K mg base CX0 1 "_law_go" ["_law_turn"] sp_l_go := ok_l_go T
theorem ok_l_turnover {P : Program} {w : World} {K : PySem.W.Frag} {mg : Str → Option Value} {base : Heap} (T : Tx K mg) : Has P w K mg base CX0 1 "_law_turnover" ["_law_card_here"] (sp_l_turnover K) := by
  refine T.d_l_turnover.has sc_l_turnover (fun vs H Q E h => ?_) (fun f cdv A outer s H vs Q E hr h => ?_)
  · obtain ⟨_, _, rfl, _⟩ := h
    rfl
  · obtain ⟨v, t, rfl, hv, ok, q⟩ := h
    refine ⟨_, PSs.nox ((pss_cons (ps_set (i := 1) sc_l_turnover.nd rfl (Or.inl rfl) (pe_ix ix_tup (pv 0) pe_int (fun _ _ => rfl))) (pss_one (ps_ret (pe_tup (pa_cons (pe_ix ix_str pe_str (pe_bm PySem.F.plainAttrs_str PySem.F.slot_str_index PySem.F.type_str_index mt_indexF pe_str (pa_cons (pe_ix ix_tup (pv 0) pe_int (fun _ _ => rfl)) pa_nil)) (fun _ _ => rfl)) (pa_cons (pe_op op_add_str (pe_op op_add_str (pe_op op_add_str (pe_ix ix_str (pv 1) pe_int (fun _ _ => rfl)) (pe_ix ix_str (pv 1) pe_int (fun _ _ => rfl))) (pe_ix ix_str (pv 1) pe_int (fun _ _ => rfl))) (pe_ix ix_str (pv 1) pe_int (fun _ _ => rfl))) (pa_cons (pe_op op_mod (pe_op op_sub pe_int (pe_ix ix_tup (pv 0) pe_int (fun _ _ => rfl))) pe_int) pa_nil)))))))), ?_⟩
    obtain ⟨a, rfl, s⟩ := card_at hv
    obtain ⟨o1, o2, o3, o4, o5⟩ := cardOk_parts ok
    obtain ⟨c0, h0, e0⟩ := hole_at (i := 0) o2 (by decide) (by decide)
    obtain ⟨c1, h1, e1⟩ := hole_at (i := 1) o2 (by decide) (by decide)
    obtain ⟨c2, h2, e2⟩ := hole_at (i := 2) o2 (by decide) (by decide)
    obtain ⟨c3, h3, e3⟩ := hole_at (i := 3) o2 (by decide) (by decide)
    have hl := len_size o2 (by decide)
    have eh : (⟨#[c0]⟩ : Str) ++ ⟨#[c3]⟩ ++ ⟨#[c2]⟩ ++ ⟨#[c1]⟩ = (cFlip t).2.1 := by
      rw [e0, e1, e2, e3]
      rfl
    have em : (0 - t.2.2) % 4 = (4 - t.2.2) % 4 := by omega
    have key : ∃ k : Nat, Txt.index0 "SZ" t.1 = some k ∧ ∃ c, atI (PySem.Str.ofString "ZS").cps.toList (k : Int) = some c ∧ (⟨#[c]⟩ : Str) = (cFlip t).1 := by
      rcases o1 with e | e
      · refine ⟨0, by rw [e]; decide +kernel, 90, by decide +kernel, ?_⟩
        show _ = if t.1 = "S" then ("Z" : Str) else "S"
        rw [if_pos e]
        decide +kernel
      · refine ⟨1, by rw [e]; decide +kernel, 83, by decide +kernel, ?_⟩
        show _ = if t.1 = "S" then ("Z" : Str) else "S"
        rw [e]
        decide +kernel
    obtain ⟨k, hk, c, hc, ec⟩ := key
    refine ⟨_, rfl, a, _, _, _, rfl, rfl, s, rfl, rfl, _, rfl, a, _, _, _, rfl, rfl, s, atI_nat (j := 0) (v := V.str t.1) rfl, _, _, k, rfl, rfl, hk, _, _, c, rfl, rfl, (by rw [sizeLine_eq]; exact (by decide : (2 : Nat) ≤ 16777216)), hc, ?_⟩
    refine ⟨_, rfl, _, _, c0, rfl, rfl, hl, h0, _, rfl, _, _, c3, rfl, rfl, hl, h3, _, _, rfl, rfl, (by rw [sizeLine_eq]; exact (by decide : (1 : Nat) + 1 ≤ 16777216)), _, rfl, _, _, c2, rfl, rfl, hl, h2, _, _, rfl, rfl, (by rw [sizeLine_eq]; exact (by decide : (2 : Nat) + 1 ≤ 16777216)), _, rfl, _, _, c1, rfl, rfl, hl, h1, _, _, rfl, rfl, (by rw [sizeLine_eq]; exact (by decide : (3 : Nat) + 1 ≤ 16777216)), ?_⟩
    rw [eh, ec]
    refine ⟨_, rfl, a, _, _, _, rfl, rfl, s, atI_nat (j := 2) (v := V.int t.2.2) rfl, _, _, rfl, rfl, _, _, rfl, rfl, (by show (0 : Int) < 4; decide), (by show 3 ≤ sizeLine; decide), fun p hp => ?_⟩
    have z := q p hp
    unfold tupC at z
    rw [show (cFlip t).2.2 = (0 - t.2.2) % 4 from em.symm] at z
    exact z

theorem has__law_turnover {P : Program} {w : World} {K : PySem.W.Frag} {mg : Str → Option Value} {base : Heap} (T : Tx K mg) : Has P w K mg base CX0 1 "_law_turnover" ["_law_card_here"] (sp_l_turnover K) := ok_l_turnover T
theorem ok_l_lines {P : Program} {w : World} {K : PySem.W.Frag} {mg : Str → Option Value} {base : Heap} (T : Tx K mg) : Has P w K mg base CX0 1 "_law_lines" ["_law_draft_here", "_law_most_here", "_law_spools_here", "_law_done"] (sp_l_lines K) := by
  refine T.d_l_lines.has sc_l_lines (fun vs H Q E h => ?_) (fun f cdv A outer s H vs Q E hr h => ?_)
  · obtain ⟨_, _, _, _, _, _, _, rfl, _⟩ := h
    rfl
  · obtain ⟨v, i, d, l, dn, cs, ds, rfl, hv, hok, h8, hi0, hi1, hd, hl, hdn, hds, hdo, q⟩ := h
    refine ⟨_, PSs.nox ((pss_cons (ps_set (i := 4) sc_l_lines.nd rfl (Or.inl rfl) (pe_lst (pa_cons (pe_op op_add_str pe_str (pe_callTy call_str_int (by rfl) T.m_str (by decide +kernel) (pa_cons (pv 1) pa_nil))) pa_nil))) (pss_cons (ps_for PassesOwn.never rfl (pi_str pe_str) (pg_name (i := 5) sc_l_lines.nd rfl (Or.inl rfl)) (pss_one (ps_if (pt_cmp (pc_din (hu_of hr) (pv 5) (pv 2))) (pss_one (ps_expr (pe_bm PySem.F.plainAttrs_list PySem.F.slot_list_append PySem.F.type_list_append mt_append (pv 4) (pa_cons (pe_op op_add_str (pe_op op_add_str (pe_op op_add_str pe_str (pv 5)) pe_str) (pe_callTy call_str_int (by rfl) T.m_str (by decide +kernel) (pa_cons (pe_dget (hu_of hr) (pv 2) (pv 5) (fun _ _ => rfl)) pa_nil))) pa_nil)))) pss_nil))) (pss_cons (ps_for PassesOwn.never rfl (pi_list (pv 0)) (pg_name (i := 6) sc_l_lines.nd rfl (Or.inl rfl)) (pss_one (ps_expr (pe_bm PySem.F.plainAttrs_list PySem.F.slot_list_append PySem.F.type_list_append mt_append (pv 4) (pa_cons (pe_op op_add_str (pe_op op_add_str (pe_op op_add_str (pe_op op_add_str (pe_op op_add_str pe_str (pe_ix ix_tup (pv 6) pe_int (fun _ _ => rfl))) pe_str) (pe_ix ix_tup (pv 6) pe_int (fun _ _ => rfl))) pe_str) (pe_callTy call_str_int (by rfl) T.m_str (by decide +kernel) (pa_cons (pe_ix ix_tup (pv 6) pe_int (fun _ _ => rfl)) pa_nil))) pa_nil))))) (pss_cons (ps_for PassesOwn.never rfl (pi_list (pv 3)) (pg_name (i := 7) sc_l_lines.nd rfl (Or.inl rfl)) (pss_one (ps_expr (pe_bm PySem.F.plainAttrs_list PySem.F.slot_list_append PySem.F.type_list_append mt_append (pv 4) (pa_cons (pe_op op_add_str (pe_op op_add_str (pe_ix ix_tup (pv 7) pe_int (fun _ _ => rfl)) pe_str) (pe_callTy call_str_n (by rfl) T.m_str (by decide +kernel) (pa_cons (pe_ix ix_tup (pv 7) pe_int (fun _ _ => rfl)) pa_nil))) pa_nil))))) (pss_one (ps_ret (pe_join pe_str (pv 4))))))))), ?_⟩
    obtain ⟨a, xs, rfl, sqc, hc⟩ := dp_lst hv
    obtain ⟨b, ys, rfl, sqd, hdd⟩ := dp_lst hdn
    obtain ⟨ll, lp⟩ := hl
    have xl : xs.length = cs.length := by rw [dpA_len hc, List.length_map]
    have yl : ys.length = ds.length := by rw [dpA_len hdd, List.length_map]
    have lin : ∀ {n : Nat}, n ≤ 4000000 → n ≤ sizeLine := fun h => by rw [sizeLine_eq]; omega
    have il := toS_len hi0 (by omega)
    refine ⟨_, rfl, _, rfl, log_ok (by omega) (by omega), _, _, rfl, rfl, lin (by show 5 + (toS i).length ≤ _; omega), (by show 1 ≤ sizeLine; decide), fun p np => ?_⟩
    have s1 := same_new (o := .lst [V.str ("loom " ++ toS i)]) np
    have fin : ∀ {H1 : Hp} {zs : List Str} {z : Str} {n : Nat}, Same H H1 → H1 p = some (.lst (zs.map V.str)) → zs.length ≤ n → (∀ z ∈ zs, z.length ≤ 80) → z.length ≤ 80 → Same H (upd H1 p (.lst (zs.map V.str ++ [V.str z]))) ∧ ∃ zs : List Str, (upd H1 p (.lst (zs.map V.str ++ [V.str z]))) p = some (.lst (zs.map V.str ++ [V.str z])) := fun {H1 zs z n} s e _ _ _ => ⟨same_put s np, zs, upd_same⟩
    have put : ∀ {zs : List Str} {z : Str}, (∀ z ∈ zs, z.length ≤ 80) → z.length ≤ 80 → ∀ y ∈ zs ++ [z], y.length ≤ 80 := fun h g y m => (List.mem_append.mp m).elim (h y) fun m => by rw [List.mem_singleton.mp m]; exact g
    have mp : ∀ (zs : List Str) (z : Str), zs.map V.str ++ [V.str z] = (zs ++ [z]).map V.str := fun zs z => by rw [List.map_append]; rfl
    refine ⟨_, rfl, for_it (J := Its (PySem.Str.ofString "abcdefghijklmnopqrstuvwxyz")) 26 (fun j σ H' => (∃ o5 o6 o7, σ = [some (V.ref a), some (V.int i), some (V.ref d), some (V.ref b), some (V.ref p), o5, o6, o7]) ∧ Same H H' ∧ ∃ zs : List Str, H' p = some (.lst (zs.map V.str)) ∧ zs.length ≤ j + 1 ∧ ∀ z ∈ zs, z.length ≤ 80)
      ⟨⟨_, _, _, rfl⟩, s1, [_], upd_same, Nat.le_refl _, fun z m => by rw [List.mem_singleton.mp m, app_len]; show 5 + (toS i).length ≤ _; omega⟩ (fun j σ H' hj _ => (show j < (PySem.Str.ofString "abcdefghijklmnopqrstuvwxyz").cps.size from hj)) (fun σ H' _ => (show (PySem.Str.ofString "abcdefghijklmnopqrstuvwxyz").cps.size ≤ 26 by decide +kernel)) ?_ ?_⟩
    · rintro j σ H1 x H2 hj ⟨⟨o5, o6, o7, rfl⟩, s2, zs, ez, lz, bz⟩ ⟨rfl, c, hc1, rfl⟩
      refine ⟨_, rfl, _, rfl, d, _, rfl, gt_d (s2 _ _ hd), _, rfl, bb (fun g => ?_) fun g => ?_⟩
      · cases hv : gt l (sg c) with
        | none =>
          have g2 : ((gt l (sg c)).map V.int).isSome = true := g
          rw [hv] at g2
          cases g2
        | some v =>
          have hlp := lp _ (gt_mem hv)
          have v0 : 0 ≤ v := hlp.1
          have v1 : v ≤ 999999999 := hlp.2
          have vl := toS_len v0 (by omega)
          have gd := gt_d (k := sg c) (s2 _ _ hd)
          rw [hv] at gd
          refine ⟨_, rfl, .inl ⟨rfl, _, SqL.of ez⟩, _, rfl, _, _, rfl, rfl, lin (by show 6 + 1 ≤ 4000000; decide), _, _, rfl, rfl, lin (by rw [app_len]; show 6 + 1 + 1 ≤ 4000000; decide), _, rfl, _, rfl, d, _, rfl, gd, _, rfl, log_ok (by omega) (by omega), _, _, rfl, rfl, lin (by rw [app_len, app_len]; show 6 + 1 + 1 + (toS v).length ≤ _; omega), p, _, _, rfl, rfl, ez, (by rw [List.length_map, sizeLine_eq]; omega), ⟨_, _, _, rfl⟩, same_put s2 np, _, upd_same.trans (by rw [mp]), by rw [List.length_append]; show zs.length + 1 ≤ _; omega, put bz ?_⟩
          rw [app_len, app_len, app_len]
          show 6 + 1 + 1 + (toS v).length ≤ _
          omega
      · exact ⟨⟨_, _, _, rfl⟩, s2, zs, ez, by omega, bz⟩
    · rintro σ H1 ⟨⟨o5, o6, o7, rfl⟩, s2, zs, ez, lz, bz⟩
      refine ⟨_, rfl, a, rfl, ⟨_, s2.seq sqc⟩, for_list (xs := xs) (fun j σ H' => (∃ o5 o6 o7, σ = [some (V.ref a), some (V.int i), some (V.ref d), some (V.ref b), some (V.ref p), o5, o6, o7]) ∧ Same H H' ∧ ∃ zs : List Str, H' p = some (.lst (zs.map V.str)) ∧ zs.length ≤ j + 27 ∧ ∀ z ∈ zs, z.length ≤ 80)
        ⟨⟨_, _, _, rfl⟩, s2, zs, ez, by omega, bz⟩ (fun j σ H' _ h => h.2.1.seq sqc) ?_ ?_⟩
      · rintro j x σ H2 hx ⟨⟨o5, o6, o7, rfl⟩, s3, zs, ez, lz, bz⟩
        have hj := (List.getElem?_eq_some_iff.mp hx).1
        obtain ⟨t, ht, hxt⟩ := card_get hc hx
        obtain ⟨ax, rfl, sx⟩ := card_at (dp_mono s3 _ _ hxt)
        obtain ⟨k1, k2, k3, k4, k5⟩ := cardOk_parts (hok t (List.mem_of_getElem? ht))
        have n1 : t.1.length = 1 := by rcases k1 with e | e <;> rw [e] <;> rfl
        have n4 : t.2.1.length = 4 := by rw [← k2]; exact (Array.length_toList ..).symm
        have n9 := toS_len k4 (by omega)
        refine ⟨_, rfl, .inl ⟨rfl, _, SqL.of ez⟩, _, rfl, ax, _, _, _, rfl, rfl, sx, atI_nat (j := 0) (v := V.str t.1) rfl, _, _, rfl, rfl, lin (by show 7 + t.1.length ≤ _; omega), _, _, rfl, rfl, lin (by rw [app_len]; show 7 + t.1.length + 1 ≤ _; omega), _, rfl, ax, _, _, _, rfl, rfl, sx, atI_nat (j := 1) (v := V.str t.2.1) rfl, _, _, rfl, rfl, lin (by rw [app_len, app_len]; show 7 + t.1.length + 1 + t.2.1.length ≤ _; omega), _, _, rfl, rfl, lin (by rw [app_len, app_len, app_len]; show 7 + t.1.length + 1 + t.2.1.length + 1 ≤ _; omega), _, rfl, ax, _, _, _, rfl, rfl, sx, atI_nat (j := 2) (v := V.int t.2.2) rfl, _, rfl, log_ok (by omega) (by omega), _, _, rfl, rfl, lin (by rw [app_len, app_len, app_len, app_len]; show 7 + t.1.length + 1 + t.2.1.length + 1 + (toS t.2.2).length ≤ _; omega), p, _, _, rfl, rfl, ez, (by rw [List.length_map, sizeLine_eq]; omega), ⟨_, _, _, rfl⟩, same_put s3 np, _, upd_same.trans (by rw [mp]), by rw [List.length_append]; show zs.length + 1 ≤ _; omega, put bz ?_⟩
        rw [app_len, app_len, app_len, app_len, app_len]
        show 7 + t.1.length + 1 + t.2.1.length + 1 + (toS t.2.2).length ≤ _
        omega
      · rintro σ H2 ⟨⟨o5, o6, o7, rfl⟩, s3, zs, ez, lz, bz⟩
        refine ⟨_, rfl, b, rfl, ⟨_, s3.seq sqd⟩, for_list (xs := ys) (fun j σ H' => (∃ o5 o6 o7, σ = [some (V.ref a), some (V.int i), some (V.ref d), some (V.ref b), some (V.ref p), o5, o6, o7]) ∧ Same H H' ∧ ∃ zs : List Str, H' p = some (.lst (zs.map V.str)) ∧ zs.length ≤ j + 35 ∧ ∀ z ∈ zs, z.length ≤ 80)
          ⟨⟨_, _, _, rfl⟩, s3, zs, ez, by omega, bz⟩ (fun j σ H' _ h => h.2.1.seq sqd) ?_ ?_⟩
        · rintro j x σ H3 hx ⟨⟨o5, o6, o7, rfl⟩, s4, zs, ez, lz, bz⟩
          have hj := (List.getElem?_eq_some_iff.mp hx).1
          obtain ⟨dd, hdd2, dx⟩ := dpA_get hdd hx
          rw [List.getElem?_map] at hdd2
          obtain ⟨de, hde, rfl⟩ := Option.map_eq_some_iff.mp hdd2
          have okd := hdo de (List.mem_of_getElem? hde)
          cases de with
          | row z =>
            obtain ⟨ax, xx, rfl, sx, dx2⟩ := dp_tup (dp_mono s4 _ _ dx)
            have ex := dpA_strs (ns := ["row", z]) dx2
            subst ex
            have zl : z.length ≤ 35 := okd
            refine ⟨_, rfl, .inl ⟨rfl, _, SqL.of ez⟩, _, rfl, ax, _, _, _, rfl, rfl, sx, atI_nat (j := 0) (v := V.str "row") rfl, _, _, rfl, rfl, lin (by show 3 + 1 ≤ 4000000; decide), _, rfl, ax, _, _, _, rfl, rfl, sx, atI_nat (j := 1) (v := V.str z) rfl, .inr ⟨z, rfl, _, _, rfl, rfl, lin (by rw [app_len]; show 3 + 1 + z.length ≤ _; omega), p, _, _, rfl, rfl, ez, (by rw [List.length_map, sizeLine_eq]; omega), ⟨_, _, _, rfl⟩, same_put s4 np, _, upd_same.trans (by rw [mp]), by rw [List.length_append]; show zs.length + 1 ≤ _; omega, put bz ?_⟩⟩
            rw [app_len, app_len]
            show 3 + 1 + z.length ≤ _
            omega
          | flip k =>
            obtain ⟨ax, xx, rfl, sx, dx2⟩ := dp_tup (dp_mono s4 _ _ dx)
            cases dx2 with
            | cons h1 t => cases t with
              | cons h2 t =>
                cases t
                rw [dp_str h1, dp_int h2] at sx
                have kl : k ≤ 9 := okd
                have n9 := toS_len (i := (k : Int)) (by omega) (by omega)
                refine ⟨_, rfl, .inl ⟨rfl, _, SqL.of ez⟩, _, rfl, ax, _, _, _, rfl, rfl, sx, atI_nat (j := 0) (v := V.str "flip") rfl, _, _, rfl, rfl, lin (by show 4 + 1 ≤ 4000000; decide), _, rfl, ax, _, _, _, rfl, rfl, sx, atI_nat (j := 1) (v := V.int k) rfl, .inl ⟨_, rfl, log_ok (by omega) (by omega), _, _, rfl, rfl, lin (by rw [app_len]; show 4 + 1 + (toS k).length ≤ _; omega), p, _, _, rfl, rfl, ez, (by rw [List.length_map, sizeLine_eq]; omega), ⟨_, _, _, rfl⟩, same_put s4 np, _, upd_same.trans (by rw [mp]), by rw [List.length_append]; show zs.length + 1 ≤ _; omega, put bz ?_⟩⟩
                rw [app_len, app_len]
                show 4 + 1 + (toS k).length ≤ _
                omega
        · rintro σ H3 ⟨⟨o5, o6, o7, rfl⟩, s4, zs, ez, lz, bz⟩
          have sl := sum_le bz
          have jl := join_len1 "\n" rfl zs
          exact ⟨⟨_, rfl⟩, _, rfl, _, p, zs, rfl, rfl, .inl (SqL.of ez), (by show (zs.map Str.length).sum + zs.length * 1 ≤ 16777216; omega), q _ _ s4 (by omega)⟩

theorem has__law_lines {P : Program} {w : World} {K : PySem.W.Frag} {mg : Str → Option Value} {base : Heap} (T : Tx K mg) : Has P w K mg base CX0 1 "_law_lines" ["_law_draft_here", "_law_most_here", "_law_spools_here", "_law_done"] (sp_l_lines K) := ok_l_lines T
theorem ok_l_number {P : Program} {w : World} {K : PySem.W.Frag} {mg : Str → Option Value} {base : Heap} (T : Tx K mg) : Has P w K mg base CX0 1 "_law_number" ["_law_text"] sp_l_number := by
  refine T.d_l_number.has sc_l_number (fun vs H Q E h => ?_) (fun f cdv A outer s H vs Q E hr h => ?_)
  · obtain ⟨_, rfl, _⟩ := h
    rfl
  · obtain ⟨z, rfl, hz, q1, q0⟩ := h
    refine ⟨_, PSs.nox ((pss_cons (ps_if (PW.pt (pw_or (pt_cmpR op_eq (pv 0) pe_str (nomark _)) (pw_or (pt_cmpR op_gt (pe_callB call_len_str (by rfl) T.m_len PySem.boot_len (pa_cons (pv 0) pa_nil)) pe_int (nomark _)) (pw_or1 (PW.pt (pw_and (pt_cmpR op_gt (pe_callB call_len_str (by rfl) T.m_len PySem.boot_len (pa_cons (pv 0) pa_nil)) pe_int (nomark _)) (pw_and1 (pt_cmpR op_eq (pe_ix ix_str (pv 0) pe_int (fun _ _ => rfl)) pe_str (nomark _))))))))) (pss_one (ps_ret pe_non)) pss_nil) (pss_cons (ps_for PassesOwn.never rfl (pi_str (pv 0)) (pg_name (i := 1) sc_l_number.nd rfl (Or.inl rfl)) (pss_one (ps_if (pt_cmpR op_notIn_sign (pv 1) pe_str rfl) (pss_one (ps_ret pe_non)) pss_nil))) (pss_one (ps_ret (pe_callTy call_int_str (by rfl) T.m_int (by decide +kernel) (pa_cons (pv 0) pa_nil))))))), ?_⟩
    have bad : numOk z = false → Q .non H := fun h => q0 (by unfold num; rw [if_neg (by rw [h]; exact Bool.false_ne_true)])
    refine ⟨_, rfl, rfl, _, rfl, bb (fun g => ?_) fun g => ?_⟩
    · rw [dec_str] at g
      have e := of_decide_eq_true g
      refine iteT (bad ?_)
      rw [e]
      decide +kernel
    rw [dec_str] at g
    have hne : z ≠ "" := of_decide_eq_false g
    have hl0 : ¬ z.length = 0 := fun h => hne (empty_len h)
    refine ⟨_, rfl, z, rfl, hz, _, _, rfl, rfl, _, rfl, bb (fun g2 => ?_) fun g2 => ?_⟩
    · have g3 := of_decide_eq_true g2
      refine iteT (bad ?_)
      unfold numOk
      rw [decide_eq_true (show 9 < z.length by omega)]
      simp
    have g3 := of_decide_eq_false g2
    have hi : 0 < z.cps.toList.length := by rw [Array.length_toList]; exact Nat.pos_of_ne_zero hl0
    have hc : z.cps.toList[0]? = some (z.cps.toList[0]'hi) := List.getElem?_eq_getElem hi
    have pre : ¬ (z.cps.toList[0]? = some 48 ∧ 1 < z.length) → z.cps.toList.all digit = numOk z := fun h => by
      unfold numOk
      rw [decide_eq_false hl0, decide_eq_false (show ¬ 9 < z.length by omega)]
      have : (decide (z.cps.toList[0]? = some 48) && decide (1 < z.length)) = false := by
        rw [← Bool.decide_and]
        exact decide_eq_false h
      rw [this]
      simp
    refine ⟨_, rfl, z, rfl, hz, _, _, rfl, rfl, _, rfl, bb (fun g5 => ⟨_, rfl, _, _, _, rfl, rfl, hz, atI_nat (j := 0) hc, rfl, _, rfl, bb (fun g4 => ?_) (fun g4 => ?_)⟩) fun g5 => ?_⟩
    · have g6 := of_decide_eq_true g5
      change decide (V.str (sg (z.cps.toList[0]'hi)) = V.str "0") = true at g4
      rw [dec_sg (n := 48) (by decide)] at g4
      have e48 := of_decide_eq_true g4
      refine bad ?_
      unfold numOk
      rw [decide_eq_true (show z.cps.toList[0]? = some 48 by rw [hc, e48]), decide_eq_true (show 1 < z.length by omega)]
      simp
    all_goals
      have npre : ¬ (z.cps.toList[0]? = some 48 ∧ 1 < z.length) := by
        first
          | (have g6 := of_decide_eq_false g5
             intro ⟨_, k⟩
             omega)
          | (change decide (V.str (sg (z.cps.toList[0]'hi)) = V.str "0") = false at g4
             rw [dec_sg (n := 48) (by decide)] at g4
             have e48 := of_decide_eq_false g4
             intro ⟨k, _⟩
             rw [hc] at k
             exact e48 (Option.some.inj k))
      have pre := pre npre
      refine ⟨_, rfl, z, rfl, for_it (J := Its z) z.cps.size (fun i σ H' => (∃ o, σ = [some (V.str z), o]) ∧ H' = H ∧ (z.cps.toList.take i).all digit = true) ⟨⟨_, rfl⟩, rfl, rfl⟩ (fun i σ H' hi _ => hi) (fun _ _ _ => Nat.le_refl _) ?_ ?_⟩
      · rintro i σ H1 x H2 hi ⟨⟨o, rfl⟩, rfl, ha⟩ ⟨rfl, c, hc, rfl⟩
        have hc2 : z.cps.toList[i]? = some c := by rw [Array.getElem?_toList]; exact hc
        refine ⟨_, rfl, c, _, rfl, rfl, _, rfl, bb (fun g => ?_) fun g => ?_⟩
        · rw [dig_mem, Bool.not_eq_true'] at g
          refine bad ?_
          rw [← pre, all_none hc2 g]
        · rw [dig_mem, Bool.not_eq_false'] at g
          exact ⟨⟨_, rfl⟩, rfl, all_step ha hc2 g⟩
      · rintro σ H1 ⟨⟨o, rfl⟩, rfl, ha⟩
        rw [show z.cps.size = z.cps.toList.length from (Array.length_toList ..).symm, List.take_length, pre] at ha
        obtain ⟨i, hn⟩ := num_of ha
        exact ⟨_, rfl, z, i, rfl, (num_some hn).1, by omega, q1 i hn⟩

theorem has__law_number {P : Program} {w : World} {K : PySem.W.Frag} {mg : Str → Option Value} {base : Heap} (T : Tx K mg) : Has P w K mg base CX0 1 "_law_number" ["_law_text"] sp_l_number := ok_l_number T
theorem ok_made {P : Program} {w : World} {K : PySem.W.Frag} {mg : Str → Option Value} {base : Heap} (T : Tx K mg) : Has P w K mg base (L2N.CX P w) 2 "made" ["lay", "holes", "stand"] (sp_made K) := by
  refine T.d_made.has sc_made (fun vs H Q E h => ?_) (fun f cdv A outer s H vs Q E hr h => ?_)
  · obtain ⟨_, _, _, rfl, _⟩ := h
    rfl
  · obtain ⟨lay, holes, st, rfl, hz, q1, q0⟩ := h
    refine ⟨_, (pss_cons (ps_if (pt_cmpR op_notIn_seq (pv 0) (pe_tup (pa_cons pe_str (pa_cons pe_str pa_nil))) rfl) (pss_one (L2N.ps_raise rfl (L2N.takes_of rfl rfl rfl rfl) (pm_own T.e_BadTablet (by rfl)))) pss_nil) (pss_cons (ps_if (pt_cmpR op_ne (pe_callB call_len_str (by rfl) T.m_len PySem.boot_len (pa_cons (pv 1) pa_nil)) pe_int (nomark _)) (pss_one (L2N.ps_raise rfl (L2N.takes_of rfl rfl rfl rfl) (pm_own T.e_BadTablet (by rfl)))) pss_nil) (pss_cons (ps_for (passes_of rfl) rfl (pi_str (pv 1)) (pg_name (i := 3) sc_made.nd rfl (Or.inl rfl)) (pss_one (ps_if (pt_not (pt_val (pe_has (has_is_colour T) (hr.mono (by decide)) (by rfl) pass0 (pa_cons (pv 3) pa_nil)))) (pss_one (L2N.ps_raise rfl (L2N.takes_of rfl rfl rfl rfl) (pm_own T.e_BadTablet (by rfl)))) pss_nil))) (pss_cons (ps_if (PW.pt (pw_or (pt_cmpR op_lt (pv 2) pe_int (nomark _)) (pw_or1 (pt_cmpR op_gt (pv 2) pe_int (nomark _))))) (pss_one (L2N.ps_raise rfl (L2N.takes_of rfl rfl rfl rfl) (pm_own T.e_BadTablet (by rfl)))) pss_nil) (pss_one (ps_ret (pe_tup (pa_cons (pv 0) (pa_cons (pv 1) (pa_cons (pv 2) pa_nil)))))))))), ?_⟩
    have bad : ∀ {H' : Hp}, madeP lay holes st = false → Same H H' → E (.ref (He.ga K "BadTablet")) none H' := fun e s => q0 e _ s
    refine ⟨_, rfl, (by show 2 ≤ sizeLine; decide), fun p hp => ⟨p, _, rfl, .inr (SqT.of upd_same), rfl, rfl, _, rfl, bb (fun h => ?_) fun h => ?_⟩⟩
    · refine bad ?_ (same_new hp)
      have h2 : (!inV (V.str lay) [V.str "S", V.str "Z"]) = true := h
      rw [inV_SZ, Bool.not_eq_true'] at h2
      unfold madeP
      rw [h2]
      rfl
    · have hlay : (decide (lay = "S") || decide (lay = "Z")) = true := by
        have h2 : (!inV (V.str lay) [V.str "S", V.str "Z"]) = false := h
        rw [inV_SZ, Bool.not_eq_false'] at h2
        exact h2
      refine ⟨_, rfl, holes, rfl, hz, rfl, _, rfl, bb (fun h2 => ?_) fun h2 => ?_⟩
      · rw [dec_i, Bool.not_eq_true', decide_eq_false_iff_not] at h2
        refine bad ?_ (same_new hp)
        have e : decide (holes.length = 4) = false := decide_eq_false (by omega)
        unfold madeP
        rw [e, Bool.false_and, Bool.and_false]
      · rw [dec_i, Bool.not_eq_false', decide_eq_true_eq] at h2
        refine ⟨_, rfl, holes, rfl, for_it (J := Its holes) holes.cps.size (fun i σ H' => (∃ o, σ = [some (V.str lay), some (V.str holes), some (V.int st), o]) ∧ H' = upd H p (.tup [V.str "S", V.str "Z"]) ∧ (holes.cps.toList.take i).all low = true) ⟨⟨_, rfl⟩, rfl, rfl⟩ (fun i σ H' hi _ => hi) (fun _ _ _ => Nat.le_refl _) ?_ ?_⟩
        · rintro i σ H1 x H2 hi ⟨⟨o, rfl⟩, rfl, ha⟩ ⟨rfl, c, hc, rfl⟩
          have hc2 : holes.cps.toList[i]? = some c := by rw [Array.getElem?_toList]; exact hc
          have ec : isCol (sg c) = low c := by
            unfold isCol
            rw [decide_eq_true (show (sg c).length = 1 from rfl)]
            simp [sg]
          refine ⟨_, rfl, sg c, rfl, (by rw [sizeLine_eq]; exact (by decide : (1 : Nat) ≤ 16777216)), _, rfl, bb (fun g => ?_) fun g => ?_⟩
          · rw [ec, Bool.not_eq_true'] at g
            refine bad ?_ (same_new hp)
            unfold madeP
            rw [all_none hc2 g, Bool.false_and, Bool.and_false, Bool.and_false]
          · rw [ec, Bool.not_eq_false'] at g
            exact ⟨⟨_, rfl⟩, rfl, all_step ha hc2 g⟩
        · rintro σ H1 ⟨⟨o, rfl⟩, rfl, ha⟩
          rw [show holes.cps.size = holes.cps.toList.length from (Array.length_toList ..).symm, List.take_length] at ha
          have e4 : holes.length = 4 := by omega
          have em : madeP lay holes st = decide (0 ≤ st ∧ st ≤ 3) := by
            unfold madeP
            rw [hlay, decide_eq_true e4, ha]
            simp
          have badS : ¬ (0 ≤ st ∧ st ≤ 3) → E (.ref (He.ga K "BadTablet")) none (upd H p (.tup [V.str "S", V.str "Z"])) := fun n => bad (by rw [em]; exact decide_eq_false n) (same_new hp)
          refine ⟨_, rfl, _, _, rfl, rfl, _, rfl, bb (fun g => ?_) fun g => ?_⟩
          · have g1 := of_decide_eq_true g
            exact iteT (badS (by omega))
          · have g1 := of_decide_eq_false g
            refine ⟨_, rfl, _, _, rfl, rfl, _, rfl, bb (fun g3 => ?_) fun g3 => ?_⟩
            · have g4 := of_decide_eq_true g3
              exact badS (by omega)
            · have g4 := of_decide_eq_false g3
              refine ⟨_, rfl, _, rfl, _, rfl, (by show 3 ≤ sizeLine; decide), fun p2 hp2 => q1 (by rw [em]; exact decide_eq_true (by omega)) _ p2 ?_ (SqT.of upd_same)⟩
              exact (same_new hp).trans (same_new hp2)

theorem has_made {P : Program} {w : World} {K : PySem.W.Frag} {mg : Str → Option Value} {base : Heap} (T : Tx K mg) : Has P w K mg base (L2N.CX P w) 2 "made" ["lay", "holes", "stand"] (sp_made K) := ok_made T
theorem ok_twisting {P : Program} {w : World} {K : PySem.W.Frag} {mg : Str → Option Value} {base : Heap} (T : Tx K mg) : Has P w K mg base CX0 2 "twisting" ["tablet", "turn"] (sp_twisting K) := by
  refine T.d_twisting.has sc_twisting (fun vs H Q E h => ?_) (fun f cdv A outer s H vs Q E hr h => ?_)
  · obtain ⟨_, _, _, rfl, _⟩ := h
    rfl
  · obtain ⟨v, t, c, rfl, hv, q⟩ := h
    refine ⟨_, PSs.nox ((pss_cons (ps_if (pt_cmpR op_eq (pe_ix ix_tup (pv 0) pe_int (fun _ _ => rfl)) pe_str (nomark _)) (pss_one (ps_ret (pe_has (has_advance T) (hr.mono (by decide)) (by rfl) pass0 (pa_cons (pv 1) pa_nil)))) pss_nil) (pss_one (ps_ret (pe_op op_sub pe_int (pe_has (has_advance T) (hr.mono (by decide)) (by rfl) pass0 (pa_cons (pv 1) pa_nil))))))), ?_⟩
    obtain ⟨a, rfl, s⟩ := card_at hv
    refine ⟨_, rfl, a, _, _, _, rfl, rfl, s, rfl, rfl, _, rfl, bb (fun h => ?_) fun h => ?_⟩
    · rw [dec_str] at h
      have e : cTwist t c = adv c := if_pos (of_decide_eq_true h)
      rw [e] at q
      exact ⟨_, rfl, c, rfl, q⟩
    · rw [dec_str] at h
      have e : cTwist t c = 0 - adv c := if_neg (of_decide_eq_false h)
      rw [e] at q
      exact ⟨_, rfl, c, rfl, _, _, rfl, rfl, q⟩

theorem has_twisting {P : Program} {w : World} {K : PySem.W.Frag} {mg : Str → Option Value} {base : Heap} (T : Tx K mg) : Has P w K mg base CX0 2 "twisting" ["tablet", "turn"] (sp_twisting K) := ok_twisting T
theorem ok_turned {P : Program} {w : World} {K : PySem.W.Frag} {mg : Str → Option Value} {base : Heap} (T : Tx K mg) : Has P w K mg base CX0 2 "turned" ["tablet", "turn"] (sp_turned K) := by
  refine T.d_turned.has sc_turned (fun vs H Q E h => ?_) (fun f cdv A outer s H vs Q E hr h => ?_)
  · obtain ⟨_, _, _, rfl, _⟩ := h
    rfl
  · obtain ⟨v, t, c, rfl, hv, q⟩ := h
    refine ⟨_, PSs.nox ((pss_one (ps_ret (pe_tup (pa_cons (pe_ix ix_tup (pv 0) pe_int (fun _ _ => rfl)) (pa_cons (pe_ix ix_tup (pv 0) pe_int (fun _ _ => rfl)) (pa_cons (pe_op op_mod (pe_op op_add (pe_ix ix_tup (pv 0) pe_int (fun _ _ => rfl)) (pe_has (has_advance T) (hr.mono (by decide)) (by rfl) pass0 (pa_cons (pv 1) pa_nil))) pe_int) pa_nil))))))), ?_⟩
    obtain ⟨a, rfl, s⟩ := card_at hv
    refine ⟨_, rfl, a, _, _, _, rfl, rfl, s, rfl, _, rfl, a, _, _, _, rfl, rfl, s, rfl, _, rfl, a, _, _, _, rfl, rfl, s, rfl, _, rfl, c, rfl, _, _, rfl, rfl, _, _, rfl, rfl, (by show (0 : Int) < 4; decide), (by show 3 ≤ sizeLine; decide), fun p hp => q p hp⟩

theorem has_turned {P : Program} {w : World} {K : PySem.W.Frag} {mg : Str → Option Value} {base : Heap} (T : Tx K mg) : Has P w K mg base CX0 2 "turned" ["tablet", "turn"] (sp_turned K) := ok_turned T
theorem ok_drawn_off {P : Program} {w : World} {K : PySem.W.Frag} {mg : Str → Option Value} {base : Heap} (T : Tx K mg) : Has P w K mg base (L2N.CX P w) 2 "drawn_off" ["stage", "row"] (sp_drawn_off K) := by
  refine T.d_drawn_off.has sc_drawn_off (fun vs H Q E h => ?_) (fun f cdv A outer s H vs Q E hr h => ?_)
  · obtain ⟨_, _, _, rfl, _⟩ := h
    rfl
  · obtain ⟨p, s, z, rfl, hs, hok, hf, q1, q0⟩ := h
    refine ⟨_, (pss_cons (ps_set (i := 2) sc_drawn_off.nd rfl (Or.inl rfl) (pe_callTy call_dictD (by rfl) T.m_dict (by decide +kernel) (pa_cons (pe_fld (pv 0) rfl) pa_nil))) (pss_cons (ps_for (passes_of rfl) rfl (pi_items (pe_frz (pe_has (has_taken_by T) (hr.mono (by decide)) (by rfl) pass0 (pa_cons (pe_fld (pv 0) rfl) (pa_cons (pv 1) pa_nil))))) (pg_tup rfl (pgs_cons (pg_name (i := 3) sc_drawn_off.nd rfl (Or.inl rfl)) (pgs_cons (pg_name (i := 4) sc_drawn_off.nd rfl (Or.inl rfl)) pgs_nil))) (pss_cons (ps_if (pt_cmpR op_gt (pv 4) (pe_dget2 (hu_of hr) (pv 2) (pv 3) pe_int ⟨rfl, rfl, rfl, rfl⟩) (nomark _)) (pss_one (L2N.ps_raise rfl (L2N.takes_of rfl rfl rfl rfl) (pm_own T.e_SpoolDry (by rfl)))) pss_nil) (pss_one (ps_dput (hu_of hr) (pv 2) (pv 3) (pe_op op_sub (pe_dget (hu_of hr) (pv 2) (pv 3) (fun _ _ => rfl)) (pv 4)) rfl)))) (pss_one (ps_ret (pv 2))))), ?_⟩
    obtain ⟨dx, a, b, c0, d0, hp, ha, hb, hc0, hd⟩ := hs
    refine ⟨_, rfl, p, _, _, _, _, rfl, hp, T.c_Stage, T.a_lengths, rfl, d0, _, rfl, .inl hd, fun p1 n1 => ?_⟩
    have s1 := same_new (o := .dK (eL s.left)) n1
    refine ⟨_, rfl, p, _, _, _, _, rfl, s1 _ _ hp, T.c_Stage, T.a_cards, rfl, _, rfl, _, s.cards, z, rfl, ⟨dp_mono s1 _ _ ha, hok.cards, hok.n8, hf⟩, fun H2 d2 s2 n2 e2 => ⟨d2, _, rfl, e2, (show True from True.intro), fun od => ⟨d2, od, _, rfl, upd_same, ?_⟩⟩⟩
    have nd : p1 ≠ d2 := ne_of_none upd_same n2
    have s3 : Same H (upd H2 d2 (.frz od (.dK (eL (takenP s.cards z.cps.toList))))) := same_put (s1.trans s2) (s1.free n2)
    have lf : ∀ (l : Lens) (n : Nat) (t : Lens), l.length ≤ n → ∀ l', t.foldl drawOne (some l) = some l' → l'.length ≤ n + t.length := by
      intro l n t
      induction t generalizing l n with
      | nil => intro h l' e; cases e; simpa using h
      | cons x t ih =>
        intro h l' e
        rw [List.foldl_cons] at e
        by_cases g : (gt l x.1).getD 0 < x.2
        · have e1 : drawOne (some l) x = none := if_pos g
          rw [e1, drawn_none] at e
          cases e
        · have e1 : drawOne (some l) x = some (pt l x.1 ((gt l x.1).getD 0 - x.2)) := if_neg g
          rw [e1] at e
          have := ih (pt l x.1 ((gt l x.1).getD 0 - x.2)) (n + 1) (by have := pt_len l x.1 ((gt l x.1).getD 0 - x.2); omega) l' e
          simp
          omega
    have tl : (takenP s.cards z.cps.toList).length ≤ 1000000 := by
      have h1 := taken_len (drw s.cards z.cps.toList) []
      have h2 := drw_len s.cards z.cps.toList hok.cards
      have h3 := hok.n8
      have h4 : (takenP s.cards z.cps.toList).length ≤ ([] : Lens).length + (drw s.cards z.cps.toList).length := h1
      rw [List.length_nil] at h4
      omega
    refine for_it (J := Iti d2 od (eL (takenP s.cards z.cps.toList))) (takenP s.cards z.cps.toList).length (fun i σ H' => (∃ o3 o4, σ = [some (V.ref p), some (V.str z), some (V.ref p1), o3, o4]) ∧ Same H H' ∧ H' d2 = some (.frz od (.dK (eL (takenP s.cards z.cps.toList)))) ∧ ∃ l, ((takenP s.cards z.cps.toList).take i).foldl drawOne (some s.left) = some l ∧ H' p1 = some (.dK (eL l)))
      ⟨⟨_, _, rfl⟩, s3, upd_same, s.left, rfl, by rw [upd_ne nd]; exact s2 _ _ upd_same⟩ (fun i σ H' hi h => ⟨h.2.2.1, by rw [eL_len]; exact hi⟩) (fun σ H' h => ⟨h.2.2.1, by rw [eL_len]; exact Nat.le_refl _⟩) ?_ ?_
    · rintro i σ H3 x H4 hi ⟨⟨o3, o4, rfl⟩, s4, e4, l, hl, hp1⟩ ⟨T1, k, v, hkv, rfl, nT, rfl⟩
      have hq : (takenP s.cards z.cps.toList)[i]? = some (takenP s.cards z.cps.toList)[i] := List.getElem?_eq_getElem hi
      unfold eL at hkv
      rw [List.getElem?_map, hq] at hkv
      cases Option.some.inj hkv
      have sT := same_new (o := .tup [kV (Sum.inr (takenP s.cards z.cps.toList)[i].1), V.int (takenP s.cards z.cps.toList)[i].2]) nT
      have hp1' := sT _ _ hp1
      have ll := lf s.left 1000000 _ hok.few l hl
      rw [List.length_take] at ll
      refine ⟨T1, _, rfl, SqT.of upd_same, rfl, _, _, rfl, _, _, rfl, rfl, ?_⟩
      refine ⟨_, rfl, _, rfl, p1, rfl, .inl ⟨_, .inl hp1'⟩, _, rfl, _, gt_d hp1', ?_⟩
      rw [getD_map]
      refine ⟨_, _, rfl, rfl, _, rfl, bb (fun g => ?_) fun g => ?_⟩
      · have g2 := of_decide_eq_true g
        refine q0 ?_ _ (s4.trans sT)
        show (takenP s.cards z.cps.toList).foldl drawOne (some s.left) = none
        rw [fold_split _ hq, hl, show drawOne (some l) (takenP s.cards z.cps.toList)[i] = none from if_pos g2, drawn_none]
      · have g2 := of_decide_eq_false g
        have hpos : 0 < (takenP s.cards z.cps.toList)[i].2 := taken_pos _ (drw_pos _ _) [] (fun q m => absurd m (by simp)) _ (List.getElem_mem hi)
        cases hg : gt l (takenP s.cards z.cps.toList)[i].1 with
        | none =>
          rw [hg] at g2
          exact absurd hpos g2
        | some v =>
          rw [hg] at g2
          have hgd := gt_d (k := (takenP s.cards z.cps.toList)[i].1) hp1'
          rw [hg] at hgd
          have hst : drawOne (some l) (takenP s.cards z.cps.toList)[i] = some (pt l (takenP s.cards z.cps.toList)[i].1 (v - (takenP s.cards z.cps.toList)[i].2)) := by
            show (if (gt l _).getD 0 < _ then none else some (pt l _ ((gt l _).getD 0 - _))) = _
            rw [hg, if_neg g2]
            rfl
          refine ⟨_, rfl, _, rfl, p1, _, rfl, hgd, _, rfl, _, _, rfl, rfl, _, rfl, _, rfl, p1, _, rfl, pt_d hp1' (by rw [sizeLine_eq]; omega), ⟨_, _, rfl⟩, ?_, ?_, _, (by rw [fold_at _ hq, hl, hst]), upd_same⟩
          · exact same_put (s4.trans sT) n1
          · rw [upd_ne (Ne.symm nd)]
            exact sT _ _ e4
    · rintro σ H3 ⟨⟨o3, o4, rfl⟩, s4, e4, l, hl, hp1⟩
      rw [List.take_length] at hl
      exact ⟨_, rfl, q1 l hl _ p1 s4 n1 hp1⟩

theorem has_drawn_off {P : Program} {w : World} {K : PySem.W.Frag} {mg : Str → Option Value} {base : Heap} (T : Tx K mg) : Has P w K mg base (L2N.CX P w) 2 "drawn_off" ["stage", "row"] (sp_drawn_off K) := ok_drawn_off T
theorem ok_read_spools {P : Program} {w : World} {K : PySem.W.Frag} {mg : Str → Option Value} {base : Heap} (T : Tx K mg) : Has P w K mg base (L2N.CX P w) 2 "read_spools" ["lines", "at"] (sp_read_spools K) := by
  refine T.d_read_spools.has sc_read_spools (fun vs H Q E h => ?_) (fun f cdv A outer s H vs Q E hr h => ?_)
  · obtain ⟨_, _, _, rfl, _⟩ := h
    rfl
  · obtain ⟨v, L, i, rfl, hl, hi, q1, q0⟩ := h
    refine ⟨_, (pss_cons (ps_set (i := 2) sc_read_spools.nd rfl (Or.inl rfl) pe_dnewK) (pss_cons (ps_set (i := 3) sc_read_spools.nd rfl (Or.inl rfl) pe_str) (pss_cons (ps_while (passes_of rfl) (pt_val (pe_has (has_begun T) (hr.mono (by decide)) (by rfl) pass0 (pa_cons (pv 0) (pa_cons (pv 1) (pa_cons pe_str pa_nil))))) (pss_cons (ps_if (PW.pt (pw_or (pt_cmpR op_ne (pe_callB call_len_seq (by rfl) T.m_len PySem.boot_len (pa_cons (pe_ix ix_list (pv 0) (pv 1) (fun _ _ => rfl)) pa_nil)) pe_int (nomark _)) (pw_or (pt_not (pt_val (pe_has (has_is_colour T) (hr.mono (by decide)) (by rfl) pass0 (pa_cons (pe_ix ix_list (pe_ix ix_list (pv 0) (pv 1) (fun _ _ => rfl)) pe_int (fun _ _ => rfl)) pa_nil)))) (pw_or1 (pt_cmpR op_le_str (pe_ix ix_list (pe_ix ix_list (pv 0) (pv 1) (fun _ _ => rfl)) pe_int (fun _ _ => rfl)) (pv 3) (nomark _)))))) (pss_one (L2N.ps_raise rfl (L2N.takes_of rfl rfl rfl rfl) (pm_own T.e_BadText (by rfl)))) pss_nil) (pss_cons (ps_set (i := 3) sc_read_spools.nd rfl (Or.inl rfl) (pe_ix ix_list (pe_ix ix_list (pv 0) (pv 1) (fun _ _ => rfl)) pe_int (fun _ _ => rfl))) (pss_cons (ps_dput (hu_of hr) (pv 2) (pv 3) (pe_has (has_number_of T) (hr.mono (by decide)) (by rfl) (passesN (L2N.takes_of rfl rfl rfl rfl) (fun _ _ _ _ q => q)) (pa_cons (pe_ix ix_list (pe_ix ix_list (pv 0) (pv 1) (fun _ _ => rfl)) pe_int (fun _ _ => rfl)) pa_nil)) rfl) (pss_one (ps_set (i := 1) sc_read_spools.nd rfl (Or.inl rfl) (pe_op op_add (pv 1) pe_int))))))) (pss_one (ps_ret (pe_tup (pa_cons (pv 2) (pa_cons (pv 1) pa_nil)))))))), ?_⟩
    have hl0 := hl
    obtain ⟨hv, hne, hlen, hsz⟩ := hl
    obtain ⟨a, xs, rfl, sq, hx⟩ := dp_lst hv
    intro p1 n1
    have xl : xs.length = L.length := by rw [dpA_len hx, List.length_map]
    refine ⟨fun m σ H' => ∃ j last acc, m = L.length - j ∧ i ≤ j ∧ j ≤ L.length ∧ σ = [some (V.ref a), some (V.int (j : Nat)), some (V.ref p1), some (V.str last)] ∧ Same H H' ∧ H' p1 = some (.dK (eL acc)) ∧ acc.length ≤ j ∧ spoolsM (L.drop j) last acc = spoolsM (L.drop i) "" [],
      ⟨_, i, "", [], rfl, Nat.le_refl _, hi, rfl, same_new n1, upd_same, Nat.zero_le _, rfl⟩, ?_⟩
    rintro m σ H1 ⟨j, last, acc, rfl, hij, hj, rfl, s1, e1, la, eq⟩
    refine ⟨_, rfl, _, rfl, .ref a, L, j, "spool", rfl, lines_mono hl0 s1, _, rfl, bb (fun g => ?_) fun g => ?_⟩
    · have g2 := of_decide_eq_true g
      cases hw : L[j]? with
      | none => rw [hw] at g2; cases g2
      | some x =>
      rw [hw] at g2
      have g3 : x.head? = some "spool" := g2
      obtain ⟨hjl, hwe⟩ := List.getElem?_eq_some_iff.mp hw
      have hxm : x ∈ L := List.mem_of_getElem? hw
      obtain ⟨b, hb, sb⟩ := line_at (dpA_mono s1 _ _ hx) hw
      have sq1 := s1.seq sq
      have step : spoolsM (L.drop i) "" [] = match spoolM x last with | some q => spoolsM (L.drop (j + 1)) q.1 (pt acc q.1 q.2) | none => none := by
        rw [← eq, drop_at hw]
        exact if_pos g3
      have bad : spoolM x last = none → ∀ {H2 : Hp}, Same H H2 → E (.ref (He.ga K "BadText")) none H2 := fun e _ s => q0 (by rw [step, e]) _ s
      refine ⟨fun σ' H' => ∃ j2 last2 acc2, j2 = j + 1 ∧ j2 ≤ L.length ∧ σ' = [some (V.ref a), some (V.int (j2 : Nat)), some (V.ref p1), some (V.str last2)] ∧ Same H H' ∧ H' p1 = some (.dK (eL acc2)) ∧ acc2.length ≤ j2 ∧ spoolsM (L.drop j2) last2 acc2 = spoolsM (L.drop i) "" [],
        fun σ' H' ⟨j2, l2, a2, k1, k2, k3, k4, k5, k6, k7⟩ => ⟨L.length - j2, by omega, j2, l2, a2, rfl, by omega, k2, k3, k4, k5, k6, k7⟩, ?_⟩
      refine ⟨_, rfl, _, rfl, a, _, _, _, rfl, rfl, sq1, atI_nat hb, b, _, rfl, .inl sb, rfl, _, rfl, bb (fun k => ?_) fun k => ?_⟩
      · rw [dec_i, Bool.not_eq_true', decide_eq_false_iff_not] at k
        exact iteT (bad (spoolM_len (fun z => k (by rw [List.length_map, z]; rfl))) s1)
      rw [dec_i, Bool.not_eq_false', decide_eq_true_eq, List.length_map] at k
      obtain ⟨w0, c, n, rfl⟩ := three (show x.length = 3 by omega)
      have cz := hsz _ hxm c (by simp)
      have nz := hsz _ hxm n (by simp)
      have h16 : ∀ {z : Str}, z.length ≤ 1000000 → z.length ≤ sizeLine := fun h => by rw [sizeLine_eq]; omega
      refine ⟨_, rfl, _, rfl, a, _, _, _, rfl, rfl, sq1, atI_nat hb, b, _, _, _, rfl, rfl, sb, atI_nat (j := 1) (v := V.str c) rfl, c, rfl, h16 cz, _, rfl, bb (fun k2 => ?_) fun k2 => ?_⟩
      · rw [Bool.not_eq_true'] at k2
        refine iteT (bad ?_ s1)
        show (if isCol c = true ∧ ltS last c = true then (num n).map fun k => (c, k) else none) = none
        rw [if_neg (fun z => by rw [z.1] at k2; cases k2)]
      rw [Bool.not_eq_false'] at k2
      refine ⟨_, rfl, _, rfl, a, _, _, _, rfl, rfl, sq1, atI_nat hb, b, _, _, _, rfl, rfl, sb, atI_nat (j := 1) (v := V.str c) rfl, _, rfl, _, _, rfl, rfl, _, rfl, bb (fun k3 => ?_) fun k3 => ?_⟩
      · rw [Bool.not_eq_true'] at k3
        refine bad ?_ s1
        show (if isCol c = true ∧ ltS last c = true then (num n).map fun k => (c, k) else none) = none
        rw [if_neg (fun z => by have z2 := z.2; unfold ltS at z2; rw [k3] at z2; cases z2)]
      rw [Bool.not_eq_false'] at k3
      have sp : spoolM [w0, c, n] last = (num n).map fun k => (c, k) := if_pos ⟨k2, k3⟩
      refine ⟨_, rfl, _, rfl, a, _, _, _, rfl, rfl, sq1, atI_nat hb, b, _, _, _, rfl, rfl, sb, atI_nat (j := 1) (v := V.str c) rfl, ?_⟩
      refine ⟨_, rfl, _, rfl, a, _, _, _, rfl, rfl, sq1, atI_nat hb, b, _, _, _, rfl, rfl, sb, atI_nat (j := 2) (v := V.str n) rfl, n, rfl, h16 nz, fun k hk => ?_, fun hk H2 s2 => bad (by rw [sp, hk]; rfl) (s1.trans s2)⟩
      refine ⟨_, rfl, _, rfl, p1, _, rfl, pt_d e1 (by rw [sizeLine_eq]; omega), _, rfl, _, _, rfl, rfl, j + 1, c, pt acc c k, rfl, hjl, rfl, same_put s1 n1, upd_same, ?_, ?_⟩
      · have := pt_len acc c k
        omega
      · rw [step, sp, hk]
        rfl
    · have g2 := of_decide_eq_false g
      have st : spoolsM (L.drop j) last acc = some (acc, L.drop j) := spoolsM_stop (by rw [List.getElem?_drop, Nat.add_zero]; exact g2)
      refine ⟨_, rfl, _, rfl, (by show 2 ≤ sizeLine; decide), fun p np => ?_⟩
      have sp := same_new (o := .tup [V.ref p1, V.int (j : Nat)]) np
      refine q1 acc (L.drop j) (by rw [← eq, st]) _ p p1 (s1.trans sp) ?_ n1 (sp _ _ e1)
      have e2 : L.length - (L.drop j).length = j := by rw [List.length_drop]; omega
      rw [e2]
      exact SqT.of upd_same

theorem has_read_spools {P : Program} {w : World} {K : PySem.W.Frag} {mg : Str → Option Value} {base : Heap} (T : Tx K mg) : Has P w K mg base (L2N.CX P w) 2 "read_spools" ["lines", "at"] (sp_read_spools K) := ok_read_spools T
theorem ok_l_holes {P : Program} {w : World} {K : PySem.W.Frag} {mg : Str → Option Value} {base : Heap} (T : Tx K mg) : Has P w K mg base CX0 2 "_law_holes" ["_law_cell"] sp_l_holes := by
  refine T.d_l_holes.has sc_l_holes (fun vs H Q E h => ?_) (fun f cdv A outer s H vs Q E hr h => ?_)
  · obtain ⟨_, rfl, _⟩ := h
    rfl
  · obtain ⟨c, rfl, q⟩ := h
    refine ⟨_, PSs.nox ((pss_cons (ps_set (i := 1) sc_l_holes.nd rfl (Or.inl rfl) (pe_ix ix_list (pe_lst (pa_cons pe_int (pa_cons pe_int (pa_cons pe_int (pa_cons pe_int (pa_cons pe_int pa_nil)))))) (pe_op op_mod (pv 0) pe_int) (fun _ _ => rfl))) (pss_cons (ps_set (i := 2) sc_l_holes.nd rfl (Or.inl rfl) (pe_has (has__law_row T) (hr.mono (by decide)) (by rfl) pass0 (pa_cons (pe_op op_fdiv (pv 0) pe_int) (pa_cons pe_int (pa_cons pe_int pa_nil))))) (pss_cons (ps_set (i := 3) sc_l_holes.nd rfl (Or.inl rfl) pe_str) (pss_cons (ps_for PassesOwn.never rfl (pi_list (pe_slice sl_list (pv 2) po_none (po_some pe_int))) (pg_name (i := 4) sc_l_holes.nd rfl (Or.inl rfl)) (pss_one (ps_set (i := 3) sc_l_holes.nd rfl (Or.inl rfl) (pe_op op_add_str (pv 3) (pe_ix ix_str pe_str (pe_op op_mod (pe_op op_add (pe_ix ix_list (pv 2) pe_int (fun _ _ => rfl)) (pe_op op_mul (pe_op op_mod (pv 4) (pv 1)) pe_int)) pe_int) (fun _ _ => rfl)))))) (pss_one (ps_ret (pv 3)))))))), ?_⟩
    have five_ : ∃ n, atI ([V.int 1, V.int 2, V.int 3, V.int 4, V.int 26]) (c % 5) = some (V.int n) ∧ 0 < n ∧ n ≤ 26 := by
      have h : c % 5 = 0 ∨ c % 5 = 1 ∨ c % 5 = 2 ∨ c % 5 = 3 ∨ c % 5 = 4 := by omega
      rcases h with e | e | e | e | e <;> rw [e]
      · exact ⟨1, rfl, by decide, by decide⟩
      · exact ⟨2, rfl, by decide, by decide⟩
      · exact ⟨3, rfl, by decide, by decide⟩
      · exact ⟨4, rfl, by decide, by decide⟩
      · exact ⟨26, rfl, by decide, by decide⟩
    obtain ⟨n, hn, n0, n1⟩ := five_
    refine ⟨(by show 5 ≤ sizeLine; decide), fun p1 np1 => ⟨_, rfl, _, _, rfl, rfl, (by show (0 : Int) < 5; decide), p1, _, _, _, rfl, rfl, SqL.of upd_same, hn, ?_⟩⟩
    have s1 := same_new (o := .lst [V.int 1, V.int 2, V.int 3, V.int 4, V.int 26]) np1
    refine ⟨_, rfl, _, _, rfl, rfl, ⟨by decide, by decide⟩, _, 5, 26, rfl, by decide, by decide, by decide, fun H2 p2 ds s2 np2 e2 l2 r2 => ?_⟩
    have s12 := s1.trans s2
    have d4 : (ds.map V.int)[4]? = some (V.int (ds[4]'(by omega))) := by rw [List.getElem?_map, List.getElem?_eq_getElem (by omega)]; rfl
    refine ⟨_, rfl, _, rfl, p2, _, rfl, SqL.of e2, fun p3 np3 => ⟨p3, rfl, ⟨_, SqL.of upd_same⟩, ?_⟩⟩
    have s3 := s12.trans (same_new (o := .lst (cutV (ds.map V.int) none (some 4))) np3)
    have hcut : cutV (ds.map V.int) none (some ((4 : Nat) : Int)) = (ds.take 4).map V.int := by
      unfold cutV
      rw [HT.sIx_none, HT.sIx_nat, List.drop_zero, List.length_map, List.map_take]
      congr 1
      omega
    have hcut : cutV (ds.map V.int) none (some 4) = (ds.take 4).map V.int := hcut
    have ep2 := (same_new (o := .lst (cutV (ds.map V.int) none (some 4))) np3) _ _ e2
    refine for_list (xs := cutV (ds.map V.int) none (some 4)) (fun i σ H' => (∃ (z : Str) (o4 : Option V), z.length = i ∧ z.cps.toList.all low = true ∧ σ = [some (V.int c), some (V.int n), some (V.ref p2), some (V.str z), o4]) ∧ Same H H' ∧ H' p2 = some (.lst (ds.map V.int)) ∧ H' p3 = some (.lst (cutV (ds.map V.int) none (some 4))))
      ⟨⟨"", _, rfl, rfl, rfl⟩, s3, ep2, upd_same⟩ (fun i σ H' _ h => SqL.of h.2.2.2) ?_ ?_
    · rintro i x σ H3 hx ⟨⟨z, o4, lz, az, rfl⟩, s4, e4, e5⟩
      rw [hcut, List.getElem?_map] at hx
      obtain ⟨d, hd, rfl⟩ := Option.map_eq_some_iff.mp hx
      have hdm : d ∈ ds := List.mem_of_mem_take (List.mem_of_getElem? hd)
      have hi : i < 4 := by
        have := (List.getElem?_eq_some_iff.mp hd).1
        rw [List.length_take] at this
        omega
      have rd := r2 d hdm
      have rd4 := r2 _ (List.getElem_mem (by omega : 4 < ds.length))
      have abl : (PySem.Str.ofString "abcdefghijklmnopqrstuvwxyz").cps.toList.length = 26 := by decide +kernel
      have hdn : 0 ≤ d % n ∧ d % n < n := ⟨Int.emod_nonneg _ (by omega), Int.emod_lt_of_pos _ n0⟩
      obtain ⟨cc, hcc, ecc⟩ := hole_at (z := PySem.Str.ofString "abcdefghijklmnopqrstuvwxyz") (i := (ds[4]'(by omega) + d % n * 7) % 26) abl (by omega) (show _ < ((26 : Nat) : Int) by omega)
      refine ⟨_, rfl, _, rfl, p2, _, _, _, rfl, rfl, SqL.of e4, atI_nat (j := 4) d4, _, rfl, _, rfl, _, _, rfl, rfl, n0, _, _, rfl, rfl, .inl ⟨by omega, by omega⟩, _, _, rfl, rfl, _, _, rfl, rfl, (by show (0 : Int) < 26; decide), _, _, cc, rfl, rfl, len_size abl (by decide), hcc, _, _, rfl, rfl, (by rw [lz, sizeLine_eq]; show i + 1 ≤ _; omega), ⟨_, _, ?_, ?_, rfl⟩, s4, e4, e5⟩
      · rw [app_len, lz]
        rfl
      · show (z.cps ++ #[cc]).toList.all low = true
        rw [Array.toList_append, List.all_append, az]
        have hm : cc ∈ (PySem.Str.ofString "abcdefghijklmnopqrstuvwxyz").cps.toList := by
          unfold atI at hcc
          cases hx : ixN (PySem.Str.ofString "abcdefghijklmnopqrstuvwxyz").cps.toList.length ((ds[4]'(by omega) + d % n * 7) % 26) with
          | none => rw [hx] at hcc; cases hcc
          | some j => rw [hx] at hcc; exact List.mem_of_getElem? hcc
        simp [(abc_mem cc).mp hm]
    · rintro σ H3 ⟨⟨z, o4, lz, az, rfl⟩, s4, e4, e5⟩
      rw [hcut, List.length_map, List.length_take] at lz
      exact ⟨_, rfl, q _ z s4 (by omega) az⟩

theorem has__law_holes {P : Program} {w : World} {K : PySem.W.Frag} {mg : Str → Option Value} {base : Heap} (T : Tx K mg) : Has P w K mg base CX0 2 "_law_holes" ["_law_cell"] sp_l_holes := ok_l_holes T
theorem ok_l_spools {P : Program} {w : World} {K : PySem.W.Frag} {mg : Str → Option Value} {base : Heap} (T : Tx K mg) : Has P w K mg base CX0 2 "_law_spools" ["_law_draft_here", "_law_cell"] (sp_l_spools K) := by
  refine T.d_l_spools.has sc_l_spools (fun vs H Q E h => ?_) (fun f cdv A outer s H vs Q E hr h => ?_)
  · obtain ⟨_, _, _, rfl, _⟩ := h
    rfl
  · obtain ⟨v, c, cs, rfl, hv, hok, h8, q⟩ := h
    refine ⟨_, PSs.nox ((pss_cons (ps_set (i := 2) sc_l_spools.nd rfl (Or.inl rfl) pe_dnewK) (pss_cons (ps_set (i := 3) sc_l_spools.nd rfl (Or.inl rfl) (pe_has (has__law_row T) (hr.mono (by decide)) (by rfl) pass0 (pa_cons (pe_op op_fdiv (pv 1) pe_int) (pa_cons pe_int (pa_cons pe_int pa_nil))))) (pss_cons (ps_set (i := 4) sc_l_spools.nd rfl (Or.inl rfl) pe_int) (pss_cons (ps_for PassesOwn.never rfl (pi_list (pv 0)) (pg_name (i := 5) sc_l_spools.nd rfl (Or.inl rfl)) (pss_one (ps_for PassesOwn.never rfl (pi_str (pe_ix ix_tup (pv 5) pe_int (fun _ _ => rfl))) (pg_name (i := 6) sc_l_spools.nd rfl (Or.inl rfl)) (pss_cons (ps_set (i := 7) sc_l_spools.nd rfl (Or.inl rfl) (pe_cmpR op_eq (pe_op op_mod (pe_ix ix_list (pv 3) (pv 4) (fun _ _ => rfl)) pe_int) pe_int (nomark _))) (pss_cons (ps_if (PW.pt (pw_and (pt_cmp (pc_dnotin (hu_of hr) (pv 6) (pv 2))) (pw_and1 (pt_not (pt_val (pv 7)))))) (pss_cons (ps_dput (hu_of hr) (pv 2) (pv 6) (pe_ix ix_list (pv 3) (pv 4) (fun _ _ => rfl)) rfl) (pss_one (ps_if (pt_cmpR op_eq (pe_op op_mod (pv 1) pe_int) pe_int (nomark _)) (pss_one (ps_dput (hu_of hr) (pv 2) (pv 6) pe_int rfl)) pss_nil))) pss_nil) (pss_one (ps_set (i := 4) sc_l_spools.nd rfl (Or.inl rfl) (pe_op op_add (pv 4) pe_int)))))))) (pss_cons (ps_if (pt_cmpR op_eq (pe_op op_mod (pe_ix ix_list (pv 3) pe_int (fun _ _ => rfl)) pe_int) pe_int (nomark _)) (pss_one (ps_dput (hu_of hr) (pv 2) pe_str (pe_op op_mul (pe_ix ix_list (pv 3) pe_int (fun _ _ => rfl)) (pe_callTy call_int1 (by rfl) T.m_int (by decide +kernel) (pa_cons (pe_cmpR op_gt (pe_op op_mod (pe_ix ix_list (pv 3) pe_int (fun _ _ => rfl)) pe_int) pe_int (nomark _)) pa_nil))) rfl)) pss_nil) (pss_one (ps_ret (pv 2))))))))), ?_⟩
    obtain ⟨a, xs, rfl, sq, hc⟩ := dp_lst hv
    have xl : xs.length = cs.length := by rw [dpA_len hc, List.length_map]
    intro p1 n1
    have s1 := same_new (o := .dK []) n1
    refine ⟨_, rfl, _, _, rfl, rfl, ⟨by decide, by decide⟩, _, 40, 997, rfl, by decide, by decide, by decide, fun H2 p2 ds s2 np2 e2 l2 r2 => ?_⟩
    have s12 := s1.trans s2
    have n12 : p1 ≠ p2 := ne_of_none upd_same np2
    have e1 := s2 _ _ (upd_same : (upd H p1 (.dK [])) p1 = _)
    have dk : ∀ k, k < 40 → ∃ d, (ds.map V.int)[k]? = some (V.int d) ∧ 0 ≤ d ∧ d < 997 := fun k hk => by
      have hk2 : k < ds.length := by omega
      exact ⟨ds[k], by rw [List.getElem?_map, List.getElem?_eq_getElem hk2]; rfl, r2 _ (List.getElem_mem hk2)⟩
    have put : ∀ {l : Lens} {k : Str} {v : Int} {n : Nat}, l.length ≤ n → (∀ p ∈ l, 0 ≤ p.2 ∧ p.2 ≤ 999999999) → 0 ≤ v → v ≤ 999999999 → (pt l k v).length ≤ n + 1 ∧ ∀ p ∈ pt l k v, 0 ≤ p.2 ∧ p.2 ≤ 999999999 := fun {l k v n} hl hp h0 h1 => ⟨by have := pt_len l k v; omega, fun p m => by
      rcases pt_mem m with m | m
      · exact hp p m
      · rw [m]; exact ⟨h0, h1⟩⟩
    refine ⟨_, rfl, a, rfl, ⟨_, s12.seq sq⟩, for_list (xs := xs) (fun i σ H' => (∃ o5 o6 o7, σ = [some (V.ref a), some (V.int c), some (V.ref p1), some (V.ref p2), some (V.int (4 * i : Nat)), o5, o6, o7]) ∧ Same H H' ∧ H' p2 = some (.lst (ds.map V.int)) ∧ ∃ l, H' p1 = some (.dK (eL l)) ∧ l.length ≤ 4 * i ∧ ∀ p ∈ l, 0 ≤ p.2 ∧ p.2 ≤ 999999999)
      ⟨⟨_, _, _, rfl⟩, s12, e2, [], e1, Nat.le_refl _, fun p m => absurd m (by simp)⟩ (fun i σ H' _ h => h.2.1.seq sq) ?_ ?_⟩
    · rintro i x σ H3 hx ⟨⟨o5, o6, o7, rfl⟩, s3, e3, l, el, ll, lp⟩
      obtain ⟨t, ht, hxt⟩ := card_get hc hx
      obtain ⟨ax, rfl, sx⟩ := card_at (dp_mono s3 _ _ hxt)
      have sx0 : SqT K H ax [.str t.1, .str t.2.1, .int t.2.2] := by
        obtain ⟨ay, e, sy⟩ := card_at hxt
        cases e
        exact sy
      obtain ⟨o1', o2', o3', o4', o5'⟩ := cardOk_parts (hok t (List.mem_of_getElem? ht))
      have hsz : t.2.1.cps.size = 4 := by rw [← Array.length_toList]; exact o2'
      have hi : i < 8 := by have := (List.getElem?_eq_some_iff.mp hx).1; omega
      refine ⟨_, rfl, ax, _, _, _, rfl, rfl, sx, atI_nat (j := 1) (v := V.str t.2.1) rfl, t.2.1, rfl, for_it (J := Its t.2.1) 4 (fun j σ H' => (∃ o6 o7, σ = [some (V.ref a), some (V.int c), some (V.ref p1), some (V.ref p2), some (V.int (4 * i + j : Nat)), some (V.ref ax), o6, o7]) ∧ Same H H' ∧ H' p2 = some (.lst (ds.map V.int)) ∧ ∃ l, H' p1 = some (.dK (eL l)) ∧ l.length ≤ 4 * i + j ∧ ∀ p ∈ l, 0 ≤ p.2 ∧ p.2 ≤ 999999999)
        ⟨⟨_, _, rfl⟩, s3, e3, l, el, ll, lp⟩ (fun j σ H' hj h => (show j < t.2.1.cps.size by omega)) (fun σ H' h => (show t.2.1.cps.size ≤ 4 by omega)) ?_ ?_⟩
      · rintro j σ H4 x H5 hj ⟨⟨o6, o7, rfl⟩, s4, e4, l, el, ll, lp⟩ ⟨rfl, cc, hcc, rfl⟩
        obtain ⟨d, hd, d0, d1⟩ := dk (4 * i + j) (by omega)
        refine ⟨_, rfl, _, rfl, p2, _, _, _, rfl, rfl, SqL.of e4, atI_nat hd, _, _, rfl, rfl, (by show (0 : Int) < 23; decide), rfl, ?_⟩
        have step : ∀ {H6 : Hp} {l2 : Lens}, Same H H6 → H6 p2 = some (.lst (ds.map V.int)) → H6 p1 = some (.dK (eL l2)) → l2.length ≤ 4 * i + j + 1 → (∀ p ∈ l2, 0 ≤ p.2 ∧ p.2 ≤ 999999999) → Same H H6 ∧ H6 p2 = some (.lst (ds.map V.int)) ∧ ∃ l, H6 p1 = some (.dK (eL l)) ∧ l.length ≤ 4 * i + (j + 1) ∧ ∀ p ∈ l, 0 ≤ p.2 ∧ p.2 ≤ 999999999 := fun {H6 l2} h1 h2 h3 h4 h5 => ⟨h1, h2, l2, h3, by omega, h5⟩
        have inc : ((4 * i + j : Nat) : Int) + 1 = ((4 * i + (j + 1) : Nat) : Int) := by omega
        refine ⟨_, rfl, _, rfl, p1, _, rfl, gt_d el, _, rfl, bb (fun g => ⟨_, rfl, _, rfl, bb (fun g2 => ?_) fun g2 => ?_⟩) fun g => ?_⟩
        · refine ⟨_, rfl, _, rfl, p2, _, _, _, rfl, rfl, SqL.of e4, atI_nat hd, _, rfl, _, rfl, p1, _, rfl, pt_d el (by rw [sizeLine_eq]; omega), ?_⟩
          obtain ⟨q1, q2⟩ := put (k := sg cc) ll lp d0 (by omega)
          have s5 := same_put (o := .dK (eL (pt l (sg cc) d))) s4 n1
          have e5 : (upd H5 p1 (.dK (eL (pt l (sg cc) d)))) p2 = _ := (upd_ne (Ne.symm n12)).trans e4
          refine ⟨_, rfl, _, _, rfl, rfl, (by show (0 : Int) < 3; decide), rfl, _, rfl, bb (fun g3 => ?_) fun g3 => ?_⟩
          · have q3 := put (k := sg cc) (v := 999999999) (n := 4 * i + j) (l := l) ll lp (by decide) (by decide)
            have e6 : ∃ l3 : Lens, eL (pt (pt l (sg cc) d) (sg cc) 999999999) = eL l3 ∧ l3.length ≤ 4 * i + j + 1 ∧ ∀ p ∈ l3, 0 ≤ p.2 ∧ p.2 ≤ 999999999 := by
              refine ⟨_, rfl, ?_, fun p m => ?_⟩
              · have : gt (pt l (sg cc) d) (sg cc) = some d := (gt_pt _ _ _ _).trans (if_pos rfl)
                have h := congrArg List.length (pt_keys (v := 999999999) this)
                rw [List.length_map, List.length_map] at h
                omega
              · rcases pt_mem m with m | m
                · exact q2 p m
                · rw [m]; exact ⟨(by show (0 : Int) ≤ 999999999; decide), (by show (999999999 : Int) ≤ 999999999; decide)⟩
            obtain ⟨l3, el3, ll3, lp3⟩ := e6
            refine ⟨_, rfl, _, rfl, p1, _, rfl, pt_d upd_same (show (pt l (sg cc) d).length < sizeLine by rw [sizeLine_eq]; omega), _, rfl, _, _, rfl, rfl, ⟨_, _, by show [some (V.ref a), some (V.int c), some (V.ref p1), some (V.ref p2), some (V.int (((4 * i + j : Nat) : Int) + 1)), some (V.ref ax), _, _] = _; rw [inc]⟩, step (l2 := l3) (same_put s5 n1) ((upd_ne (Ne.symm n12)).trans e5) (upd_same.trans (congrArg (fun e => some (HO.dK e)) el3)) ll3 lp3⟩
          · exact ⟨_, rfl, _, _, rfl, rfl, ⟨_, _, by show [some (V.ref a), some (V.int c), some (V.ref p1), some (V.ref p2), some (V.int (((4 * i + j : Nat) : Int) + 1)), some (V.ref ax), _, _] = _; rw [inc]⟩, step (l2 := pt l (sg cc) d) s5 e5 upd_same q1 q2⟩
        all_goals
          exact ⟨_, rfl, _, _, rfl, rfl, ⟨_, _, by show [some (V.ref a), some (V.int c), some (V.ref p1), some (V.ref p2), some (V.int (((4 * i + j : Nat) : Int) + 1)), some (V.ref ax), _, _] = _; rw [inc]⟩, step s4 e4 el (by omega) lp⟩
      · rintro σ H4 ⟨⟨o6, o7, rfl⟩, s4, e4, l, el, ll, lp⟩
        have inc : ((4 * i + 4 : Nat) : Int) = ((4 * (i + 1) : Nat) : Int) := by omega
        exact ⟨⟨_, _, _, by rw [inc]⟩, s4, e4, l, el, by omega, lp⟩
    · rintro σ H3 ⟨⟨o5, o6, o7, rfl⟩, s3, e3, l, el, ll, lp⟩
      obtain ⟨d39, h39, a0, a1⟩ := dk 39 (by decide)
      obtain ⟨d38, h38, b0, b1⟩ := dk 38 (by decide)
      refine ⟨_, rfl, p2, _, _, _, rfl, rfl, SqL.of e3, atI_nat (j := 39) h39, _, _, rfl, rfl, (by show (0 : Int) < 2; decide), rfl, _, rfl, bb (fun g => ?_) fun g => ?_⟩
      · refine ⟨_, rfl, p2, _, _, _, rfl, rfl, SqL.of e3, atI_nat (j := 38) h38, _, rfl, p2, _, _, _, rfl, rfl, SqL.of e3, atI_nat (j := 38) h38, _, _, rfl, rfl, (by show (0 : Int) < 3; decide), _, _, rfl, rfl, .inr ⟨_, rfl, _, _, rfl, rfl, .inl ⟨by omega, by omega⟩, _, rfl, p1, _, rfl, pt_d el (by rw [sizeLine_eq]; omega), ?_⟩⟩
        have val : 0 ≤ d38 * (if decide (0 < d38 % 3) = true then (1 : Int) else 0) ∧ d38 * (if decide (0 < d38 % 3) = true then (1 : Int) else 0) ≤ 999999999 := by
          split <;> omega
        obtain ⟨q1, q2⟩ := put (k := "q") ll lp val.1 val.2
        exact ⟨_, rfl, q _ p1 _ (same_put s3 n1) n1 upd_same ⟨by omega, q2⟩⟩
      · exact ⟨_, rfl, q _ p1 l s3 n1 el ⟨by omega, lp⟩⟩

theorem has__law_spools {P : Program} {w : World} {K : PySem.W.Frag} {mg : Str → Option Value} {base : Heap} (T : Tx K mg) : Has P w K mg base CX0 2 "_law_spools" ["_law_draft_here", "_law_cell"] (sp_l_spools K) := ok_l_spools T
theorem ok_l_turns {P : Program} {w : World} {K : PySem.W.Frag} {mg : Str → Option Value} {base : Heap} (T : Tx K mg) : Has P w K mg base CX0 2 "_law_turns" ["_law_cell", "_law_many"] sp_l_turns := by
  refine T.d_l_turns.has sc_l_turns (fun vs H Q E h => ?_) (fun f cdv A outer s H vs Q E hr h => ?_)
  · obtain ⟨_, _, rfl, _⟩ := h
    rfl
  · obtain ⟨c, n, rfl, hn, q⟩ := h
    refine ⟨_, PSs.nox ((pss_cons (ps_if (pt_cmpR op_eq (pe_op op_mod (pv 0) pe_int) pe_int (nomark _)) (pss_one (ps_ret (pe_op op_repS (pe_ix ix_str pe_str (pe_op op_mod (pe_op op_fdiv (pv 0) pe_int) pe_int) (fun _ _ => rfl)) (pv 1)))) pss_nil) (pss_one (ps_ret (pe_join pe_str (pe_lc (own := [("_law_d", 2)]) (g := (gName 2)) (tt := tYes) rfl sc_l_turns.nd (pi_list (pe_has (has__law_row T) (hr.mono (by decide)) (by rfl) pass0 (pa_cons (pe_op op_fdiv (pv 0) pe_int) (pa_cons (pv 1) (pa_cons pe_int pa_nil))))) (blkOk_by (own := [("_law_d", 2)]) (N := N_l_turns) (sc := defScope s_l_turns) (by decide +kernel)) (fun _ _ _ _ _ => (pg_name (i := 2) sc_l_turns.nd rfl (Or.inl rfl))) (fun _ _ _ _ _ => pts_nil) (fun _ _ _ _ _ => (pe_ix ix_str pe_str (pv 2) (fun _ _ => rfl))))))))), ?_⟩
    have fb : ∀ i : Int, 0 ≤ i → i < 3 → ∃ d, atI (PySem.Str.ofString "fbi").cps.toList i = some d := fun i h0 h1 => by
      obtain ⟨d, hd, _⟩ := hole_at (z := PySem.Str.ofString "fbi") (n := 3) (by decide +kernel) h0 h1
      exact ⟨d, hd⟩
    refine ⟨_, rfl, _, _, rfl, rfl, (by show (0 : Int) < 7; decide), rfl, _, rfl, bb (fun g => ?_) fun g => ?_⟩
    · obtain ⟨d, hd⟩ := fb (c / 7 % 3) (by omega) (by omega)
      refine ⟨_, rfl, _, _, rfl, rfl, ⟨by decide, by decide⟩, _, _, rfl, rfl, (by show (0 : Int) < 3; decide), _, _, d, rfl, rfl, (by rw [sizeLine_eq]; exact (by decide : (3 : Nat) ≤ 16777216)), hd, _, rfl, d, n, rfl, rfl, by omega, fun z lz _ => q _ z (Same.refl _) (by show z.cps.size ≤ 8; omega)⟩
    · refine ⟨⟨_, rfl⟩, _, rfl, _, _, rfl, rfl, ⟨by decide, by decide⟩, _, rfl, _, n, 3, rfl, by omega, by decide, by decide, fun H2 p ds s2 np e2 l2 r2 => ⟨p, rfl, ⟨_, SqL.of e2⟩, fun D nD => ?_⟩⟩
      refine lc_list (K := K) (a := p) (xs := ds.map V.int) (fun i H' => Same H2 H' ∧ ∃ ys : List Str, ys.length = i ∧ (∀ y ∈ ys, y.length ≤ 1) ∧ H' D = some (.lst (ys.map V.str))) ⟨same_new nD, [], rfl, (fun y m => absurd m (by simp)), upd_same⟩ (fun i H' _ h => SqL.of (h.1 _ _ e2)) (fun i x H' hx h => ?_) fun H3 h3 => ?_
      · obtain ⟨s1, ys, ly, hy, ey⟩ := h
        rw [List.getElem?_map] at hx
        obtain ⟨d, hd, rfl⟩ := Option.map_eq_some_iff.mp hx
        have hi := (List.getElem?_eq_some_iff.mp hd).1
        have r := r2 d (List.mem_of_getElem? hd)
        obtain ⟨cc, hcc⟩ := fb d r.1 (by have := r.2; omega)
        refine ⟨rfl, ?_⟩
        refine ⟨_, rfl, _, _, cc, rfl, rfl, (by rw [sizeLine_eq]; exact (by decide : (3 : Nat) ≤ 16777216)), hcc, _, ey, small_line (by rw [List.length_map]; omega), same_put s1 nD, ys ++ [⟨#[cc]⟩], by rw [List.length_append, ly]; rfl, fun y m => ?_, by rw [upd_same, List.map_append]; rfl⟩
        rcases List.mem_append.mp m with m | m
        · exact hy y m
        · rw [List.mem_singleton.mp m]; exact Nat.le_refl _
      · obtain ⟨s1, ys, ly, hy, ey⟩ := h3
        rw [List.length_map] at ly
        have sl := sum_le hy
        refine ⟨_, D, ys, rfl, rfl, .inl (SqL.of ey), (by show (ys.map Str.length).sum + ys.length * 0 ≤ 16777216; omega), q _ _ (s2.trans s1) ?_⟩
        rw [join_len]
        omega

theorem has__law_turns {P : Program} {w : World} {K : PySem.W.Frag} {mg : Str → Option Value} {base : Heap} (T : Tx K mg) : Has P w K mg base CX0 2 "_law_turns" ["_law_cell", "_law_many"] sp_l_turns := ok_l_turns T
theorem ok_l_spoil {P : Program} {w : World} {K : PySem.W.Frag} {mg : Str → Option Value} {base : Heap} (T : Tx K mg) : Has P w K mg base CX0 2 "_law_spoil" ["_law_text", "_law_cell"] sp_l_spoil := by
  refine T.d_l_spoil.has sc_l_spoil (fun vs H Q E h => ?_) (fun f cdv A outer s H vs Q E hr h => ?_)
  · obtain ⟨_, _, rfl, _⟩ := h
    rfl
  · obtain ⟨z, c, rfl, hz, q⟩ := h
    refine ⟨_, PSs.nox ((pss_cons (ps_set (i := 2) sc_l_spoil.nd rfl (Or.inl rfl) (pe_op op_mod (pe_op op_fdiv (pv 1) pe_int) (pe_op op_add (pe_callB call_len_str (by rfl) T.m_len PySem.boot_len (pa_cons (pv 0) pa_nil)) pe_int))) (pss_cons (ps_set (i := 3) sc_l_spoil.nd rfl (Or.inl rfl) (pe_has (has__law_sign T) (hr.mono (by decide)) (by rfl) pass0 (pa_cons (pe_op op_fdiv (pv 1) pe_int) pa_nil))) (pss_cons (ps_if (pt_cmpR op_eq (pe_op op_mod (pv 1) pe_int) pe_int (nomark _)) (pss_one (ps_ret (pe_op op_add_str (pe_op op_add_str (pe_slice sl_str (pv 0) po_none (po_some (pv 2))) (pv 3)) (pe_slice sl_str (pv 0) (po_some (pv 2)) po_none)))) pss_nil) (pss_cons (ps_if (pt_cmpR op_eq (pe_op op_mod (pv 1) pe_int) pe_int (nomark _)) (pss_one (ps_ret (pe_op op_add_str (pe_slice sl_str (pv 0) po_none (po_some (pv 2))) (pe_slice sl_str (pv 0) (po_some (pe_op op_add (pv 2) pe_int)) po_none)))) pss_nil) (pss_cons (ps_if (pt_cmpR op_eq (pe_op op_mod (pv 1) pe_int) pe_int (nomark _)) (pss_one (ps_ret (pe_op op_add_str (pe_op op_add_str (pe_slice sl_str (pv 0) po_none (po_some (pv 2))) (pv 3)) (pe_slice sl_str (pv 0) (po_some (pe_op op_add (pv 2) pe_int)) po_none)))) pss_nil) (pss_cons (ps_if (pt_cmpR op_eq (pe_op op_mod (pv 1) pe_int) pe_int (nomark _)) (pss_one (ps_ret (pe_op op_add_str (pe_op op_add_str (pe_slice sl_str (pv 0) po_none (po_some (pv 2))) (pe_slice sl_str (pv 0) (po_some (pv 2)) (po_some (pe_op op_add (pv 2) pe_int)))) (pe_slice sl_str (pv 0) (po_some (pv 2)) po_none)))) pss_nil) (pss_cons (ps_set (i := 4) sc_l_spoil.nd rfl (Or.inl rfl) (pe_op op_add_str (pe_slice sl_str (pv 0) (po_some (pe_op op_add (pv 2) pe_int)) (po_some (pe_op op_add (pv 2) pe_int))) (pe_slice sl_str (pv 0) (po_some (pv 2)) (po_some (pe_op op_add (pv 2) pe_int))))) (pss_one (ps_ret (pe_op op_add_str (pe_op op_add_str (pe_slice sl_str (pv 0) po_none (po_some (pv 2))) (pv 4)) (pe_slice sl_str (pv 0) (po_some (pe_op op_add (pv 2) pe_int)) po_none)))))))))))), ?_⟩
    have zs : z.length ≤ sizeLine := by rw [sizeLine_eq]; omega
    have cl := fun lo hi => cut_len z lo hi
    have ln : ∀ {n : Nat}, n ≤ 3000000 → n ≤ sizeLine := fun h => by rw [sizeLine_eq]; omega
    have sg1 : ∀ d, (sg d).length = 1 := fun d => rfl
    refine ⟨_, rfl, _, _, rfl, rfl, ⟨by decide, by decide⟩, _, rfl, z, rfl, zs, _, _, rfl, rfl, _, _, rfl, rfl, (by show (0 : Int) < (z.length : Int) + 1; omega), ?_⟩
    refine ⟨_, rfl, _, _, rfl, rfl, ⟨by decide, by decide⟩, _, rfl, fun d => ?_⟩
    refine ⟨_, rfl, _, _, rfl, rfl, (by show (0 : Int) < 5; decide), rfl, _, rfl, bb (fun g => ?_) fun g => ?_⟩
    · refine ⟨_, rfl, _, rfl, _, rfl, z, rfl, zs, _, rfl, _, _, rfl, rfl, ln ?_, _, rfl, _, rfl, _, rfl, z, rfl, zs, _, _, rfl, rfl, ln ?_, q _ ?_⟩
      all_goals (try rw [app_len]); (try rw [app_len]); (try rw [sg1])
      all_goals (have h1 := cl none (some (c / 5 % ((z.length : Int) + 1))); have h2 := cl (some (c / 5 % ((z.length : Int) + 1))) none; omega)
    refine ⟨_, rfl, _, _, rfl, rfl, (by show (0 : Int) < 5; decide), rfl, _, rfl, bb (fun g => ?_) fun g => ?_⟩
    · refine ⟨_, rfl, _, rfl, _, rfl, z, rfl, zs, _, rfl, _, rfl, _, _, rfl, rfl, _, rfl, z, rfl, zs, _, _, rfl, rfl, ln ?_, q _ ?_⟩
      all_goals (try rw [app_len])
      all_goals (have h1 := cl none (some (c / 5 % ((z.length : Int) + 1))); have h2 := cl (some (c / 5 % ((z.length : Int) + 1) + 1)) none; omega)
    refine ⟨_, rfl, _, _, rfl, rfl, (by show (0 : Int) < 5; decide), rfl, _, rfl, bb (fun g => ?_) fun g => ?_⟩
    · refine ⟨_, rfl, _, rfl, _, rfl, z, rfl, zs, _, rfl, _, _, rfl, rfl, ln ?_, _, rfl, _, rfl, _, _, rfl, rfl, _, rfl, z, rfl, zs, _, _, rfl, rfl, ln ?_, q _ ?_⟩
      all_goals (try rw [app_len]); (try rw [app_len]); (try rw [sg1])
      all_goals (have h1 := cl none (some (c / 5 % ((z.length : Int) + 1))); have h2 := cl (some (c / 5 % ((z.length : Int) + 1) + 1)) none; omega)
    refine ⟨_, rfl, _, _, rfl, rfl, (by show (0 : Int) < 5; decide), rfl, _, rfl, bb (fun g => ?_) fun g => ?_⟩
    · refine ⟨_, rfl, _, rfl, _, rfl, z, rfl, zs, _, rfl, _, rfl, _, rfl, _, rfl, _, _, rfl, rfl, _, rfl, z, rfl, zs, _, _, rfl, rfl, ln ?_, _, rfl, _, rfl, _, rfl, z, rfl, zs, _, _, rfl, rfl, ln ?_, q _ ?_⟩
      all_goals (try rw [app_len]); (try rw [app_len])
      all_goals (have h1 := cl none (some (c / 5 % ((z.length : Int) + 1))); have h2 := cl (some (c / 5 % ((z.length : Int) + 1))) (some (c / 5 % ((z.length : Int) + 1) + 1)); have h3 := cl (some (c / 5 % ((z.length : Int) + 1))) none; omega)
    refine ⟨_, rfl, _, rfl, _, _, rfl, rfl, _, rfl, _, rfl, _, _, rfl, rfl, _, rfl, z, rfl, zs, _, rfl, _, rfl, _, rfl, _, rfl, _, _, rfl, rfl, _, rfl, z, rfl, zs, _, _, rfl, rfl, ln ?_, ?_⟩
    · have h1 := cl (some (c / 5 % ((z.length : Int) + 1) + 1)) (some (c / 5 % ((z.length : Int) + 1) + 2))
      have h2 := cl (some (c / 5 % ((z.length : Int) + 1))) (some (c / 5 % ((z.length : Int) + 1) + 1))
      omega
    refine ⟨_, rfl, _, rfl, _, rfl, z, rfl, zs, _, rfl, _, _, rfl, rfl, ln ?_, _, rfl, _, rfl, _, _, rfl, rfl, _, rfl, z, rfl, zs, _, _, rfl, rfl, ln ?_, q _ ?_⟩
    all_goals (try rw [app_len]); (try rw [app_len]); (try rw [app_len])
    all_goals (have h1 := cl (some (c / 5 % ((z.length : Int) + 1) + 1)) (some (c / 5 % ((z.length : Int) + 1) + 2)); have h2 := cl (some (c / 5 % ((z.length : Int) + 1))) (some (c / 5 % ((z.length : Int) + 1) + 1)); have h3 := cl none (some (c / 5 % ((z.length : Int) + 1))); have h4 := cl (some (c / 5 % ((z.length : Int) + 1) + 2)) none; omega)

theorem has__law_spoil {P : Program} {w : World} {K : PySem.W.Frag} {mg : Str → Option Value} {base : Heap} (T : Tx K mg) : Has P w K mg base CX0 2 "_law_spoil" ["_law_text", "_law_cell"] sp_l_spoil := ok_l_spoil T
theorem ok_l_behind {P : Program} {w : World} {K : PySem.W.Frag} {mg : Str → Option Value} {base : Heap} (T : Tx K mg) : Has P w K mg base CX0 2 "_law_behind" ["_law_card_here", "_law_turn"] (sp_l_behind K) := by
  refine T.d_l_behind.has sc_l_behind (fun vs H Q E h => ?_) (fun f cdv A outer s H vs Q E hr h => ?_)
  · obtain ⟨_, _, _, rfl, _⟩ := h
    rfl
  · obtain ⟨v, t, c, rfl, hv, hf, q⟩ := h
    refine ⟨_, PSs.nox ((pss_one (ps_ret (pe_tup (pa_cons (pe_ix ix_tup (pv 0) pe_int (fun _ _ => rfl)) (pa_cons (pe_ix ix_tup (pv 0) pe_int (fun _ _ => rfl)) (pa_cons (pe_op op_mod (pe_op op_add (pe_ix ix_tup (pv 0) pe_int (fun _ _ => rfl)) (pe_has (has__law_go T) (hr.mono (by decide)) (by rfl) pass0 (pa_cons (pv 1) pa_nil))) pe_int) pa_nil))))))), ?_⟩
    obtain ⟨a, rfl, s⟩ := card_at hv
    refine ⟨_, rfl, a, _, _, _, rfl, rfl, s, rfl, _, rfl, a, _, _, _, rfl, rfl, s, rfl, _, rfl, a, _, _, _, rfl, rfl, s, rfl, _, rfl, c, rfl, hf, _, _, rfl, rfl, _, _, rfl, rfl, (by show (0 : Int) < 4; decide), (by show 3 ≤ sizeLine; decide), fun p hp => q p hp⟩

theorem has__law_behind {P : Program} {w : World} {K : PySem.W.Frag} {mg : Str → Option Value} {base : Heap} (T : Tx K mg) : Has P w K mg base CX0 2 "_law_behind" ["_law_card_here", "_law_turn"] (sp_l_behind K) := ok_l_behind T
theorem ok_l_twist {P : Program} {w : World} {K : PySem.W.Frag} {mg : Str → Option Value} {base : Heap} (T : Tx K mg) : Has P w K mg base CX0 2 "_law_twist" ["_law_card_here", "_law_turn"] (sp_l_twist K) := by
  refine T.d_l_twist.has sc_l_twist (fun vs H Q E h => ?_) (fun f cdv A outer s H vs Q E hr h => ?_)
  · obtain ⟨_, _, _, rfl, _⟩ := h
    rfl
  · obtain ⟨v, t, c, rfl, hv, hf, q⟩ := h
    refine ⟨_, PSs.nox ((pss_cons (ps_if (pt_cmpR op_eq (pe_ix ix_tup (pv 0) pe_int (fun _ _ => rfl)) pe_str (nomark _)) (pss_one (ps_ret (pe_has (has__law_go T) (hr.mono (by decide)) (by rfl) pass0 (pa_cons (pv 1) pa_nil)))) pss_nil) (pss_one (ps_ret (pe_op op_sub pe_int (pe_has (has__law_go T) (hr.mono (by decide)) (by rfl) pass0 (pa_cons (pv 1) pa_nil))))))), ?_⟩
    obtain ⟨a, rfl, s⟩ := card_at hv
    refine ⟨_, rfl, a, _, _, _, rfl, rfl, s, rfl, rfl, _, rfl, bb (fun h => ?_) fun h => ?_⟩
    · rw [dec_str] at h
      have e : cTwist t c = adv c := if_pos (of_decide_eq_true h)
      rw [e] at q
      exact ⟨_, rfl, c, rfl, hf, q⟩
    · rw [dec_str] at h
      have e : cTwist t c = 0 - adv c := if_neg (of_decide_eq_false h)
      rw [e] at q
      exact ⟨_, rfl, c, rfl, hf, _, _, rfl, rfl, q⟩

theorem has__law_twist {P : Program} {w : World} {K : PySem.W.Frag} {mg : Str → Option Value} {base : Heap} (T : Tx K mg) : Has P w K mg base CX0 2 "_law_twist" ["_law_card_here", "_law_turn"] (sp_l_twist K) := ok_l_twist T
theorem ok_l_head {P : Program} {w : World} {K : PySem.W.Frag} {mg : Str → Option Value} {base : Heap} (T : Tx K mg) : Has P w K mg base CX0 2 "_law_head" ["_law_lines_here"] (sp_l_head K) := by
  refine T.d_l_head.has sc_l_head (fun vs H Q E h => ?_) (fun f cdv A outer s H vs Q E hr h => ?_)
  · obtain ⟨_, _, rfl, _⟩ := h
    rfl
  · obtain ⟨v, L, rfl, hl, q0, q1⟩ := h
    refine ⟨_, PSs.nox ((pss_cons (ps_set (i := 1) sc_l_head.nd rfl (Or.inl rfl) pe_dnewK) (pss_cons (ps_set (i := 2) sc_l_head.nd rfl (Or.inl rfl) (pe_lst pa_nil)) (pss_cons (ps_for PassesOwn.never rfl (pi_list (pe_slice sl_list (pv 0) (po_some pe_int) po_none)) (pg_name (i := 3) sc_l_head.nd rfl (Or.inr rfl)) (pss_one (ps_if (PW.pt (pw_and (pt_cmpR op_eq (pe_ix ix_list (pv 3) pe_int (fun _ _ => rfl)) pe_str (nomark _)) (pw_and1 (pt_cmpR (op_eqD hr.units) (pv 2) (pe_lst pa_nil) (nomark _))))) (pss_cons (ps_set (i := 4) sc_l_head.nd rfl (Or.inl rfl) (pe_and (pe_cmpR op_eq (pe_callB call_len_seq (by rfl) T.m_len PySem.boot_len (pa_cons (pv 3) pa_nil)) pe_int (nomark _)) (pe_and (pe_cmpR op_eq (pe_callB call_len_str (by rfl) T.m_len PySem.boot_len (pa_cons (pe_ix ix_list (pv 3) pe_int (fun _ _ => rfl)) pa_nil)) pe_int (nomark _)) (pe_one (pe_cmpR op_in_sign (pe_ix ix_list (pv 3) pe_int (fun _ _ => rfl)) pe_str rfl))))) (pss_cons (ps_if (PW.pt (pw_or (pt_not (pt_val (pv 4))) (pw_or1 (pt_cmpR op_gt (pe_callB call_len_seq (by rfl) T.m_len PySem.boot_len (pa_cons (pe_lc (own := [("_law_one", 6)]) (g := (gName 6)) (tt := (tTest (tOp (fun x y H Q => ∃ i j, x = V.str i ∧ y = V.str j ∧ Q (V.bl (!decide (i.cps.toList < j.cps.toList))) H) (tVar 6) (tOp (rIxL K) (tVar 3) (tC (.int 1)))))) rfl sc_l_head.nd (pi_list (pe_callTy (call_list_dK rfl) (by rfl) T.m_list (by decide +kernel) (pa_cons (pv 1) pa_nil))) (blkOk_by (own := [("_law_one", 6)]) (N := N_l_head) (sc := defScope s_l_head) (by decide +kernel)) (fun _ _ _ _ _ => (pg_name (i := 6) sc_l_head.nd rfl (Or.inl rfl))) (fun _ _ _ _ _ => (pts_one (pt_cmpR op_ge_str (pv 6) (pe_ix ix_list (pv 3) pe_int (fun _ _ => rfl)) (nomark _)))) (fun _ _ _ _ _ => (pv 6))) pa_nil)) pe_int (nomark _))))) (pss_one (ps_ret pe_non)) pss_nil) (pss_cons (ps_dput (hu_of hr) (pv 1) (pe_ix ix_list (pv 3) pe_int (fun _ _ => rfl)) (pe_has (has__law_number T) (hr.mono (by decide)) (by rfl) pass0 (pa_cons (pe_ix ix_list (pv 3) pe_int (fun _ _ => rfl)) pa_nil)) rfl) (pss_one (ps_if (pt_cmpR op_isN (pe_dget (hu_of hr) (pv 1) (pe_ix ix_list (pv 3) pe_int (fun _ _ => rfl)) (fun _ _ => rfl)) pe_non (nomark _)) (pss_one (ps_ret pe_non)) pss_nil))))) (pss_one (ps_if (pt_cmpR op_eq (pe_ix ix_list (pv 3) pe_int (fun _ _ => rfl)) pe_str (nomark _)) (pss_cons (ps_if (PW.pt (pw_or (pt_cmpR op_ne (pe_callB call_len_seq (by rfl) T.m_len PySem.boot_len (pa_cons (pv 3) pa_nil)) pe_int (nomark _)) (pw_or (pt_cmpR op_notIn_seq (pe_ix ix_list (pv 3) pe_int (fun _ _ => rfl)) (pe_lst (pa_cons pe_str (pa_cons pe_str pa_nil))) rfl) (pw_or1 (pt_cmpR op_ne (pe_callB call_len_str (by rfl) T.m_len PySem.boot_len (pa_cons (pe_ix ix_list (pv 3) pe_int (fun _ _ => rfl)) pa_nil)) pe_int (nomark _)))))) (pss_one (ps_ret pe_non)) pss_nil) (pss_cons (ps_if (pt_cmpR op_notIn_seq (pe_ix ix_list (pv 3) pe_int (fun _ _ => rfl)) (pe_lst (pa_cons pe_str (pa_cons pe_str (pa_cons pe_str (pa_cons pe_str pa_nil))))) rfl) (pss_one (ps_ret pe_non)) pss_nil) (pss_cons (ps_for PassesOwn.never rfl (pi_str (pe_ix ix_list (pv 3) pe_int (fun _ _ => rfl))) (pg_name (i := 5) sc_l_head.nd rfl (Or.inl rfl)) (pss_one (ps_if (pt_cmpR op_notIn_sign (pv 5) pe_str rfl) (pss_one (ps_ret pe_non)) pss_nil))) (pss_one (ps_expr (pe_bm PySem.F.plainAttrs_list PySem.F.slot_list_append PySem.F.type_list_append mt_append (pv 2) (pa_cons (pe_tup (pa_cons (pe_ix ix_list (pv 3) pe_int (fun _ _ => rfl)) (pa_cons (pe_ix ix_list (pv 3) pe_int (fun _ _ => rfl)) (pa_cons (pe_callTy call_int_str (by rfl) T.m_int (by decide +kernel) (pa_cons (pe_ix ix_list (pv 3) pe_int (fun _ _ => rfl)) pa_nil)) pa_nil)))) pa_nil))))))) (pss_one (ps_ret (pe_tup (pa_cons (pv 2) (pa_cons (pv 1) pa_nil)))))))))) (pss_one (ps_ret (pe_tup (pa_cons (pv 2) (pa_cons (pv 1) pa_nil))))))))), ?_⟩
    have hl0 := hl
    obtain ⟨hv, hne, hlen, hsz⟩ := hl
    obtain ⟨a, xs, rfl, sq, hx⟩ := dp_lst hv
    have xl : xs.length = L.length := by rw [dpA_len hx, List.length_map]
    intro p1 n1
    refine ⟨Nat.zero_le _, fun p2 n2 => ?_⟩
    have n12 : p1 ≠ p2 := ne_of_none (upd_same (o := .dK [])) n2
    have n2' : H p2 = none := (upd_ne (H := H) (o := .dK []) (Ne.symm n12)).symm.trans n2
    have s0 : Same H (upd (upd H p1 (.dK [])) p2 (.lst [])) := (same_new n1).trans (same_new n2)
    refine ⟨_, rfl, _, rfl, a, _, rfl, s0.seq sq, fun p3 n3 => ⟨p3, rfl, ⟨_, SqL.of upd_same⟩, ?_⟩⟩
    have hcut : cutV xs (some 1) none = xs.drop 1 ∨ True := .inr True.intro
    have c13 : p1 ≠ p3 := ne_of_none (show (upd (upd H p1 (.dK [])) p2 (.lst [])) p1 = some (.dK []) from (upd_ne n12).trans upd_same) n3
    have c23 : p2 ≠ p3 := ne_of_none upd_same n3
    have dA : DpAll K H (cutV xs (some 1) none) ((L.drop 1).map wD) := by
      by_cases h1 : 1 ≤ xs.length
      · rw [show cutV xs (some 1) none = xs.drop 1 from cutV_from (i := 1) h1, List.map_drop]
        exact dpA_drop hx
      · have e0 : xs = [] := List.length_eq_zero_iff.mp (by omega)
        have e1 : L = [] := List.length_eq_zero_iff.mp (by omega)
        rw [e0, e1]
        exact .nil
    generalize hcv : cutV xs (some 1) none = cv at dA
    have lcv : cv.length = (L.drop 1).length := by rw [dpA_len dA, List.length_map]
    have dl : (L.drop 1).length ≤ 1000001 := by rw [List.length_drop]; omega
    have sS := same_new (o := .lst cv) n3
    have s3 := s0.trans sS
    have mem2 : ∀ w ∈ L.drop 1, w ∈ L := fun w m => List.mem_of_mem_drop m
    have h16 : ∀ {z : Str}, z.length ≤ 1000000 → z.length ≤ sizeLine := fun h => by rw [sizeLine_eq]; omega
    refine for_list (xs := cv) (fun i σ H' => (∃ o3 o4 o5 o6, σ = [some (V.ref a), some (V.ref p1), some (V.ref p2), o3, o4, o5, o6]) ∧ Same H H' ∧ H' p3 = some (.lst cv) ∧ ∃ (last : Str) (acc : Lens) (dr : List Card), H' p1 = some (.dK (eL acc)) ∧ FL K H' p2 (dr.map cD) ∧ (∀ t ∈ dr, CardOk t) ∧ acc.length ≤ i ∧ dr.length ≤ i ∧ ((acc = [] ∧ last = "") ∨ last ∈ acc.map (·.1)) ∧ (∀ k ∈ acc.map (·.1), k = last ∨ ltS k last = true) ∧ (∀ k ∈ acc.map (·.1), isCol k = true) ∧ headM L = headAt ((L.drop 1).drop i) last acc dr)
      ⟨⟨_, _, _, _, rfl⟩, s3, upd_same, "", [], [], sS _ _ ((upd_ne n12).trans upd_same), .nil (sS _ _ upd_same), (fun t m => absurd m (by simp)), Nat.le_refl _, Nat.le_refl _, .inl ⟨rfl, rfl⟩, (fun k m => absurd m (by simp)), (fun k m => absurd m (by simp)), rfl⟩ (fun i σ H' _ h => SqL.of h.2.2.1) ?_ ?_
    · rintro i u σ H1 hu ⟨⟨o3, o4, o5, o6, rfl⟩, s1, ep3, last, acc, dr, e1, f2, hok, la, ldr, hlast, hkeys, hcol, heq⟩
      obtain ⟨dw, hdw, du⟩ := dpA_get dA hu
      rw [List.getElem?_map] at hdw
      obtain ⟨x, hw, rfl⟩ := Option.map_eq_some_iff.mp hdw
      have hi : i < (L.drop 1).length := (List.getElem?_eq_some_iff.mp hw).1
      have hxm := mem2 x (List.mem_of_getElem? hw)
      obtain ⟨b, rfl, sb0⟩ := dp_strs du
      have sb := s1.seq sb0
      have rem : (L.drop 1).drop i = x :: (L.drop 1).drop (i + 1) := drop_at hw
      rw [rem] at heq
      cases hxx : x with
      | nil => exact absurd hxx (hne x hxm)
      | cons w0 xr =>
      subst hxx
      obtain ⟨acv, e2, d2⟩ := f2
      have l2 := dpA_len d2
      rw [List.length_map] at l2
      have first : ((w0 :: xr).map V.str)[0]? = some (V.str w0) := rfl
      have fin0 : ∀ {H2 : Hp}, headM L = none → Same H H2 → Q .non H2 := fun h s => q0 h _ s
      -- the tablet half
      have tab : ∀ (H2 : Hp) (σ2 : L2.St), Same H H2 → H2 p1 = some (.dK (eL acc)) → H2 p2 = some (.lst acv) → DpAll K H2 acv (dr.map cD) → True := fun _ _ _ _ _ _ => True.intro
      refine ⟨_, rfl, b, _, _, _, rfl, rfl, sb, atI_nat (j := 0) first, rfl, _, rfl, bb (fun g => ⟨_, rfl, Nat.zero_le _, fun p4 n4 => ⟨_, _, .lst (SqL.of ((same_new n4) _ _ e2)) (dpA_mono (same_new n4) _ _ d2), .lst (SqL.of upd_same) .nil, cD_shaped _ hok, nil_shaped, _, rfl, ?_⟩⟩) fun g => ?_⟩
      · rw [dec_str] at g
        have w0e : w0 = "spool" := of_decide_eq_true g
        have s4 := same_new (o := .lst []) n4
        rw [cD_nil]
        refine bb (fun g2 => ?_) fun g2 => ?_
        · have dre : dr = [] := of_decide_eq_true g2
          subst dre
          rw [headAt_spool (by rw [w0e]; rfl)] at heq
          have bad : spoolM (w0 :: xr) last = none → ∀ {H2 : Hp}, Same H H2 → Q .non H2 := fun h _ s => q0 (by rw [heq, h]) _ s
          have sb4 := s4.seq sb
          have s14 := s1.trans s4
          refine ⟨_, rfl, b, _, rfl, .inl sb4, rfl, _, rfl, bb (fun k => ?_) fun k => ?_⟩
          rotate_left
          · rw [dec_i, decide_eq_false_iff_not, List.length_map] at k
            exact ⟨_, rfl, _, rfl, iteT (bad (spoolM_len (fun z => k (by rw [z]; rfl))) s14)⟩
          rw [dec_i, decide_eq_true_eq, List.length_map] at k
          obtain ⟨w0', c, n, e3⟩ := three (show (w0 :: xr).length = 3 by omega)
          cases e3
          have cz := hsz _ hxm c (by simp)
          have nz := hsz _ hxm n (by simp)
          have spm : spoolM [w0, c, n] last = if isCol c = true ∧ ltS last c = true then (num n).map fun k => (c, k) else none := rfl
          refine ⟨_, rfl, b, _, _, _, rfl, rfl, sb4, atI_nat (j := 1) (v := V.str c) rfl, c, rfl, h16 cz, rfl, _, rfl, bb (fun k2 => ?_) fun k2 => ?_⟩
          rotate_left
          · rw [dec_i, decide_eq_false_iff_not] at k2
            exact ⟨_, rfl, _, rfl, iteT (bad (by rw [spm, if_neg (fun z => k2 (by rw [col_len z.1]; rfl))]) s14)⟩
          rw [dec_i, decide_eq_true_eq] at k2
          obtain ⟨cc, rfl⟩ := one_sign (show c.length = 1 by omega)
          refine ⟨_, rfl, b, _, _, _, rfl, rfl, sb4, atI_nat (j := 1) (v := V.str (sg cc)) rfl, cc, _, rfl, rfl, ?_⟩
          have ein : decide (cc ∈ (PySem.Str.ofString "abcdefghijklmnopqrstuvwxyz").cps.toList) = isCol (sg cc) := by
            rw [ok_sg, Bool.eq_iff_iff, decide_eq_true_eq, abc_mem]
          rw [ein]
          refine ⟨_, rfl, _, rfl, bb (fun k3 => ?_) fun k3 => ?_⟩
          · rw [Bool.not_eq_true'] at k3
            exact iteT (bad (by rw [spm, if_neg (fun z => by rw [z.1] at k3; cases k3)]) s14)
          rw [Bool.not_eq_false'] at k3
          have e14 := s4 _ _ e1
          refine ⟨_, rfl, p1, _, rfl, e14, fun p5 n5 => ⟨p5, rfl, ⟨_, SqL.of upd_same⟩, fun D nD => ?_⟩⟩
          have s5 := same_new (o := .lst ((eL acc).map fun kv => kV kv.1)) n5
          have kl : ((eL acc).map fun kv => kV kv.1) = (acc.map (·.1)).map V.str := by
            unfold eL
            rw [List.map_map, List.map_map]
            rfl
          have ge : ∀ k : Str, (!decide (k.cps.toList < (sg cc).cps.toList)) = !ltS k (sg cc) := fun k => rfl
          refine lc_list (K := K) (a := p5) (xs := (eL acc).map fun kv => kV kv.1) (fun j H' => Same (upd (upd H1 p4 (.lst [])) p5 (.lst ((eL acc).map fun kv => kV kv.1))) H' ∧ ∃ m, m ≤ j ∧ (m = 0 ↔ ((acc.map (·.1)).take j).all (fun k => ltS k (sg cc)) = true) ∧ ∃ av, H' D = some (.lst av) ∧ av.length = m) ⟨same_new nD, 0, Nat.le_refl _, by simp, [], upd_same, rfl⟩ (fun j H' _ h => SqL.of (h.1 _ _ upd_same)) (fun j y H' hy h => ?_) fun H6 h6 => ?_
          · obtain ⟨sh, m, hm, hmz, av, eav, lav⟩ := h
            rw [kl, List.getElem?_map] at hy
            obtain ⟨ky, hky, rfl⟩ := Option.map_eq_some_iff.mp hy
            have hj := (List.getElem?_eq_some_iff.mp hky).1
            rw [List.length_map] at hj
            refine ⟨rfl, _, rfl, _, rfl, b, _, _, _, rfl, rfl, ((s4.trans s5).trans sh).seq sb, atI_nat (j := 1) (v := V.str (sg cc)) rfl, _, _, rfl, rfl, _, rfl, ?_⟩
            rw [ge]
            cases hlt : ltS ky (sg cc) with
            | true =>
              refine iteF ⟨sh, m, by omega, ?_, av, eav, lav⟩
              rw [hmz, List.take_succ, hky, List.all_append]
              simp [hlt]
            | false =>
              refine iteT ⟨_, rfl, av, eav, (by rw [sizeLine_eq]; omega), same_put sh nD, m + 1, by omega, ?_, _, upd_same, by rw [List.length_append, lav]; rfl⟩
              rw [List.take_succ, hky, List.all_append]
              simp [hlt]
          obtain ⟨s6, m, hm, hmz, av, eav, lav⟩ := h6
          rw [List.length_map, eL_len, List.take_of_length_le (by rw [List.length_map]; exact Nat.le_refl _)] at hmz
          have s16 := (s14.trans s5).trans s6
          have hall : ((acc.map (·.1)).all (fun k => ltS k (sg cc)) = true) ↔ ltS last (sg cc) = true := by
            constructor
            · intro h
              rcases hlast with ⟨rfl, rfl⟩ | hm
              · unfold ltS
                exact decide_eq_true (by show ([] : List Nat) < [cc]; exact List.nil_lt_cons _ _)
              · exact List.all_eq_true.mp h _ hm
            · intro h
              rw [List.all_eq_true]
              intro k hk
              rcases hkeys k hk with e | e
              · rw [e]; exact h
              · exact ltS_trans e h
          refine ⟨D, av, rfl, .inl (SqL.of eav), _, _, rfl, rfl, _, rfl, bb (fun k4 => ?_) fun k4 => ?_⟩
          · have k5 := of_decide_eq_true k4
            refine bad ?_ s16
            rw [spm, if_neg (fun z => ?_)]
            have := hmz.mpr (hall.mpr z.2)
            omega
          have k5 := of_decide_eq_false k4
          have hlt : ltS last (sg cc) = true := hall.mp (hmz.mp (by omega))
          have spm2 : spoolM [w0, sg cc, n] last = (num n).map fun k => (sg cc, k) := by rw [spm, if_pos ⟨k3, hlt⟩]
          have sb6 := ((s4.trans s5).trans s6).seq sb
          have e16 := s6 _ _ (s5 _ _ e14)
          have few : (eL acc).length < sizeLine := by rw [eL_len, sizeLine_eq]; omega
          have n1' : H p1 = none := n1
          refine ⟨_, rfl, b, _, _, _, rfl, rfl, sb6, atI_nat (j := 2) (v := V.str n) rfl, n, rfl, h16 nz, fun kv hk => ?_, fun hk => ?_⟩
          · have hnew : sg cc ∉ acc.map (·.1) := fun hm => by
              have := List.all_eq_true.mp (hall.mpr hlt) _ hm
              rw [ltS_irr] at this
              cases this
            refine ⟨_, rfl, _, rfl, b, _, _, _, rfl, rfl, sb6, atI_nat (j := 1) (v := V.str (sg cc)) rfl, p1, _, rfl, pt_d e16 (by rw [eL_len] at few; exact few), ?_⟩
            have s7 := same_put (o := .dK (eL (pt acc (sg cc) kv))) s16 n1'
            have nb : b ≠ p1 ∨ True := .inr True.intro
            have sb7 : SqL K (upd H6 p1 (.dK (eL (pt acc (sg cc) kv)))) b ([w0, sg cc, n].map V.str) := s7.seq sb0
            have gd := gt_d (k := sg cc) (upd_same : (upd H6 p1 (.dK (eL (pt acc (sg cc) kv)))) p1 = _)
            rw [gt_pt, if_pos rfl] at gd
            refine ⟨_, rfl, _, rfl, b, _, _, _, rfl, rfl, sb7, atI_nat (j := 1) (v := V.str (sg cc)) rfl, p1, _, rfl, gd, rfl, _, rfl, iteF ⟨⟨_, _, _, _, rfl⟩, s7, ?_, sg cc, pt acc (sg cc) kv, [], upd_same, ?_, (fun t m => absurd m (by simp)), ?_, Nat.zero_le _, ?_, ?_, ?_, ?_⟩⟩
            · rw [upd_ne (Ne.symm c13)]
              exact s6 _ _ (s5 _ _ (s4 _ _ ep3))
            · refine ⟨acv, ?_, ?_⟩
              · rw [upd_ne (Ne.symm n12)]
                exact s6 _ _ (s5 _ _ (s4 _ _ e2))
              · cases d2
                exact .nil
            · have := pt_len acc (sg cc) kv
              omega
            · right
              rw [pt_new hnew, List.map_append]
              exact List.mem_append_right _ (by simp)
            · intro k hk2
              rw [pt_new hnew, List.map_append] at hk2
              rcases List.mem_append.mp hk2 with hk2 | hk2
              · exact .inr (List.all_eq_true.mp (hall.mpr hlt) _ hk2)
              · exact .inl (List.mem_singleton.mp hk2)
            · intro k hk2
              rw [pt_new hnew, List.map_append] at hk2
              rcases List.mem_append.mp hk2 with hk2 | hk2
              · exact hcol k hk2
              · rw [show k = sg cc from List.mem_singleton.mp hk2]; exact k3
            · rw [heq, spm2, hk]
              rfl
          · refine ⟨_, rfl, _, rfl, b, _, _, _, rfl, rfl, sb6, atI_nat (j := 1) (v := V.str (sg cc)) rfl, p1, _, rfl, DPut.k (k := Sum.inr (sg cc)) e16 few, ?_⟩
            have s7 : Same H (upd H6 p1 (.dK (putK (eL acc) (Sum.inr (sg cc)) V.non))) := same_put s16 n1'
            have sb7 := s7.seq sb0
            have gd : DGet (upd H6 p1 (.dK (putK (eL acc) (Sum.inr (sg cc)) V.non))) p1 (V.str (sg cc)) (some V.non) := .inl ⟨_, Sum.inr (sg cc), .inl upd_same, rfl, by rw [valV_put, if_pos rfl]⟩
            exact ⟨_, rfl, _, rfl, b, _, _, _, rfl, rfl, sb7, atI_nat (j := 1) (v := V.str (sg cc)) rfl, p1, _, rfl, gd, rfl, _, rfl, iteT (bad (by rw [spm2, hk]; rfl) s7)⟩
        · have dre : ¬ dr = [] := of_decide_eq_false g2
          have stop : headM L = some (dr, acc) := by
            rw [heq, w0e]
            refine headAt_stop (fun z => absurd z dre) ?_
            show ¬ some (("spool" : Str)) = some ("tablet" : Str)
            decide +kernel
          refine ⟨_, rfl, b, _, _, _, rfl, rfl, s4.seq sb, atI_nat (j := 0) first, rfl, _, rfl, bb (fun g3 => ?_) fun g3 => ?_⟩
          · rw [dec_str, w0e] at g3
            exact absurd (of_decide_eq_true g3) (by decide +kernel)
          refine ⟨_, rfl, _, rfl, (by show 2 ≤ sizeLine; decide), fun p9 n9 => ?_⟩
          have s9 := same_new (o := .tup [V.ref p2, V.ref p1]) n9
          exact q1 dr acc stop _ p9 (.ref p2) p1 ((s1.trans s4).trans s9) (SqT.of upd_same) (dp_mono (s4.trans s9) _ _ (FL.dp ⟨acv, e2, d2⟩)) (s9 _ _ (s4 _ _ e1))
      · rw [dec_str] at g
        have w0n : ¬ w0 = "spool" := of_decide_eq_false g
        refine ⟨_, rfl, b, _, _, _, rfl, rfl, sb, atI_nat (j := 0) first, rfl, _, rfl, bb (fun g3 => ?_) fun g3 => ?_⟩
        · rw [dec_str] at g3
          have w0e : w0 = "tablet" := of_decide_eq_true g3
          rw [headAt_tablet (by rw [w0e]; rfl)] at heq
          have bad : tabletM (w0 :: xr) = none → ∀ {H2 : Hp}, Same H H2 → Q .non H2 := fun h _ s => q0 (by rw [heq, h]) _ s
          refine ⟨_, rfl, b, _, rfl, .inl sb, rfl, _, rfl, bb (fun k => ?_) fun k => ?_⟩
          · rw [dec_i, Bool.not_eq_true', decide_eq_false_iff_not, List.length_map] at k
            exact iteT (bad (tabletM_len (fun z => k (by rw [z]; rfl))) s1)
          rw [dec_i, Bool.not_eq_false', decide_eq_true_eq, List.length_map] at k
          obtain ⟨w0', lay, holes, st, e3⟩ := four_ (show (w0 :: xr).length = 4 by omega)
          cases e3
          have hz2 := hsz _ hxm holes (by simp)
          have badM : (∀ n, num st = some n → madeP lay holes n = false) → ∀ {H2 : Hp}, Same H H2 → Q .non H2 := fun h _ s => bad (by
            rw [tabletM_eq]
            cases hn : num st with
            | none => rfl
            | some n => exact if_neg (by rw [h n hn]; exact Bool.false_ne_true)) s
          refine ⟨_, rfl, b, _, _, _, rfl, rfl, sb, atI_nat (j := 1) (v := V.str lay) rfl, (by show 2 ≤ sizeLine; decide), fun p4 n4 => ⟨p4, _, rfl, .inl (SqL.of upd_same), rfl, rfl, _, rfl, bb (fun k2 => ?_) fun k2 => ?_⟩⟩
          · have k3 : (!inV (V.str lay) [V.str "S", V.str "Z"]) = true := k2
            rw [inV_SZ, Bool.not_eq_true'] at k3
            refine iteT (badM (fun n _ => ?_) (s1.trans (same_new n4)))
            unfold madeP
            rw [k3]
            rfl
          have hlay : (decide (lay = "S") || decide (lay = "Z")) = true := by
            have k3 : (!inV (V.str lay) [V.str "S", V.str "Z"]) = false := k2
            rw [inV_SZ, Bool.not_eq_false'] at k3
            exact k3
          have s4 := same_new (o := .lst [V.str "S", V.str "Z"]) n4
          have sb4 := s4.seq sb
          refine ⟨_, rfl, b, _, _, _, rfl, rfl, sb4, atI_nat (j := 2) (v := V.str holes) rfl, holes, rfl, h16 hz2, rfl, _, rfl, bb (fun k3 => ?_) fun k3 => ?_⟩
          · rw [dec_i, Bool.not_eq_true', decide_eq_false_iff_not] at k3
            refine badM (fun n _ => ?_) (s1.trans s4)
            unfold madeP
            rw [decide_eq_false (show ¬ holes.length = 4 by omega), Bool.false_and, Bool.and_false]
          rw [dec_i, Bool.not_eq_false', decide_eq_true_eq] at k3
          have h4 : holes.length = 4 := by omega
          refine ⟨_, rfl, b, _, _, _, rfl, rfl, sb4, atI_nat (j := 3) (v := V.str st) rfl, (by show 4 ≤ sizeLine; decide), fun p5 n5 => ⟨p5, _, rfl, .inl (SqL.of upd_same), rfl, rfl, _, rfl, bb (fun k4 => ?_) fun k4 => ?_⟩⟩
          · have k5 : (!inV (V.str st) [V.str "0", V.str "1", V.str "2", V.str "3"]) = true := k4
            rw [inV_d3, Bool.not_eq_true'] at k5
            refine badM (fun n hn => ?_) ((s1.trans s4).trans (same_new n5))
            unfold madeP
            have : ¬ (0 ≤ n ∧ n ≤ 3) := fun z => by
              have := (num_digit hn).mp z
              rw [k5] at this
              cases this
            rw [decide_eq_false this]
            simp
          have k5 : (decide (st = "0") || (decide (st = "1") || (decide (st = "2") || decide (st = "3")))) = true := by
            have k5 : (!inV (V.str st) [V.str "0", V.str "1", V.str "2", V.str "3"]) = false := k4
            rw [inV_d3, Bool.not_eq_false'] at k5
            exact k5
          obtain ⟨n, hn, n0, n3⟩ := num_digits k5
          have s5 := s4.trans (same_new (o := .lst [V.str "0", V.str "1", V.str "2", V.str "3"]) n5)
          have s15 := s1.trans s5
          have sb5 := s5.seq sb
          refine ⟨_, rfl, b, _, _, _, rfl, rfl, sb5, atI_nat (j := 2) (v := V.str holes) rfl, holes, rfl, for_it (J := Its holes) holes.cps.size (fun j σ H' => (∃ o4 o5 o6, σ = [some (V.ref a), some (V.ref p1), some (V.ref p2), some (V.ref b), o4, o5, o6]) ∧ H' = (upd (upd H1 p4 (.lst [V.str "S", V.str "Z"])) p5 (.lst [V.str "0", V.str "1", V.str "2", V.str "3"])) ∧ (holes.cps.toList.take j).all low = true) ⟨⟨_, _, _, rfl⟩, rfl, rfl⟩ (fun j σ H' hj _ => hj) (fun _ _ _ => Nat.le_refl _) ?_ ?_⟩
          · rintro j σ H7 x H8 hj ⟨⟨o4, o5, o6, rfl⟩, rfl, ha⟩ ⟨rfl, c, hc, rfl⟩
            have hc2 : holes.cps.toList[j]? = some c := by rw [Array.getElem?_toList]; exact hc
            have ein : decide (c ∈ (PySem.Str.ofString "abcdefghijklmnopqrstuvwxyz").cps.toList) = low c := by
              rw [Bool.eq_iff_iff, decide_eq_true_eq, abc_mem]
            refine ⟨_, rfl, c, _, rfl, rfl, _, rfl, ?_⟩
            rw [ein]
            refine bb (fun k6 => ?_) fun k6 => ?_
            · rw [Bool.not_eq_true'] at k6
              refine badM (fun n _ => ?_) s15
              unfold madeP
              rw [all_none hc2 k6, Bool.false_and, Bool.and_false, Bool.and_false]
            · rw [Bool.not_eq_false'] at k6
              exact ⟨⟨_, _, _, rfl⟩, rfl, all_step ha hc2 k6⟩
          · rintro σ H7 ⟨⟨o4, o5, o6, rfl⟩, rfl, ha⟩
            rw [show holes.cps.size = holes.cps.toList.length from (Array.length_toList ..).symm, List.take_length] at ha
            have hm : madeP lay holes n = true := by
              unfold madeP
              rw [hlay, decide_eq_true h4, ha, decide_eq_true (⟨n0, n3⟩ : 0 ≤ n ∧ n ≤ 3)]
              rfl
            have tm : tabletM [w0, lay, holes, st] = some (lay, holes, n) := by
              rw [tabletM_eq, hn]
              exact if_pos hm
            have e25 := s5 _ _ e2
            obtain ⟨m1, m2, m3, m4⟩ := num_some hn
            refine ⟨_, rfl, .inl ⟨rfl, _, SqL.of e25⟩, _, rfl, b, _, _, _, rfl, rfl, sb5, atI_nat (j := 1) (v := V.str lay) rfl, _, rfl, b, _, _, _, rfl, rfl, sb5, atI_nat (j := 2) (v := V.str holes) rfl, _, rfl, b, _, _, _, rfl, rfl, sb5, atI_nat (j := 3) (v := V.str st) rfl, st, n, rfl, m1, by omega, (by show 3 ≤ sizeLine; decide), fun p8 n8 => ?_⟩
            have s8 := s5.trans (same_new (o := .tup [V.str lay, V.str holes, V.int n]) n8)
            refine ⟨p2, _, _, rfl, rfl, s8 _ _ e2, (by rw [sizeLine_eq]; omega), ⟨_, _, _, _, rfl⟩, same_put (s1.trans s8) n2', ?_, last, acc, dr ++ [(lay, holes, n)], ?_, ?_, ?_, by omega, ?_, hlast, hkeys, hcol, ?_⟩
            · rw [upd_ne (Ne.symm c23)]
              exact s8 _ _ ep3
            · rw [upd_ne n12]
              exact s8 _ _ e1
            · rw [List.map_append]
              exact FL.app (s8 _ _ e2) (dpA_mono s8 _ _ d2) (flat_c _) (d := cD (lay, holes, n)) rfl (card_of (t := (lay, holes, n)) (SqT.of upd_same))
            · intro t m
              rcases List.mem_append.mp m with m | m
              · exact hok t m
              · rw [List.mem_singleton.mp m]; exact hm
            · rw [List.length_append]
              show dr.length + 1 ≤ i + 1
              omega
            · rw [heq, tm]
        · rw [dec_str] at g3
          have stop : headM L = some (dr, acc) := by
            rw [heq]
            exact headAt_stop (fun _ z => w0n (Option.some.inj z)) (fun z => (of_decide_eq_false g3) (Option.some.inj z))
          refine ⟨_, rfl, _, rfl, (by show 2 ≤ sizeLine; decide), fun p9 n9 => ?_⟩
          have s9 := same_new (o := .tup [V.ref p2, V.ref p1]) n9
          exact q1 dr acc stop _ p9 (.ref p2) p1 (s1.trans s9) (SqT.of upd_same) (dp_mono s9 _ _ (FL.dp ⟨acv, e2, d2⟩)) (s9 _ _ e1)
    · rintro σ H1 ⟨⟨o3, o4, o5, o6, rfl⟩, s1, ep3, last, acc, dr, e1, f2, hok, la, ldr, hlast, hkeys, hcol, heq⟩
      rw [lcv, List.drop_length] at heq
      have stop : headM L = some (dr, acc) := by
        rw [heq]
        exact headAt_stop (fun _ z => by cases z) (fun z => by cases z)
      refine ⟨_, rfl, _, rfl, (by show 2 ≤ sizeLine; decide), fun p9 n9 => ?_⟩
      have s9 := same_new (o := .tup [V.ref p2, V.ref p1]) n9
      exact q1 dr acc stop _ p9 (.ref p2) p1 (s1.trans s9) (SqT.of upd_same) (dp_mono s9 _ _ f2.dp) (s9 _ _ e1)

theorem has__law_head {P : Program} {w : World} {K : PySem.W.Frag} {mg : Str → Option Value} {base : Heap} (T : Tx K mg) : Has P w K mg base CX0 2 "_law_head" ["_law_lines_here"] (sp_l_head K) := ok_l_head T
theorem ok_place_of {P : Program} {w : World} {K : PySem.W.Frag} {mg : Str → Option Value} {base : Heap} (T : Tx K mg) : Has P w K mg base CX0 3 "place_of" ["tablet", "turn"] (sp_place_of K) := by
  refine T.d_place_of.has sc_place_of (fun vs H Q E h => ?_) (fun f cdv A outer s H vs Q E hr h => ?_)
  · obtain ⟨_, _, _, rfl, _⟩ := h
    rfl
  · obtain ⟨v, t, c, rfl, hv, ok, q⟩ := h
    refine ⟨_, PSs.nox ((pss_one (ps_ret (pe_tup (pa_cons (pe_has (has_top T) (hr.mono (by decide)) (by rfl) pass0 (pa_cons (pv 0) pa_nil)) (pa_cons (pe_has (has_bottom T) (hr.mono (by decide)) (by rfl) pass0 (pa_cons (pv 0) pa_nil)) (pa_cons (pe_has (has_slant_of T) (hr.mono (by decide)) (by rfl) pass0 (pa_cons (pe_has (has_twisting T) (hr.mono (by decide)) (by rfl) pass0 (pa_cons (pv 0) (pa_cons (pv 1) pa_nil))) pa_nil)) pa_nil))))))), ?_⟩
    refine ⟨_, rfl, v, t, rfl, hv, ok, _, rfl, v, t, rfl, hv, ok, _, rfl, _, rfl, v, t, c, rfl, hv, _, rfl, (by show 3 ≤ sizeLine; decide), fun p hp => q p hp⟩

theorem has_place_of {P : Program} {w : World} {K : PySem.W.Frag} {mg : Str → Option Value} {base : Heap} (T : Tx K mg) : Has P w K mg base CX0 3 "place_of" ["tablet", "turn"] (sp_place_of K) := ok_place_of T
theorem ok_first_stage {P : Program} {w : World} {K : PySem.W.Frag} {mg : Str → Option Value} {base : Heap} (T : Tx K mg) : Has P w K mg base CX0 3 "first_stage" ["draft", "spools"] (sp_first_stage K) := by
  refine T.d_first_stage.has sc_first_stage (fun vs H Q E h => ?_) (fun f cdv A outer s H vs Q E hr h => ?_)
  · obtain ⟨_, _, _, _, rfl, _⟩ := h
    rfl
  · obtain ⟨v, d, l, cards, rfl, hv, h8, hd, q⟩ := h
    refine ⟨_, PSs.nox ((pss_one (ps_ret (pe_mk (mk_Stage T) (hr.mono (by decide)) (by rfl) pass0 (pa_cons (pe_callTy call_list_of (by rfl) T.m_list (by decide +kernel) (pa_cons (pv 0) pa_nil)) (pa_cons (pe_lc (own := [("tablet", 2)]) (g := (gName 2)) (tt := tYes) rfl sc_first_stage.nd (pi_list (pv 0)) (blkOk_by (own := [("tablet", 2)]) (N := N_first_stage) (sc := defScope s_first_stage) (by decide +kernel)) (fun _ _ _ _ _ => (pg_name (i := 2) sc_first_stage.nd rfl (Or.inl rfl))) (fun _ _ _ _ _ => pts_nil) (fun _ _ _ _ _ => pe_int)) (pa_cons (pe_lc (own := [("tablet", 2)]) (g := (gName 2)) (tt := tYes) rfl sc_first_stage.nd (pi_list (pv 0)) (blkOk_by (own := [("tablet", 2)]) (N := N_first_stage) (sc := defScope s_first_stage) (by decide +kernel)) (fun _ _ _ _ _ => (pg_name (i := 2) sc_first_stage.nd rfl (Or.inl rfl))) (fun _ _ _ _ _ => pts_nil) (fun _ _ _ _ _ => pe_int)) (pa_cons (pe_callTy call_dictD (by rfl) T.m_dict (by decide +kernel) (pa_cons (pv 1) pa_nil)) pa_nil)))))))), ?_⟩
    obtain ⟨a, xs, rfl, sq, ha⟩ := dp_lst hv
    have xl : xs.length = cards.length := by rw [dpA_len ha, List.length_map]
    have zl : (cards.map fun _ => (0 : Int)).length = cards.length := List.length_map ..
    have z0 : ∀ i, i < xs.length → (cards.map fun _ => (0 : Int))[i]? = some 0 := fun i hi => by
      rw [List.getElem?_map, List.getElem?_eq_getElem (by omega : i < cards.length)]
      rfl
    refine ⟨_, rfl, a, xs, rfl, .inl sq, fun p1 n1 => ⟨_, rfl, a, rfl, ⟨_, (same_new n1).seq sq⟩, fun p2 n2 => ?_⟩⟩
    have s1 := same_new (o := .lst xs) n1
    refine lc_list (K := K) (a := a) (xs := xs) (PvI _ p2 (cards.map fun _ => (0 : Int))) (.start n2) (fun i H' _ h => (s1.trans h.1).seq sq) (fun i x H' hx h => ?_) fun H2 h2 => ?_
    · have hi := (List.getElem?_eq_some_iff.mp hx).1
      refine ⟨rfl, ?_⟩
      exact h.step (Same.refl _) n2 (z0 i hi) (by omega)
    obtain ⟨s2, e2⟩ := h2
    rw [List.take_of_length_le (by omega)] at e2
    refine ⟨_, rfl, a, rfl, ⟨_, (s1.trans s2).seq sq⟩, fun p3 n3 => ?_⟩
    refine lc_list (K := K) (a := a) (xs := xs) (PvI _ p3 (cards.map fun _ => (0 : Int))) (.start n3) (fun i H' _ h => ((s1.trans s2).trans h.1).seq sq) (fun i x H' hx h => ?_) fun H3 h3 => ?_
    · have hi := (List.getElem?_eq_some_iff.mp hx).1
      refine ⟨rfl, ?_⟩
      exact h.step (Same.refl _) n3 (z0 i hi) (by omega)
    obtain ⟨s3, e3⟩ := h3
    rw [List.take_of_length_le (by omega)] at e3
    have s13 := (s1.trans s2).trans s3
    refine ⟨_, rfl, d, _, rfl, .inl (s13 _ _ hd), fun p4 n4 => ?_⟩
    have s4 := same_new (o := .dK (eL l)) n4
    have s14 := s13.trans s4
    intro x dx nx ndx nxd
    refine ⟨x, dx, _, _, _, _, rfl, upd_same, fun H5 ho hx => ⟨rfl, ?_⟩⟩
    have s5 : Same (upd H3 p4 (.dK (eL l))) H5 := fun b o e => by
      have ne : b ≠ x := ne_of_none e nx
      rw [ho b ne, upd_ne ne, upd_ne (ne_of_none e ndx)]
      exact e
    have s15 := s14.trans s5
    refine q H5 x s15 ⟨dx, p1, p2, p3, p4, xs, s14.free nx, n1, s1.free n2, (s1.trans s2).free n3, s13.free n4, hx, ?_, ?_, ?_, ?_, ?_⟩
    · exact s5 _ _ (s4 _ _ (s3 _ _ (s2 _ _ upd_same)))
    · exact dpA_mono s15 _ _ ha
    · exact s5 _ _ (s4 _ _ (s3 _ _ e2))
    · exact s5 _ _ (s4 _ _ e3)
    · exact s5 _ _ upd_same

theorem has_first_stage {P : Program} {w : World} {K : PySem.W.Frag} {mg : Str → Option Value} {base : Heap} (T : Tx K mg) : Has P w K mg base CX0 3 "first_stage" ["draft", "spools"] (sp_first_stage K) := ok_first_stage T
theorem ok_twisted {P : Program} {w : World} {K : PySem.W.Frag} {mg : Str → Option Value} {base : Heap} (T : Tx K mg) : Has P w K mg base (L2N.CX P w) 3 "twisted" ["stage", "row", "most"] (sp_twisted K) := by
  refine T.d_twisted.has sc_twisted (fun vs H Q E h => ?_) (fun f cdv A outer s H vs Q E hr h => ?_)
  · obtain ⟨_, _, _, _, rfl, _⟩ := h
    rfl
  · obtain ⟨p, s, z, most, rfl, hs, hok, hf, q1, q0⟩ := h
    refine ⟨_, (pss_cons (ps_set (i := 3) sc_twisted.nd rfl (Or.inl rfl) (pe_lst pa_nil)) (pss_cons (ps_for (passes_of rfl) rfl (pi_enumS (by rfl) T.m_enumerate (pa_cons (pv 1) pa_nil)) (pg_tup rfl (pgs_cons (pg_name (i := 4) sc_twisted.nd rfl (Or.inl rfl)) (pgs_cons (pg_name (i := 5) sc_twisted.nd rfl (Or.inl rfl)) pgs_nil))) (pss_cons (ps_set (i := 6) sc_twisted.nd rfl (Or.inl rfl) (pe_op op_add (pe_ix ix_list (pe_fld (pv 0) rfl) (pv 4) (fun _ _ => rfl)) (pe_has (has_twisting T) (hr.mono (by decide)) (by rfl) pass0 (pa_cons (pe_ix ix_list (pe_fld (pv 0) rfl) (pv 4) (fun _ _ => rfl)) (pa_cons (pv 5) pa_nil))))) (pss_cons (ps_if (pt_cmpR op_gt (pe_callB call_abs (by rfl) T.m_abs (by decide +kernel) (pa_cons (pv 6) pa_nil)) (pv 2) (nomark _)) (pss_one (L2N.ps_raise rfl (L2N.takes_of rfl rfl rfl rfl) (pm_own T.e_TooTight (by rfl)))) pss_nil) (pss_one (ps_expr (pe_bm PySem.F.plainAttrs_list PySem.F.slot_list_append PySem.F.type_list_append mt_append (pv 3) (pa_cons (pv 6) pa_nil))))))) (pss_one (ps_ret (pv 3))))), ?_⟩
    obtain ⟨dx, a, b, c0, d0, hp, ha, hb, hc0, hd⟩ := hs
    obtain ⟨zl, zs, zf⟩ := fits_len hf
    obtain ⟨_, xsC, eC, sqC, dC⟩ := dp_lst ha
    cases eC
    obtain ⟨_, eT, sqT⟩ := dp_ints hb
    cases eT
    have twl : (twP s z.cps.toList).length = s.cards.length := by
      unfold twP
      rw [List.length_zipWith, List.length_zipWith, hok.tw]
      omega
    refine ⟨Nat.zero_le _, fun p1 n1 => ⟨_, rfl, z, rfl, for_it (J := IteS z) z.cps.size (fun i σ H' => (∃ o4 o5 o6, σ = [some (V.ref p), some (V.str z), some (V.int most), some (V.ref p1), o4, o5, o6]) ∧ PvI H p1 (twP s z.cps.toList) i H' ∧ tight most ((twP s z.cps.toList).take i) = false)
      ⟨⟨_, _, _, rfl⟩, .start n1, rfl⟩ (fun i σ H' hi h => hi) (fun σ H' h => rfl) ?_ ?_⟩⟩
    · rintro i σ H1 x H2 hi ⟨⟨o4, o5, o6, rfl⟩, pv, g1⟩ ⟨T1, c, rfl, nT, rfl, hc⟩
      have hc2 : z.cps.toList[i]? = some c := by rw [Array.getElem?_toList]; exact hc
      have sT := same_new (o := .tup [.int (i : Nat), .str ⟨#[c]⟩]) nT
      have s1 := pv.1.trans sT
      have hi2 : i < s.cards.length := by omega
      have ht : s.cards[i]? = some s.cards[i] := List.getElem?_eq_getElem hi2
      have htw : s.tw[i]? = some (s.tw[i]'(by rw [hok.tw]; exact hi2)) := List.getElem?_eq_getElem _
      obtain ⟨xc, hxc, dxc⟩ := card_put dC ht
      have htw2 : (s.tw.map V.int)[i]? = some (V.int (s.tw[i]'(by rw [hok.tw]; exact hi2))) := by rw [List.getElem?_map, htw]; rfl
      have hL : (twP s z.cps.toList)[i]? = some (s.tw[i]'(by rw [hok.tw]; exact hi2) + cTwist s.cards[i] c) := zw_at htw (zw_at ht hc2)
      refine ⟨T1, _, rfl, SqT.of upd_same, rfl, _, _, rfl, _, _, rfl, rfl, ?_⟩
      refine ⟨_, rfl, p, _, _, _, _, rfl, s1 _ _ hp, T.c_Stage, T.a_turned_by, rfl, _, rfl, b, _, _, _, rfl, rfl, s1.seq sqT, atI_nat htw2, ?_⟩
      refine ⟨_, rfl, p, _, _, _, _, rfl, s1 _ _ hp, T.c_Stage, T.a_cards, rfl, _, rfl, a, _, _, _, rfl, rfl, s1.seq sqC, atI_nat hxc, _, rfl, xc, s.cards[i], c, rfl, dp_mono s1 _ _ dxc, _, _, rfl, rfl, ?_⟩
      refine ⟨_, rfl, _, rfl, _, rfl, _, _, rfl, rfl, _, rfl, bb (fun g => ?_) fun g => ?_⟩
      · have g2 := of_decide_eq_true g
        refine q0 ?_ _ s1
        unfold tight
        rw [List.any_eq_true]
        exact ⟨_, List.mem_of_getElem? hL, decide_eq_true g2⟩
      · have g2 := of_decide_eq_false g
        obtain ⟨acc, e1, e2, e3⟩ := pv.step sT n1 hL (by have := hok.n8; omega)
        refine ⟨_, rfl, .inl ⟨rfl, _, SqL.of e1⟩, _, rfl, p1, _, _, rfl, rfl, e1, e2, ⟨_, _, _, rfl⟩, e3, ?_⟩
        unfold tight at g1 ⊢
        rw [List.take_succ, hL, List.any_append, g1]
        have g3 : decide (most < absI (s.tw[i]'(by rw [hok.tw]; exact hi2) + cTwist s.cards[i] c)) = false := decide_eq_false g2
        show (false || ([_].any fun t => decide (most < absI t))) = false
        rw [List.any_cons, List.any_nil, g3]
        rfl
    · rintro σ H1 ⟨⟨o4, o5, o6, rfl⟩, pv, g1⟩
      have e1 : (twP s z.cps.toList).take z.cps.size = twP s z.cps.toList := by rw [List.take_of_length_le (by omega)]
      obtain ⟨s1, e2⟩ := pv
      rw [e1] at g1 e2
      exact ⟨_, rfl, q1 g1 _ p1 s1 n1 e2⟩

theorem has_twisted {P : Program} {w : World} {K : PySem.W.Frag} {mg : Str → Option Value} {base : Heap} (T : Tx K mg) : Has P w K mg base (L2N.CX P w) 3 "twisted" ["stage", "row", "most"] (sp_twisted K) := ok_twisted T
theorem ok_stage_flipped {P : Program} {w : World} {K : PySem.W.Frag} {mg : Str → Option Value} {base : Heap} (T : Tx K mg) : Has P w K mg base CX0 3 "stage_flipped" ["stage", "k"] (sp_stage_flipped K) := by
  refine T.d_stage_flipped.has sc_stage_flipped (fun vs H Q E h => ?_) (fun f cdv A outer s H vs Q E hr h => ?_)
  · obtain ⟨_, _, _, rfl, _⟩ := h
    rfl
  · obtain ⟨p, s, k, rfl, hs, hok, hk, q⟩ := h
    refine ⟨_, PSs.nox ((pss_cons (ps_set (i := 2) sc_stage_flipped.nd rfl (Or.inl rfl) (pe_callTy call_list_of (by rfl) T.m_list (by decide +kernel) (pa_cons (pe_fld (pv 0) rfl) pa_nil))) (pss_cons (ps_asg (pe_has (has_flipped T) (hr.mono (by decide)) (by rfl) pass0 (pa_cons (pe_ix ix_list (pv 2) (pv 1) (fun _ _ => rfl)) pa_nil)) (pg_sub (pv 2) (pv 1) set_list)) (pss_one (ps_ret (pe_mk (mk_Stage T) (hr.mono (by decide)) (by rfl) pass0 (pa_cons (pv 2) (pa_cons (pe_callTy call_list_of (by rfl) T.m_list (by decide +kernel) (pa_cons (pe_fld (pv 0) rfl) pa_nil)) (pa_cons (pe_callTy call_list_of (by rfl) T.m_list (by decide +kernel) (pa_cons (pe_fld (pv 0) rfl) pa_nil)) (pa_cons (pe_callTy call_dictD (by rfl) T.m_dict (by decide +kernel) (pa_cons (pe_fld (pv 0) rfl) pa_nil)) pa_nil)))))))))), ?_⟩
    obtain ⟨dx, a, b, c0, d0, hp, ha, hb, hc0, hd⟩ := hs
    obtain ⟨_, xs, ea, sq, dC⟩ := dp_lst ha
    cases ea
    obtain ⟨_, eb, sqb⟩ := dp_ints hb
    cases eb
    obtain ⟨_, ec, sqc⟩ := dp_ints hc0
    cases ec
    have xl : xs.length = s.cards.length := by rw [dpA_len dC, List.length_map]
    have ht : s.cards[k]? = some s.cards[k] := List.getElem?_eq_getElem hk
    obtain ⟨x, hx, hxd⟩ := card_put dC ht
    refine ⟨_, rfl, p, _, _, _, _, rfl, hp, T.c_Stage, T.a_cards, rfl, a, xs, rfl, .inl sq, fun p1 n1 => ?_⟩
    have s1 := same_new (o := .lst xs) n1
    refine ⟨_, rfl, _, rfl, p1, _, _, _, rfl, rfl, SqL.of upd_same, atI_nat hx, x, _, rfl, dp_mono s1 _ _ hxd, hok.cards _ (List.getElem_mem hk), fun q1 nq => ?_⟩
    have s2 := s1.trans (same_new (o := tupC (cFlip s.cards[k])) nq)
    have e1 : (upd (upd H p1 (.lst xs)) q1 (tupC (cFlip s.cards[k]))) p1 = some (.lst xs) := (same_new nq) _ _ upd_same
    have hix : ixN xs.length (k : Int) = some k := by
      unfold ixN
      rw [if_pos (by omega), if_pos (by omega)]
      rfl
    refine ⟨_, rfl, _, rfl, p1, xs, _, k, rfl, rfl, e1, hix, ?_⟩
    have s3 : Same H (upd (upd (upd H p1 (.lst xs)) q1 (tupC (cFlip s.cards[k]))) p1 (.lst (xs.set k (.ref q1)))) := same_put s2 n1
    have flp : (flipP s k).cards = s.cards.set k (cFlip s.cards[k]) := by
      show s.cards.set k (cFlip (s.cards.getD k _)) = _
      rw [List.getD_eq_getElem?_getD, ht]
      rfl
    refine ⟨_, rfl, _, rfl, p, _, _, _, _, rfl, s3 _ _ hp, T.c_Stage, T.a_turned_by, rfl, _, _, rfl, .inl (s3.seq sqb), fun p2 n2 => ?_⟩
    have s4 := s3.trans (same_new (o := .lst (s.tw.map V.int)) n2)
    refine ⟨_, rfl, p, _, _, _, _, rfl, s4 _ _ hp, T.c_Stage, T.a_farthest, rfl, _, _, rfl, .inl (s4.seq sqc), fun p3 n3 => ?_⟩
    have s5 := s4.trans (same_new (o := .lst (s.far.map V.int)) n3)
    refine ⟨_, rfl, p, _, _, _, _, rfl, s5 _ _ hp, T.c_Stage, T.a_lengths, rfl, d0, _, rfl, .inl (s5 _ _ hd), fun p4 n4 => ?_⟩
    have s6 := s5.trans (same_new (o := .dK (eL s.left)) n4)
    intro y dy ny ndy nyd
    refine ⟨y, dy, _, _, _, _, rfl, upd_same, fun H5 ho hy => ⟨rfl, ?_⟩⟩
    have s7 : Same (upd (upd (upd (upd (upd (upd H p1 (.lst xs)) q1 (tupC (cFlip s.cards[k]))) p1 (.lst (xs.set k (.ref q1)))) p2 (.lst (s.tw.map V.int))) p3 (.lst (s.far.map V.int))) p4 (.dK (eL s.left))) H5 := fun b o e => by
      have ne : b ≠ y := ne_of_none e ny
      rw [ho b ne, upd_ne ne, upd_ne (ne_of_none e ndy)]
      exact e
    have s8 := s6.trans s7
    refine q H5 y s8 ⟨dy, p1, p2, p3, p4, xs.set k (.ref q1), s6.free ny, n1, s3.free n2, s4.free n3, s5.free n4, hy, ?_, ?_, ?_, ?_, ?_⟩
    · exact s7 _ _ ((same_new n4) _ _ ((same_new n3) _ _ ((same_new n2) _ _ upd_same)))
    · rw [flp]
      have base : DpAll K (upd (upd H p1 (.lst xs)) q1 (tupC (cFlip s.cards[k]))) (xs.set k (.ref q1)) ((s.cards.set k (cFlip s.cards[k])).map cD) := by
        rw [List.map_set]
        exact dpA_set (dpA_mono s2 _ _ dC) (card_of (SqT.of upd_same))
      refine dpA_mono s7 _ _ (dpA_mono (same_new n4) _ _ (dpA_mono (same_new n3) _ _ (dpA_mono (same_new n2) _ _ (dpA_ts (ts_upd e1 nt_lst) (flat_c _) base))))
    · exact s7 _ _ ((same_new n4) _ _ ((same_new n3) _ _ upd_same))
    · exact s7 _ _ ((same_new n4) _ _ upd_same)
    · exact s7 _ _ upd_same

theorem has_stage_flipped {P : Program} {w : World} {K : PySem.W.Frag} {mg : Str → Option Value} {base : Heap} (T : Tx K mg) : Has P w K mg base CX0 3 "stage_flipped" ["stage", "k"] (sp_stage_flipped K) := ok_stage_flipped T
theorem ok_read_tablet {P : Program} {w : World} {K : PySem.W.Frag} {mg : Str → Option Value} {base : Heap} (T : Tx K mg) : Has P w K mg base (CX3 P w) 3 "read_tablet" ["words"] (sp_read_tablet K) := by
  refine T.d_read_tablet.has sc_read_tablet (fun vs H Q E h => ?_) (fun f cdv A outer s H vs Q E hr h => ?_)
  · obtain ⟨_, _, rfl, _⟩ := h
    rfl
  · obtain ⟨v, x, rfl, hv, hsz, q1, q0⟩ := h
    refine ⟨_, (pss_cons (ps_if (pt_cmpR op_ne (pe_callB call_len_seq (by rfl) T.m_len PySem.boot_len (pa_cons (pv 0) pa_nil)) pe_int (nomark _)) (pss_one (L2N.ps_raise rfl (takes3_of rfl rfl rfl rfl).n (pm_own T.e_BadText (by rfl)))) pss_nil) (pss_one (ps_try3 (X := (cxOf (CX3 P w) P w K mg base N_read_tablet "read_tablet" (defScope s_read_tablet) f cdv A outer s H E)) rfl rfl (caught_name (nm_of T.e_BadTablet (by rfl))) (fun hd => L2H.passesAt_of rfl hd) (takes3_of rfl rfl rfl rfl) (fun W pn xe tk _ => pss_one (ps_ret (pe_hasS (X := (cxOf (CX3 P w) P w K mg base N_read_tablet "read_tablet" (defScope s_read_tablet) f cdv A outer s H E).tr pn xe) (has_made T) (hr.mono (by decide)) (by rfl) (fun σ => L2N.passAt tk σ) (pa_cons (pe_ix (r := rIxL K) ix_list (pv 0) pe_int (fun _ _ => rfl)) (pa_cons (pe_ix (r := rIxL K) ix_list (pv 0) pe_int (fun _ _ => rfl)) (pa_cons (pe_hasS (X := (cxOf (CX3 P w) P w K mg base N_read_tablet "read_tablet" (defScope s_read_tablet) f cdv A outer s H E).tr pn xe) (has_number_of T) (hr.mono (by decide)) (by rfl) (fun σ => L2N.passAt tk σ) (pa_cons (pe_ix (r := rIxL K) ix_list (pv 0) pe_int (fun _ _ => rfl)) pa_nil)) pa_nil)))))) (fun a oe cls d pn hz hf tk3 hot => pss_one (ps_raise3 (te := fun _ H Q => Q (.ref (He.ga K "BadText")) none H) hot tk3 (pm5_own (X := L2H.suiteX (cxOf (CX3 P w) P w K mg base N_read_tablet "read_tablet" (defScope s_read_tablet) f cdv A outer s H E) a ((a, oe) :: pn)) (x := "BadText") T.e_BadText (by rfl))))))), ?_⟩
    obtain ⟨b, rfl, sb⟩ := dp_strs hv
    have bad : tabletM x = none → ∀ {H2 : Hp}, Same H H2 → E (.ref (He.ga K "BadText")) none H2 := fun e _ s => q0 e _ s
    refine ⟨_, rfl, b, _, rfl, .inl sb, rfl, _, rfl, bb (fun k => ?_) fun k => ?_⟩
    · rw [dec_i, Bool.not_eq_true', decide_eq_false_iff_not] at k
      exact bad (tabletM_len (fun z => k (by rw [List.length_map, z]; rfl))) (Same.refl _)
    rw [dec_i, Bool.not_eq_false', decide_eq_true_eq, List.length_map] at k
    obtain ⟨w0, lay, holes, st, rfl⟩ := four_ (show x.length = 4 by omega)
    have h16 : ∀ {z : Str}, z.length ≤ 1000000 → z.length ≤ sizeLine := fun h => by rw [sizeLine_eq]; omega
    have tm : tabletM [w0, lay, holes, st] = (num st).bind fun n => if madeP lay holes n = true then some (lay, holes, n) else none := rfl
    refine ⟨_, rfl, b, _, _, _, rfl, rfl, sb, atI_nat (j := 1) (v := V.str lay) rfl, _, rfl, b, _, _, _, rfl, rfl, sb, atI_nat (j := 2) (v := V.str holes) rfl, _, rfl, b, _, _, _, rfl, rfl, sb, atI_nat (j := 3) (v := V.str st) rfl, st, rfl, h16 (hsz _ (by simp)), fun n hn => ?_, fun hn H2 s2 => ?_⟩
    · refine ⟨lay, holes, n, rfl, h16 (hsz _ (by simp)), fun hm H2 p s2 sp => ?_, fun hm H2 s2 => ?_⟩
      · exact q1 (lay, holes, n) (by rw [tm, hn]; exact if_pos hm) H2 _ s2 (card_of sp)
      · refine ⟨true, ?_, fun _ a na => bad (by rw [tm, hn]; exact if_neg (by rw [hm]; exact Bool.false_ne_true)) s2, fun z => Bool.noConfusion z⟩
        exact (T.ex "BadTablet" (by decide) "BadTablet" (by decide)).trans (by decide)
    · refine ⟨false, T.ey "BadTablet" (by decide), fun z => Bool.noConfusion z, fun _ => bad (by rw [tm, hn]; rfl) s2⟩

theorem has_read_tablet {P : Program} {w : World} {K : PySem.W.Frag} {mg : Str → Option Value} {base : Heap} (T : Tx K mg) : Has P w K mg base (CX3 P w) 3 "read_tablet" ["words"] (sp_read_tablet K) := ok_read_tablet T
theorem ok_l_card {P : Program} {w : World} {K : PySem.W.Frag} {mg : Str → Option Value} {base : Heap} (T : Tx K mg) : Has P w K mg base CX0 3 "_law_card" ["_law_cell"] sp_l_card := by
  refine T.d_l_card.has sc_l_card (fun vs H Q E h => ?_) (fun f cdv A outer s H vs Q E hr h => ?_)
  · obtain ⟨_, rfl, _⟩ := h
    rfl
  · obtain ⟨c, rfl, q⟩ := h
    refine ⟨_, PSs.nox ((pss_one (ps_ret (pe_tup (pa_cons (pe_ix ix_str pe_str (pe_op op_mod (pv 0) pe_int) (fun _ _ => rfl)) (pa_cons (pe_has (has__law_holes T) (hr.mono (by decide)) (by rfl) pass0 (pa_cons (pe_op op_fdiv (pv 0) pe_int) pa_nil)) (pa_cons (pe_op op_mod (pe_op op_fdiv (pv 0) pe_int) pe_int) pa_nil))))))), ?_⟩
    have lay : ∃ d, atI (PySem.Str.ofString "SZ").cps.toList (c % 2) = some d ∧ (decide ((sg d) = "S") || decide ((sg d) = "Z")) = true := by
      have h : c % 2 = 0 ∨ c % 2 = 1 := by omega
      rcases h with e | e <;> rw [e]
      · exact ⟨83, by decide +kernel, by decide +kernel⟩
      · exact ⟨90, by decide +kernel, by decide +kernel⟩
    obtain ⟨d, hd, hlay⟩ := lay
    refine ⟨_, rfl, _, _, rfl, rfl, (by show (0 : Int) < 2; decide), _, _, d, rfl, rfl, (by rw [sizeLine_eq]; exact (by decide : (2 : Nat) ≤ 16777216)), hd, ?_⟩
    refine ⟨_, rfl, _, _, rfl, rfl, ⟨by decide, by decide⟩, _, rfl, fun H2 z s2 lz az => ⟨_, rfl, _, _, rfl, rfl, ⟨by decide, by decide⟩, _, _, rfl, rfl, (by show (0 : Int) < 4; decide), (by show 3 ≤ sizeLine; decide), fun p np => ?_⟩⟩
    refine q _ p (sg d, z, c / 2 % 4) (s2.trans (same_new np)) (s2.free np) upd_same ?_
    unfold CardOk madeP
    rw [hlay, decide_eq_true lz, az, decide_eq_true (⟨by omega, by omega⟩ : 0 ≤ c / 2 % 4 ∧ c / 2 % 4 ≤ 3)]
    rfl

theorem has__law_card {P : Program} {w : World} {K : PySem.W.Frag} {mg : Str → Option Value} {base : Heap} (T : Tx K mg) : Has P w K mg base CX0 3 "_law_card" ["_law_cell"] sp_l_card := ok_l_card T
theorem ok_l_rowtext {P : Program} {w : World} {K : PySem.W.Frag} {mg : Str → Option Value} {base : Heap} (T : Tx K mg) : Has P w K mg base CX0 3 "_law_rowtext" ["_law_cell", "_law_width"] sp_l_rowtext := by
  refine T.d_l_rowtext.has sc_l_rowtext (fun vs H Q E h => ?_) (fun f cdv A outer s H vs Q E hr h => ?_)
  · obtain ⟨_, _, rfl, _⟩ := h
    rfl
  · obtain ⟨c, n, rfl, hn, q⟩ := h
    refine ⟨_, PSs.nox ((pss_cons (ps_if (pt_cmpR op_eq (pe_op op_mod (pv 0) pe_int) pe_int (nomark _)) (pss_one (ps_ret (pe_has (has__law_spoil T) (hr.mono (by decide)) (by rfl) pass0 (pa_cons (pe_slice sl_str pe_str po_none (po_some (pv 1))) (pa_cons (pe_op op_fdiv (pv 0) pe_int) pa_nil))))) pss_nil) (pss_cons (ps_if (pt_cmpR op_eq (pe_op op_mod (pv 0) pe_int) pe_int (nomark _)) (pss_one (ps_ret (pe_op op_repS (pe_ix ix_str pe_str (pe_op op_mod (pe_op op_fdiv (pv 0) pe_int) pe_int) (fun _ _ => rfl)) (pv 1)))) pss_nil) (pss_one (ps_ret (pe_has (has__law_turns T) (hr.mono (by decide)) (by rfl) pass0 (pa_cons (pe_op op_fdiv (pv 0) pe_int) (pa_cons (pv 1) pa_nil)))))))), ?_⟩
    have fb : ∀ i : Int, 0 ≤ i → i < 3 → ∃ d, atI (PySem.Str.ofString "fbi").cps.toList i = some d := fun i h0 h1 => by
      obtain ⟨d, hd, _⟩ := hole_at (z := PySem.Str.ofString "fbi") (n := 3) (by decide +kernel) h0 h1
      exact ⟨d, hd⟩
    refine ⟨_, rfl, _, _, rfl, rfl, (by show (0 : Int) < 9; decide), rfl, _, rfl, bb (fun g => ?_) fun g => ?_⟩
    · have l8 := cut_len (PySem.Str.ofString "fbibfbif") none (some (n : Int))
      have e8 : (PySem.Str.ofString "fbibfbif").length = 8 := by decide +kernel
      refine ⟨_, rfl, _, rfl, _, rfl, (by rw [e8, sizeLine_eq]; decide), _, rfl, _, _, rfl, rfl, ⟨by decide, by decide⟩, _, _, rfl, (by omega), fun z' hz => q _ z' (Same.refl _) (by omega)⟩
    refine ⟨_, rfl, _, _, rfl, rfl, (by show (0 : Int) < 9; decide), rfl, _, rfl, bb (fun g => ?_) fun g => ?_⟩
    · obtain ⟨d, hd⟩ := fb (c / 9 % 3) (by omega) (by omega)
      refine ⟨_, rfl, _, _, rfl, rfl, ⟨by decide, by decide⟩, _, _, rfl, rfl, (by show (0 : Int) < 3; decide), _, _, d, rfl, rfl, (by rw [sizeLine_eq]; exact (by decide : (3 : Nat) ≤ 16777216)), hd, _, rfl, d, n, rfl, rfl, by omega, fun z lz _ => q _ z (Same.refl _) (by show z.cps.size ≤ 35; omega)⟩
    · exact ⟨_, rfl, _, _, rfl, rfl, ⟨by decide, by decide⟩, _, rfl, _, n, rfl, hn, fun H2 z s2 hz => q _ z s2 (by omega)⟩

theorem has__law_rowtext {P : Program} {w : World} {K : PySem.W.Frag} {mg : Str → Option Value} {base : Heap} (T : Tx K mg) : Has P w K mg base CX0 3 "_law_rowtext" ["_law_cell", "_law_width"] sp_l_rowtext := ok_l_rowtext T
theorem ok_l_after {P : Program} {w : World} {K : PySem.W.Frag} {mg : Str → Option Value} {base : Heap} (T : Tx K mg) : Has P w K mg base CX0 3 "_law_after" ["_law_state", "_law_row_here", "_law_most_here"] (sp_l_after K) := by
  refine T.d_l_after.has sc_l_after (fun vs H Q E h => ?_) (fun f cdv A outer s H vs Q E hr h => ?_)
  · obtain ⟨_, _, _, _, _, rfl, _⟩ := h
    rfl
  · obtain ⟨v, s, z, most, N, rfl, hst, hok, hz, hN, q1, q0⟩ := h
    refine ⟨_, PSs.nox ((pss_cons (ps_asg (pv 0) (pg_tup rfl (pgs_cons (pg_name (i := 3) sc_l_after.nd rfl (Or.inl rfl)) (pgs_cons (pg_name (i := 4) sc_l_after.nd rfl (Or.inl rfl)) (pgs_cons (pg_name (i := 5) sc_l_after.nd rfl (Or.inl rfl)) (pgs_cons (pg_name (i := 6) sc_l_after.nd rfl (Or.inr rfl)) pgs_nil)))))) (pss_cons (ps_if (PW.pt (pw_or (pt_cmpR op_ne (pe_callB call_len_str (by rfl) T.m_len PySem.boot_len (pa_cons (pv 1) pa_nil)) (pe_callB call_len_seq (by rfl) T.m_len PySem.boot_len (pa_cons (pv 3) pa_nil)) (nomark _)) (pw_or1 (pt_cmpR op_gt (pe_callB call_len_seq (by rfl) T.m_len PySem.boot_len (pa_cons (pe_lc (own := [("_law_turn", 8)]) (g := (gName 8)) (tt := _) rfl sc_l_after.nd (pi_str (pv 1)) (blkOk_by (own := [("_law_turn", 8)]) (N := N_l_after) (sc := defScope s_l_after) (by decide +kernel)) (fun _ _ _ _ _ => (pg_name (i := 8) sc_l_after.nd rfl (Or.inl rfl))) (fun _ _ _ _ _ => (pts_one (pt_cmpR op_notIn_sign (pv 8) pe_str rfl))) (fun _ _ _ _ _ => (pv 8))) pa_nil)) pe_int (nomark _))))) (pss_one (ps_ret pe_str)) pss_nil) (pss_cons (ps_setLc (i := 4) (own := [("_law_one", 10), ("_law_card_here", 7), ("_law_turn", 8)]) (g := (gTup K 3 (gCons (gName 10) (gCons (gName 7) (gCons (gName 8) gNil))))) (tt := tYes) rfl sc_l_after.nd rfl rfl (sw_true rfl rfl rfl (by decide +kernel)) (pi_zip3 (by rfl) T.m_zip (pa_cons (pv 4) (pa_cons (pv 3) (pa_cons (pv 1) pa_nil)))) (blkOk_by (own := [("_law_one", 10), ("_law_card_here", 7), ("_law_turn", 8)]) (N := N_l_after) (sc := defScope s_l_after) (by decide +kernel)) (fun _ _ _ _ _ => (pg_tup rfl (pgs_cons (pg_name (i := 10) sc_l_after.nd rfl (Or.inl rfl)) (pgs_cons (pg_name (i := 7) sc_l_after.nd rfl (Or.inl rfl)) (pgs_cons (pg_name (i := 8) sc_l_after.nd rfl (Or.inl rfl)) pgs_nil))))) (fun _ _ _ _ _ => pts_nil) (fun _ _ _ _ _ => (pe_op op_add (pv 10) (pe_has (has__law_twist T) (hr.mono (by decide)) (by rfl) pass0 (pa_cons (pv 7) (pa_cons (pv 8) pa_nil)))))) (pss_cons (ps_if (pt_cmpR op_gt (pe_callB (cr_max rfl) (by rfl) T.m_max (by decide +kernel) (pa_cons (pe_lc (own := [("_law_one", 10)]) (g := (gName 10)) (tt := tYes) rfl sc_l_after.nd (pi_list (pv 4)) (blkOk_by (own := [("_law_one", 10)]) (N := N_l_after) (sc := defScope s_l_after) (by decide +kernel)) (fun _ _ _ _ _ => (pg_name (i := 10) sc_l_after.nd rfl (Or.inl rfl))) (fun _ _ _ _ _ => pts_nil) (fun _ _ _ _ _ => (pe_callB call_abs (by rfl) T.m_abs (by decide +kernel) (pa_cons (pv 10) pa_nil)))) pa_nil)) (pv 2) (nomark _)) (pss_one (ps_ret pe_str)) pss_nil) (pss_cons (ps_set (i := 6) sc_l_after.nd rfl (Or.inr rfl) (pe_callTy call_dictD (by rfl) T.m_dict (by decide +kernel) (pa_cons (pv 6) pa_nil))) (pss_cons (ps_for PassesOwn.never rfl (pi_zipS (by rfl) T.m_zip (pa_cons (pv 3) (pa_cons (pv 1) pa_nil))) (pg_tup rfl (pgs_cons (pg_name (i := 7) sc_l_after.nd rfl (Or.inl rfl)) (pgs_cons (pg_name (i := 8) sc_l_after.nd rfl (Or.inl rfl)) pgs_nil))) (pss_one (ps_for PassesOwn.never rfl (pi_str (pe_ix ix_tup (pv 7) pe_int (fun _ _ => rfl))) (pg_name (i := 9) sc_l_after.nd rfl (Or.inl rfl)) (pss_one (ps_dput (hu_of hr) (pv 6) (pv 9) (pe_op op_add (pe_op op_sub (pe_dget2 (hu_of hr) (pv 6) (pv 9) pe_int ⟨rfl, rfl, rfl, rfl⟩) pe_int) (pe_callTy call_int1 (by rfl) T.m_int (by decide +kernel) (pa_cons (pe_cmpR op_eq (pv 8) pe_str (nomark _)) pa_nil))) rfl))))) (pss_cons (ps_if (pt_cmpR op_lt (pe_callB (cr_min rfl) (by rfl) T.m_min (by decide +kernel) (pa_cons (pe_lock (pe_lc (own := [("_law_colour", 9)]) (g := (gName 9)) (tt := tYes) rfl sc_l_after.nd (pi_keys (pv 6)) (blkOk_by (own := [("_law_colour", 9)]) (N := N_l_after) (sc := defScope s_l_after) (by decide +kernel)) (fun _ _ _ _ _ => (pg_name (i := 9) sc_l_after.nd rfl (Or.inl rfl))) (fun _ _ _ _ _ => pts_nil) (fun _ _ _ _ _ => (pe_dget (hu_of hr) (pv 6) (pv 9) (fun _ _ => rfl))))) pa_nil)) pe_int (nomark _)) (pss_one (ps_ret pe_str)) pss_nil) (pss_cons (ps_setLc (i := 5) (own := [("_law_one", 10), ("_law_other", 11)]) (g := (gTup K 2 (gCons (gName 10) (gCons (gName 11) gNil)))) (tt := tYes) rfl sc_l_after.nd rfl rfl (sw_true rfl rfl rfl (by decide +kernel)) (pi_zip (by rfl) T.m_zip (pa_cons (pv 5) (pa_cons (pv 4) pa_nil))) (blkOk_by (own := [("_law_one", 10), ("_law_other", 11)]) (N := N_l_after) (sc := defScope s_l_after) (by decide +kernel)) (fun _ _ _ _ _ => (pg_tup rfl (pgs_cons (pg_name (i := 10) sc_l_after.nd rfl (Or.inl rfl)) (pgs_cons (pg_name (i := 11) sc_l_after.nd rfl (Or.inl rfl)) pgs_nil)))) (fun _ _ _ _ _ => pts_nil) (fun _ _ _ _ _ => (pe_callB (call_max2 rfl) (by rfl) T.m_max (by decide +kernel) (pa_cons (pv 10) (pa_cons (pe_callB call_abs (by rfl) T.m_abs (by decide +kernel) (pa_cons (pv 11) pa_nil)) pa_nil))))) (pss_one (ps_ret (pe_tup (pa_cons (pe_lc (own := [("_law_card_here", 7), ("_law_turn", 8)]) (g := (gTup K 2 (gCons (gName 7) (gCons (gName 8) gNil)))) (tt := tYes) rfl sc_l_after.nd (pi_zipS (by rfl) T.m_zip (pa_cons (pv 3) (pa_cons (pv 1) pa_nil))) (blkOk_by (own := [("_law_card_here", 7), ("_law_turn", 8)]) (N := N_l_after) (sc := defScope s_l_after) (by decide +kernel)) (fun _ _ _ _ _ => (pg_tup rfl (pgs_cons (pg_name (i := 7) sc_l_after.nd rfl (Or.inl rfl)) (pgs_cons (pg_name (i := 8) sc_l_after.nd rfl (Or.inl rfl)) pgs_nil)))) (fun _ _ _ _ _ => pts_nil) (fun _ _ _ _ _ => (pe_has (has__law_behind T) (hr.mono (by decide)) (by rfl) pass0 (pa_cons (pv 7) (pa_cons (pv 8) pa_nil))))) (pa_cons (pv 4) (pa_cons (pv 5) (pa_cons (pv 6) pa_nil)))))))))))))))), ?_⟩
    obtain ⟨a, l1, l2, l3, d, rfl, sq, h1, h2, h3, h4⟩ := hst
    obtain ⟨_, xs, e, sqc, hc⟩ := dp_lst h1
    cases e
    obtain ⟨_, e, sqt⟩ := dp_ints h2
    cases e
    obtain ⟨_, e, sqf⟩ := dp_ints h3
    cases e
    have xl : xs.length = s.cards.length := by rw [dpA_len hc, List.length_map]
    refine ⟨_, rfl, a, _, rfl, sq, rfl, _, _, rfl, _, _, rfl, _, _, rfl, _, _, rfl, rfl, ?_⟩
    refine ⟨_, rfl, z, rfl, hz, _, rfl, l1, xs, rfl, .inl sqc, rfl, _, rfl, bb (fun g => ?_) fun g => ?_⟩
    · rw [dec_i, Bool.not_eq_true', decide_eq_false_iff_not] at g
      refine iteT (q0 ?_ _ _ (Same.refl _))
      unfold rowP fitsP
      rw [decide_eq_false (fun k => g (by rw [k, xl]))]
      rfl
    rw [dec_i, Bool.not_eq_false', decide_eq_true_eq] at g
    have hl : z.length = s.cards.length := by omega
    refine ⟨_, rfl, z, rfl, fun D nD => ?_⟩
    have fbim : ∀ c, decide (c ∈ (PySem.Str.ofString "fbi").cps.toList) = fbi c := fun c => by
      have e : (PySem.Str.ofString "fbi").cps.toList = [102, 98, 105] := by decide +kernel
      rw [e]
      unfold fbi
      rw [Bool.eq_iff_iff, decide_eq_true_eq, decide_eq_true_eq]
      simp
    refine lc_it (J := Its z) z.cps.size (fun i H' => Same H H' ∧ ∃ n, n ≤ i ∧ (n = 0 ↔ (z.cps.toList.take i).all fbi = true) ∧ ∃ acc, H' D = some (.lst acc) ∧ acc.length = n) ⟨same_new nD, 0, Nat.le_refl _, by simp, [], upd_same, rfl⟩ (fun i H' hi _ => hi) (fun H' _ => Nat.le_refl _) (fun i H' x H2 hi h y => ?_) fun H2 h2 => ?_
    · obtain ⟨s1, n, hn, hz0, acc, ea, la⟩ := h
      obtain ⟨rfl, c, hc1, rfl⟩ := y
      have hc2 : z.cps.toList[i]? = some c := by rw [Array.getElem?_toList]; exact hc1
      refine ⟨rfl, _, rfl, c, _, rfl, rfl, _, rfl, ?_⟩
      rw [fbim]
      have zl : i < s.cards.length := by have : z.cps.size = z.length := rfl; omega
      have h8 := hok.n8
      cases hf : fbi c with
      | true =>
        refine iteF ⟨s1, n, by omega, ?_, acc, ea, la⟩
        rw [hz0, List.take_succ, hc2, List.all_append]
        simp [hf]
      | false =>
        refine iteT ⟨_, rfl, acc, ea, small_line (by omega), same_put s1 nD, n + 1, by omega, ?_, _, upd_same, by rw [List.length_append, la]; rfl⟩
        rw [List.take_succ, hc2, List.all_append]
        simp [hf]
    obtain ⟨s1, n, hn, hz0, acc, ea, la⟩ := h2
    rw [show z.cps.size = z.cps.toList.length from (Array.length_toList ..).symm, List.take_length] at hz0
    refine ⟨D, acc, rfl, .inl (SqL.of ea), _, _, rfl, rfl, _, rfl, bb (fun g2 => ?_) fun g2 => ?_⟩
    · have g3 := of_decide_eq_true g2
      refine q0 ?_ _ _ s1
      have : z.cps.toList.all fbi = false := by
        cases e : z.cps.toList.all fbi with
        | false => rfl
        | true => have := hz0.mpr e; omega
      unfold rowP fitsP
      rw [this, Bool.and_false]
      rfl
    have g3 := of_decide_eq_false g2
    have zf : z.cps.toList.all fbi = true := hz0.mp (by omega)
    have hf : fitsP z s.cards.length = true := by
      unfold fitsP
      rw [decide_eq_true hl, zf]
      rfl
    obtain ⟨zl, zs, _⟩ := fits_len hf
    have h8 := hok.n8
    have twl : (twP s z.cps.toList).length = s.cards.length := by
      unfold twP
      rw [List.length_zipWith, List.length_zipWith, hok.tw]
      omega
    have fl : (farP s.far (twP s z.cps.toList)).length = s.cards.length := by
      unfold farP
      rw [List.length_zipWith, twl, hok.far]
      omega
    have tnl := turn_len hf
    refine ⟨_, rfl, _, rfl, _, rfl, l2, l1, z, _, xs, rfl, s1.seq sqt, s1.seq sqc, fun D2 nD2 => ?_⟩
    refine lc_it (J := ItzT3 K l2 l1 z) s.cards.length (PvI _ D2 (twP s z.cps.toList)) (.start nD2) (fun i H' hi h => ⟨_, xs, (s1.trans h.1).seq sqt, (s1.trans h.1).seq sqc, by rw [List.length_map, hok.tw]; exact hi, by omega, by omega⟩) (fun H' h => ⟨_, xs, (s1.trans h.1).seq sqt, (s1.trans h.1).seq sqc, by rw [List.length_map, hok.tw]; exact Nat.le_refl _, by omega, by omega, .inr (.inl (by omega))⟩) (fun i H' x H3 hi h y => ?_) fun H3 h3' => ?_
    · obtain ⟨T1, u, v, c, rfl, nT, rfl, hc1, hu, hv⟩ := y
      have hc2 : z.cps.toList[i]? = some c := by rw [Array.getElem?_toList]; exact hc1
      have hu := hu _ ((s1.trans h.1).seq sqt)
      have hv := hv _ ((s1.trans h.1).seq sqc)
      rw [List.getElem?_map] at hu
      obtain ⟨ti, hti, rfl⟩ := Option.map_eq_some_iff.mp hu
      obtain ⟨t, ht, hvd⟩ := card_get hc hv
      have sT := same_new (o := .tup [V.int ti, v, V.str ⟨#[c]⟩]) nT
      refine ⟨T1, _, rfl, SqT.of upd_same, rfl, _, _, rfl, _, _, rfl, _, _, rfl, rfl, rfl, ?_⟩
      refine ⟨_, rfl, _, rfl, _, rfl, v, t, c, rfl, dp_mono ((s1.trans h.1).trans sT) _ _ hvd, all_at zf hc2, _, _, rfl, rfl, ?_⟩
      exact h.step sT nD2 (zw_at hti (zw_at ht hc2)) (by omega)
    obtain ⟨s2, e2⟩ := h3'
    rw [List.take_of_length_le (by omega)] at e2
    have s12 := s1.trans s2
    refine ⟨_, rfl, D2, rfl, ⟨_, SqL.of e2⟩, fun D3 nD3 => ?_⟩
    refine lc_list (K := K) (a := D2) (xs := (twP s z.cps.toList).map V.int) (PvI _ D3 ((twP s z.cps.toList).map absI)) (.start nD3) (fun i H' _ h => h.1.seq (SqL.of e2)) (fun i x H' hx h => ?_) fun H4 h4' => ?_
    · rw [List.getElem?_map] at hx
      obtain ⟨ti, hti, rfl⟩ := Option.map_eq_some_iff.mp hx
      refine ⟨rfl, ?_⟩
      refine ⟨_, rfl, _, rfl, ?_⟩
      exact h.step (Same.refl _) nD3 (v := absI ti) (by rw [List.getElem?_map, hti]; rfl) (by rw [List.length_map]; omega)
    obtain ⟨s3, e3⟩ := h4'
    rw [List.length_map, List.take_of_length_le (by rw [List.length_map]; exact Nat.le_refl _)] at e3
    have s13 := s12.trans s3
    have hpos : 0 < ((twP s z.cps.toList).map absI).length := by
      rw [List.length_map, twl]
      exact List.length_pos_iff.mpr hok.n1
    refine ⟨D3, (twP s z.cps.toList).map absI, rfl, SqL.of e3, hpos, fun m hm hall => ⟨_, rfl, _, _, rfl, rfl, _, rfl, bb (fun g4 => ?_) fun g4 => ?_⟩⟩
    · have g5 := of_decide_eq_true g4
      refine q0 ?_ _ _ s13
      have : tight most (twP s z.cps.toList) = true := by
        obtain ⟨y, hy, rfl⟩ := List.mem_map.mp hm
        unfold tight
        rw [List.any_eq_true]
        exact ⟨y, hy, decide_eq_true g5⟩
      unfold rowP
      rw [if_pos hf, if_pos this]
    have g5 := of_decide_eq_false g4
    have nt : tight most (twP s z.cps.toList) = false := by
      unfold tight
      rw [List.any_eq_false]
      intro y hy
      have := hall (absI y) (List.mem_map.mpr ⟨y, hy, rfl⟩)
      simp
      omega
    refine ⟨_, rfl, d, _, rfl, .inl (s13 _ _ h4), fun p4 n4 => ?_⟩
    have s4 := s13.trans (same_new (o := .dK (eL s.left)) n4)
    have e2a := (s3.trans (same_new (o := .dK (eL s.left)) n4)) _ _ e2
    have n4H : H p4 = none := s13.free n4
    have D2p : D2 ≠ p4 := ne_of_none (s3 _ _ e2) n4
    have few := hok.few
    refine ⟨_, rfl, _, rfl, l1, z, xs, rfl, s4.seq sqc, for_it (J := ItzS K l1 z) s.cards.length (fun i σ H' => (∃ o7 o8 o9 o10 o11, σ = [some (V.ref a), some (V.str z), some (V.int most), some (V.ref l1), some (V.ref D2), some (V.ref l3), some (V.ref p4), o7, o8, o9, o10, o11]) ∧ Same H H' ∧ H' D2 = some (.lst ((twP s z.cps.toList).map V.int)) ∧ H' p4 = some (.dK (eL ((drw (s.cards.take i) (z.cps.toList.take i)).foldl subOne s.left))))
      ⟨⟨_, _, _, _, _, rfl⟩, s4, e2a, upd_same⟩ (fun i σ H' hi h => ⟨xs, h.2.1.seq sqc, by omega, by omega⟩) (fun σ H' h => ⟨xs, h.2.1.seq sqc, by omega, by omega, .inl xl.symm⟩) ?_ ?_⟩
    · rintro i σ H5 x H6 hi ⟨⟨o7, o8, o9, o10, o11, rfl⟩, s5, eD, e5⟩ ⟨T1, x, c, rfl, nT, rfl, hc1, hx⟩
      have hc2 : z.cps.toList[i]? = some c := by rw [Array.getElem?_toList]; exact hc1
      obtain ⟨t, ht, hxd⟩ := card_get hc (hx xs (s5.seq sqc))
      have okt := hok.cards t (List.mem_of_getElem? ht)
      have sT := same_new (o := .tup [x, .str ⟨#[c]⟩]) nT
      obtain ⟨ax, rfl, sx⟩ := card_at (dp_mono (s5.trans sT) _ _ hxd)
      obtain ⟨o1', o2', o3', o4', o5'⟩ := cardOk_parts okt
      have hsz : t.2.1.cps.size = 4 := by rw [← Array.length_toList]; exact o2'
      have h32 : (drw (s.cards.take i) (z.cps.toList.take i)).length ≤ 32 := by
        have h1 := drw_len (s.cards.take i) (z.cps.toList.take i) (fun t m => hok.cards t (List.mem_of_mem_take m))
        rw [List.length_take] at h1
        omega
      refine ⟨T1, _, rfl, SqT.of upd_same, rfl, _, _, rfl, _, _, rfl, rfl, ?_⟩
      refine ⟨_, rfl, ax, _, _, _, rfl, rfl, sx, atI_nat (j := 1) (v := V.str t.2.1) rfl, t.2.1, rfl, for_it (J := Its t.2.1) 4 (fun j σ H' => (∃ o9 o10 o11, σ = [some (V.ref a), some (V.str z), some (V.int most), some (V.ref l1), some (V.ref D2), some (V.ref l3), some (V.ref p4), some (V.ref ax), some (V.str ⟨#[c]⟩), o9, o10, o11]) ∧ Same H H' ∧ H' D2 = some (.lst ((twP s z.cps.toList).map V.int)) ∧ H' p4 = some (.dK (eL (((t.2.1.cps.toList.take j).map fun h => (h, if c = 105 then (1 : Int) else 2)).foldl subOne ((drw (s.cards.take i) (z.cps.toList.take i)).foldl subOne s.left)))))
        ⟨⟨_, _, _, rfl⟩, s5.trans sT, sT _ _ eD, sT _ _ e5⟩ (fun j σ H' hj h => (show j < t.2.1.cps.size by omega)) (fun σ H' h => (show t.2.1.cps.size ≤ 4 by omega)) ?_ ?_⟩
      · rintro j σ H7 x H8 hj ⟨⟨o9, o10, o11, rfl⟩, s7, eD7, e7⟩ ⟨rfl, dd, hd, rfl⟩
        have hd2 : t.2.1.cps.toList[j]? = some dd := by rw [Array.getElem?_toList]; exact hd
        have hlen := sub_len (((t.2.1.cps.toList.take j).map fun h => (h, if c = 105 then (1 : Int) else 2))) ((drw (s.cards.take i) (z.cps.toList.take i)).foldl subOne s.left)
        have hlen2 := sub_len (drw (s.cards.take i) (z.cps.toList.take i)) s.left
        rw [List.length_map, List.length_take] at hlen
        refine ⟨_, rfl, p4, rfl, .inl ⟨_, .inl e7⟩, _, rfl, _, gt_d e7, ?_⟩
        rw [getD_map]
        refine ⟨_, _, rfl, rfl, _, rfl, rfl, .inr ⟨_, rfl, _, _, rfl, rfl, _, rfl, _, rfl, p4, _, rfl, pt_d e7 (by rw [sizeLine_eq]; omega), ⟨_, _, _, rfl⟩, same_put s7 n4H, ?_, ?_⟩⟩
        · rw [upd_ne D2p]
          exact eD7
        · rw [take_map (fun h => (h, if c = 105 then (1 : Int) else 2)) hd2, List.foldl_append, upd_same]
          have ev : ∀ b : Int, b - 2 + (if decide (V.str (sg c) = V.str "i") = true then (1 : Int) else 0) = b - (if c = 105 then (1 : Int) else 2) := fun b => by
            rw [dec_sg (n := 105) (by decide)]
            by_cases k : c = 105
            · simp [k]; omega
            · simp [k]
          show some (HO.dK (eL (pt _ (sg dd) (_ - 2 + (if decide (V.str (sg c) = V.str "i") = true then (1 : Int) else 0))))) = _
          rw [ev]
          rfl
      · rintro σ H7 ⟨⟨o9, o10, o11, rfl⟩, s7, eD7, e7⟩
        refine ⟨⟨_, _, _, _, _, rfl⟩, s7, eD7, ?_⟩
        rw [drw_step (by omega) ht hc2, List.foldl_append]
        rw [List.take_of_length_le (Nat.le_of_eq o2')] at e7
        exact e7
    · rintro σ H5 ⟨⟨o7, o8, o9, o10, o11, rfl⟩, s5, eD, e5⟩
      rw [List.take_of_length_le (Nat.le_refl _), List.take_of_length_le (by omega)] at e5
      obtain ⟨la1, la2⟩ := law_left (l := s.left) (ds := drw s.cards z.cps.toList) hok.nod hok.pos (drw_pos _ _)
      have Lpos := sub_ne (L := s.left) (drw_ne hok.cards hok.n1 hf)
      have Lnd := sub_nodup (drw s.cards z.cps.toList) s.left hok.nod
      have Llen := sub_len (drw s.cards z.cps.toList) s.left
      have d32 := drw_len s.cards z.cps.toList hok.cards
      generalize hLL : (drw s.cards z.cps.toList).foldl subOne s.left = L at e5 la1 la2 Lpos Lnd Llen
      refine ⟨p4, _, e5, True.intro, fun od => ⟨_, rfl, p4, od, rfl, .inl ⟨_, upd_same, fun D5 nD5 => ?_⟩⟩⟩
      have s5f : Same H (upd H5 p4 (.frz od (.dK (eL L)))) := same_put s5 n4H
      have pD5 : D5 ≠ p4 := Ne.symm (ne_of_none upd_same nD5)
      refine lc_it (J := Itk p4 od (eL L)) L.length (fun i H' => Same (upd H5 p4 (.frz od (.dK (eL L)))) H' ∧ H' D5 = some (.lst ((L.take i).map fun p => V.int p.2))) ⟨same_new nD5, upd_same⟩ (fun i H' hi h => ⟨h.1 _ _ upd_same, by rw [eL_len]; exact hi⟩) (fun H' h => ⟨h.1 _ _ upd_same, by rw [eL_len]; exact Nat.le_refl _⟩) (fun i H' x H6 hi h y => ?_) fun H6 h6 => ?_
      · obtain ⟨rfl, k, v, hkv, rfl⟩ := y
        have hq : L[i]? = some L[i] := List.getElem?_eq_getElem hi
        unfold eL at hkv
        rw [List.getElem?_map, hq] at hkv
        cases Option.some.inj hkv
        refine ⟨rfl, ?_⟩
        have gd := gt_rd (k := L[i].1) (.inr ⟨od, h.1 _ _ upd_same⟩ : Rd H6 p4 (.dK (eL L)))
        have gv : gt L L[i].1 = some L[i].2 := by
          obtain ⟨v, hv⟩ := gt_key (List.mem_map.mpr ⟨_, List.getElem_mem hi, rfl⟩ : L[i].1 ∈ L.map (·.1))
          have := gt_nodup Lnd L[i] (List.getElem_mem hi)
          rw [hv] at this
          rw [hv]
          exact congrArg some this
        rw [gv] at gd
        refine ⟨_, rfl, _, rfl, p4, _, rfl, gd, ?_⟩
        refine ⟨_, h.2, (by rw [List.length_map, List.length_take, sizeLine_eq]; omega), same_put h.1 nD5, ?_⟩
        rw [take_map (fun p : Str × Int => V.int p.2) hq, upd_same]
      obtain ⟨s6, e6⟩ := h6
      rw [List.take_length] at e6
      refine ⟨s6 _ _ upd_same, D5, L.map (·.2), rfl, SqL.of (by rw [upd_ne pD5, e6, List.map_map]; rfl), by rw [List.length_map]; exact Lpos, fun m hm hall => ⟨_, _, rfl, rfl, _, rfl, bb (fun g6 => ?_) fun g6 => ?_⟩⟩
      · have g7 := of_decide_eq_true g6
        refine q0 ?_ _ _ (same_put (s5f.trans s6) n4H)
        obtain ⟨q, hq, rfl⟩ := List.mem_map.mp hm
        have dn := la2 ⟨q, hq, g7⟩
        unfold rowP
        rw [if_pos hf, if_neg (by rw [nt]; exact Bool.false_ne_true)]
        show (drawnP s.left (takenP s.cards z.cps.toList)).map _ = none
        rw [show drawnP s.left (takenP s.cards z.cps.toList) = none from dn]
        rfl
      have g7 := of_decide_eq_false g6
      have dn := la1 fun q hq => by
        have := hall q.2 (List.mem_map.mpr ⟨q, hq, rfl⟩)
        omega
      have rp : rowP most s z = some ⟨turnP s.cards z.cps.toList, twP s z.cps.toList, farP s.far (twP s z.cps.toList), L⟩ := by
        unfold rowP
        rw [if_pos hf, if_neg (by rw [nt]; exact Bool.false_ne_true)]
        show (drawnP s.left (takenP s.cards z.cps.toList)).map _ = _
        rw [show drawnP s.left (takenP s.cards z.cps.toList) = some L from dn]
        rfl
      have s7 : Same H (upd H6 p4 (.dK (eL L))) := same_put (s5f.trans s6) n4H
      have eD7 : (upd H6 p4 (.dK (eL L))) D2 = some (.lst ((twP s z.cps.toList).map V.int)) := by
        rw [upd_ne D2p]
        exact s6 _ _ (by rw [upd_ne D2p]; exact eD)
      generalize hH7 : upd H6 p4 (.dK (eL L)) = H7 at s7 eD7
      have e7 : H7 p4 = some (.dK (eL L)) := by rw [← hH7]; exact upd_same
      refine ⟨_, rfl, _, rfl, l3, D2, _, _, rfl, s7.seq sqf, SqL.of eD7, fun D6 nD6 => ?_⟩
      refine lc_it (J := Itz K l3 D2) s.cards.length (PvI H7 D6 (farP s.far (twP s z.cps.toList))) (.start nD6) (fun i H' hi h => ?_) (fun H' h => ⟨_, _, (s7.trans h.1).seq sqf, h.1.seq (SqL.of eD7), .inl (by rw [List.length_map, hok.far]; exact Nat.le_refl _)⟩) (fun i H' x H8 hi h y => ?_) fun H8 h8' => ?_
      · have i1 : i < (s.far.map V.int).length := by rw [List.length_map, hok.far]; exact hi
        have i2 : i < ((twP s z.cps.toList).map V.int).length := by rw [List.length_map, twl]; exact hi
        exact ⟨_, _, _, _, (s7.trans h.1).seq sqf, h.1.seq (SqL.of eD7), List.getElem?_eq_getElem i1, List.getElem?_eq_getElem i2⟩
      · obtain ⟨T1, u, v, rfl, nT, rfl, f1, f2⟩ := y
        have hu := f1 _ ((s7.trans h.1).seq sqf)
        have hv := f2 _ (h.1.seq (SqL.of eD7))
        rw [List.getElem?_map] at hu hv
        obtain ⟨fi, hfi, rfl⟩ := Option.map_eq_some_iff.mp hu
        obtain ⟨ti, hti, rfl⟩ := Option.map_eq_some_iff.mp hv
        refine ⟨T1, _, rfl, SqT.of upd_same, rfl, _, _, rfl, _, _, rfl, rfl, rfl, ?_⟩
        refine ⟨_, rfl, _, rfl, _, rfl, _, _, rfl, ?_⟩
        exact h.step (same_new nT) nD6 (zw_at hfi hti) (by omega)
      obtain ⟨s8, e8⟩ := h8'
      rw [List.take_of_length_le (by omega)] at e8
      have s78 := s7.trans s8
      refine ⟨_, rfl, _, rfl, l1, z, xs, rfl, s78.seq sqc, fun D7 nD7 => ?_⟩
      refine lc_it (J := ItzS K l1 z) s.cards.length (PvC K H8 D7 (turnP s.cards z.cps.toList)) (.start nD7) (fun i H' hi h => ⟨xs, (s78.trans h.1).seq sqc, by omega, by omega⟩) (fun H' h => ⟨xs, (s78.trans h.1).seq sqc, by omega, by omega, .inl xl.symm⟩) (fun i H' x H9 hi h y => ?_) fun H9 h9 => ?_
      · obtain ⟨T1, x, c, rfl, nT, rfl, hc1, hx⟩ := y
        have hc2 : z.cps.toList[i]? = some c := by rw [Array.getElem?_toList]; exact hc1
        obtain ⟨t, ht, hxd⟩ := card_get hc (hx xs ((s78.trans h.1).seq sqc))
        have sT := same_new (o := .tup [x, .str ⟨#[c]⟩]) nT
        refine ⟨T1, _, rfl, SqT.of upd_same, rfl, _, _, rfl, _, _, rfl, rfl, rfl, ?_⟩
        refine ⟨_, rfl, _, rfl, x, t, c, rfl, dp_mono ((s78.trans h.1).trans sT) _ _ hxd, all_at zf hc2, fun p np => ?_⟩
        exact h.step (sT.trans (same_new np)) nD7 (zw_at ht hc2) (by omega) (card_of (SqT.of upd_same))
      obtain ⟨s9, f9⟩ := h9
      rw [take_len cD tnl] at f9
      have s79 := s78.trans s9
      refine ⟨_, rfl, _, rfl, _, rfl, (by show 4 ≤ sizeLine; decide), fun p9 n9 => ?_⟩
      have sE := same_new (o := .tup [V.ref D7, V.ref D2, V.ref D6, V.ref p4]) n9
      exact q1 _ rp _ _ (s79.trans sE) ⟨p9, D7, D2, D6, p4, ⟨hN _ (s78.free nD7), hN _ (s1.free nD2), hN _ (s7.free nD6), hN _ n4H⟩, rfl, SqT.of upd_same, dp_mono sE _ _ f9.dp, .lst (SqL.of (sE _ _ (s9 _ _ (s8 _ _ eD7)))) dpA_ofInts, .lst (SqL.of (sE _ _ (s9 _ _ e8))) dpA_ofInts, sE _ _ (s9 _ _ (s8 _ _ e7))⟩

theorem has__law_after {P : Program} {w : World} {K : PySem.W.Frag} {mg : Str → Option Value} {base : Heap} (T : Tx K mg) : Has P w K mg base CX0 3 "_law_after" ["_law_state", "_law_row_here", "_law_most_here"] (sp_l_after K) := ok_l_after T
theorem ok_l_pick {P : Program} {w : World} {K : PySem.W.Frag} {mg : Str → Option Value} {base : Heap} (T : Tx K mg) : Has P w K mg base CX0 3 "_law_pick" ["_law_cards", "_law_row_here"] (sp_l_pick K) := by
  refine T.d_l_pick.has sc_l_pick (fun vs H Q E h => ?_) (fun f cdv A outer s H vs Q E hr h => ?_)
  · obtain ⟨_, _, _, rfl, _⟩ := h
    rfl
  · obtain ⟨v, cards, z, rfl, hrow, q⟩ := h
    refine ⟨_, PSs.nox ((pss_cons (ps_set (i := 2) sc_l_pick.nd rfl (Or.inl rfl) (pe_lst pa_nil)) (pss_cons (ps_for PassesOwn.never rfl (pi_zipS (by rfl) T.m_zip (pa_cons (pv 0) (pa_cons (pv 1) pa_nil))) (pg_tup rfl (pgs_cons (pg_name (i := 3) sc_l_pick.nd rfl (Or.inl rfl)) (pgs_cons (pg_name (i := 4) sc_l_pick.nd rfl (Or.inl rfl)) pgs_nil))) (pss_cons (ps_set (i := 5) sc_l_pick.nd rfl (Or.inl rfl) (pe_ix ix_str pe_str (pe_op op_add (pe_has (has__law_twist T) (hr.mono (by decide)) (by rfl) pass0 (pa_cons (pv 3) (pa_cons (pv 4) pa_nil))) pe_int) (fun _ _ => rfl))) (pss_one (ps_expr (pe_bm PySem.F.plainAttrs_list PySem.F.slot_list_append PySem.F.type_list_append mt_append (pv 2) (pa_cons (pe_tup (pa_cons (pe_ix ix_str (pe_ix ix_tup (pv 3) pe_int (fun _ _ => rfl)) (pe_ix ix_tup (pv 3) pe_int (fun _ _ => rfl)) (fun _ _ => rfl)) (pa_cons (pe_ix ix_str (pe_ix ix_tup (pv 3) pe_int (fun _ _ => rfl)) (pe_op op_mod (pe_op op_add (pe_ix ix_tup (pv 3) pe_int (fun _ _ => rfl)) pe_int) pe_int) (fun _ _ => rfl)) (pa_cons (pv 5) pa_nil)))) pa_nil)))))) (pss_one (ps_ret (pv 2)))))), ?_⟩
    refine ⟨Nat.zero_le _, fun p1 n1 => ?_⟩
    obtain ⟨hv, hok, h8, hf⟩ := hrow
    obtain ⟨a, xs, rfl, sq, ha⟩ := dp_lst hv
    obtain ⟨zl, zs, zf⟩ := fits_len hf
    have s0 := same_new (o := .lst []) n1
    have xl : xs.length = cards.length := by rw [dpA_len ha, List.length_map]
    refine ⟨_, rfl, _, rfl, a, z, xs, rfl, s0.seq sq, for_it (J := ItzS K a z) cards.length (fun i σ H' => (∃ o3 o4 o5, σ = [some (V.ref a), some (V.str z), some (V.ref p1), o3, o4, o5]) ∧ Same H H' ∧ FL K H' p1 (((pickP cards z.cps.toList).take i).map pD))
      ⟨⟨_, _, _, rfl⟩, s0, .nil upd_same⟩ (fun i σ H' hi h => ⟨xs, h.2.1.seq sq, by omega, by omega⟩) (fun σ H' h => ⟨xs, h.2.1.seq sq, by omega, by omega, .inl xl.symm⟩) ?_ ?_⟩
    · rintro i σ H1 x H2 hi ⟨⟨o3, o4, o5, rfl⟩, s1, f1⟩ ⟨T1, x, c, rfl, nT, rfl, hc, hx⟩
      have hc2 : z.cps.toList[i]? = some c := by rw [Array.getElem?_toList]; exact hc
      have hxi := hx xs (s1.seq sq)
      obtain ⟨t, ht, hxd⟩ := card_get ha hxi
      have okt := hok t (List.mem_of_getElem? ht)
      have fc := all_at zf hc2
      have sT := same_new (o := .tup [x, .str ⟨#[c]⟩]) nT
      have hxT := dp_mono (s1.trans sT) _ _ hxd
      obtain ⟨ax, rfl, sx⟩ := card_at hxT
      obtain ⟨k1, k2, k3, k4, k5⟩ := cardOk_parts okt
      obtain ⟨d1, g1, e1⟩ := hole_at k2 k4 (show t.2.2 < ((4 : Nat) : Int) by omega)
      obtain ⟨d2, g2, e2⟩ := hole_at (i := (t.2.2 + 2) % 4) k2 (by omega) (show (t.2.2 + 2) % 4 < ((4 : Nat) : Int) by omega)
      have hl := len_size k2 (by decide)
      have sl : ∃ d, atI (PySem.Str.ofString "zos").cps.toList (cTwist t c + 1) = some d ∧ (⟨#[d]⟩ : Str) = slant (cTwist t c) := by
        have ha : cTwist t c = 1 ∨ cTwist t c = -1 ∨ cTwist t c = 0 := by
          have h3 : adv c = 1 ∨ adv c = -1 ∨ adv c = 0 := by
            unfold adv
            split
            · exact .inl rfl
            · split
              · exact .inr (.inl rfl)
              · exact .inr (.inr rfl)
          unfold cTwist
          split <;> omega
        rcases ha with e | e | e
        · rw [e]; exact ⟨115, by decide +kernel, by decide +kernel⟩
        · rw [e]; exact ⟨122, by decide +kernel, by decide +kernel⟩
        · rw [e]; exact ⟨111, by decide +kernel, by decide +kernel⟩
      obtain ⟨d3, g3, e3⟩ := sl
      have fp : (pickP cards z.cps.toList)[i]? = some (place t c) := zw_at ht hc2
      obtain ⟨acc, ea, da⟩ := f1
      have ea2 := sT _ _ ea
      have la : acc.length ≤ 8 := by rw [dpA_len da, List.length_map, List.length_take]; unfold pickP; rw [List.length_zipWith]; omega
      refine ⟨T1, _, rfl, SqT.of upd_same, rfl, _, _, rfl, _, _, rfl, rfl, ?_⟩
      refine ⟨_, rfl, _, rfl, .ref ax, t, c, rfl, hxT, fc, _, _, rfl, rfl, _, _, d3, rfl, rfl, (by rw [sizeLine_eq]; exact (by decide : (3 : Nat) ≤ 16777216)), g3, ?_⟩
      refine ⟨_, rfl, .inl ⟨rfl, _, SqL.of ea2⟩, _, rfl, ax, _, _, _, rfl, rfl, sx, rfl, _, rfl, ax, _, _, _, rfl, rfl, sx, rfl, _, _, d1, rfl, rfl, hl, g1, _, rfl, ax, _, _, _, rfl, rfl, sx, rfl, _, rfl, ax, _, _, _, rfl, rfl, sx, rfl, _, _, rfl, rfl, _, _, rfl, rfl, (by show (0 : Int) < 4; decide), _, _, d2, rfl, rfl, hl, g2, _, rfl, (by show 3 ≤ sizeLine; decide), fun p2 n2 => ?_⟩
      have s2 := same_new (o := .tup [V.str ⟨#[d1]⟩, V.str ⟨#[d2]⟩, V.str ⟨#[d3]⟩]) n2
      refine ⟨p1, _, _, rfl, rfl, s2 _ _ ea2, small_line (by omega), ⟨_, _, _, rfl⟩, same_put ((s1.trans sT).trans s2) n1, ?_⟩
      rw [take_map pD fp]
      refine FL.app (s2 _ _ ea2) (dpA_mono (sT.trans s2) _ _ da) (flat_p _) (d := pD (place t c)) rfl ?_
      rw [e1, e2, e3]
      exact .tup (SqT.of upd_same) (.cons (.str _) (.cons (.str _) (.cons (.str _) .nil)))
    · rintro σ H1 ⟨⟨o3, o4, o5, rfl⟩, s1, f1⟩
      have lp : (pickP cards z.cps.toList).length = cards.length := by unfold pickP; rw [List.length_zipWith]; omega
      rw [take_len pD lp] at f1
      obtain ⟨acc, ea, da⟩ := f1
      exact ⟨_, rfl, q _ _ s1 ⟨p1, acc, rfl, n1, ea, da⟩⟩

theorem has__law_pick {P : Program} {w : World} {K : PySem.W.Frag} {mg : Str → Option Value} {base : Heap} (T : Tx K mg) : Has P w K mg base CX0 3 "_law_pick" ["_law_cards", "_law_row_here"] (sp_l_pick K) := ok_l_pick T
theorem ok_pick_of {P : Program} {w : World} {K : PySem.W.Frag} {mg : Str → Option Value} {base : Heap} (T : Tx K mg) : Has P w K mg base CX0 4 "pick_of" ["tablets", "row"] (sp_pick_of K) := by
  refine T.d_pick_of.has sc_pick_of (fun vs H Q E h => ?_) (fun f cdv A outer s H vs Q E hr h => ?_)
  · obtain ⟨_, _, _, rfl, _⟩ := h
    rfl
  · obtain ⟨v, cards, z, rfl, hrow, q⟩ := h
    refine ⟨_, PSs.nox ((pss_cons (ps_set (i := 2) sc_pick_of.nd rfl (Or.inl rfl) (pe_lst pa_nil)) (pss_cons (ps_set (i := 3) sc_pick_of.nd rfl (Or.inl rfl) (pe_lst pa_nil)) (pss_cons (ps_for PassesOwn.never rfl (pi_zipS (by rfl) T.m_zip (pa_cons (pv 0) (pa_cons (pv 1) pa_nil))) (pg_tup rfl (pgs_cons (pg_name (i := 4) sc_pick_of.nd rfl (Or.inl rfl)) (pgs_cons (pg_name (i := 5) sc_pick_of.nd rfl (Or.inl rfl)) pgs_nil))) (pss_cons (ps_set (i := 4) sc_pick_of.nd rfl (Or.inl rfl) (pe_has (has_turned T) (hr.mono (by decide)) (by rfl) pass0 (pa_cons (pv 4) (pa_cons (pv 5) pa_nil)))) (pss_cons (ps_expr (pe_bm PySem.F.plainAttrs_list PySem.F.slot_list_append PySem.F.type_list_append mt_append (pv 2) (pa_cons (pv 4) pa_nil))) (pss_one (ps_expr (pe_bm PySem.F.plainAttrs_list PySem.F.slot_list_append PySem.F.type_list_append mt_append (pv 3) (pa_cons (pe_has (has_place_of T) (hr.mono (by decide)) (by rfl) pass0 (pa_cons (pv 4) (pa_cons (pv 5) pa_nil))) pa_nil))))))) (pss_one (ps_ret (pe_tup (pa_cons (pv 2) (pa_cons (pv 3) pa_nil))))))))), ?_⟩
    refine ⟨Nat.zero_le _, fun p1 n1 => ⟨Nat.zero_le _, fun p2 n2 => ?_⟩⟩
    obtain ⟨hv, hok, h8, hf⟩ := hrow
    obtain ⟨a, xs, rfl, sq, ha⟩ := dp_lst hv
    obtain ⟨zl, zs, zf⟩ := fits_len hf
    have n12 : p1 ≠ p2 := ne_of_none (upd_same (o := .lst [])) n2
    have n2' : H p2 = none := (upd_ne (H := H) (o := .lst []) (Ne.symm n12)).symm.trans n2
    have s0 : Same H (upd (upd H p1 (.lst [])) p2 (.lst [])) := (same_new n1).trans (same_new n2)
    have xl : xs.length = cards.length := by rw [dpA_len ha, List.length_map]
    refine ⟨_, rfl, _, rfl, a, z, xs, rfl, s0.seq sq, for_it (J := ItzS K a z) cards.length (fun i σ H' => (∃ o5 o6, σ = [some (V.ref a), some (V.str z), some (V.ref p1), some (V.ref p2), o5, o6]) ∧ Same H H' ∧ FL K H' p1 (((turnP cards z.cps.toList).take i).map cD) ∧ FL K H' p2 (((pickP (turnP cards z.cps.toList) z.cps.toList).take i).map pD))
      ⟨⟨_, _, rfl⟩, s0, .nil (by rw [upd_ne n12]; exact upd_same), .nil upd_same⟩ (fun i σ H' hi h => ⟨xs, h.2.1.seq sq, by omega, by omega⟩) (fun σ H' h => ⟨xs, h.2.1.seq sq, by omega, by omega, .inl xl.symm⟩) ?_ ?_⟩
    · rintro i σ H1 x H2 hi ⟨⟨o5, o6, rfl⟩, s1, f1, f2⟩ ⟨T1, x, c, rfl, nT, rfl, hc, hx⟩
      have hc2 : z.cps.toList[i]? = some c := by rw [Array.getElem?_toList]; exact hc
      have hxi := hx xs (s1.seq sq)
      obtain ⟨d, hd, hxd⟩ := dpA_get ha hxi
      rw [List.getElem?_map] at hd
      obtain ⟨t, ht, rfl⟩ := Option.map_eq_some_iff.mp hd
      have okt := hok t (List.mem_of_getElem? ht)
      have hxT := dp_mono (s1.trans (same_new (o := .tup [x, .str ⟨#[c]⟩]) nT)) _ _ hxd
      refine ⟨T1, _, rfl, SqT.of upd_same, rfl, _, _, rfl, _, _, rfl, rfl, _, rfl, _, rfl, x, t, c, rfl, hxT, fun q1 nq => ?_⟩
      obtain ⟨acc1, e1, d1⟩ := f1
      obtain ⟨acc2, e2, d2⟩ := f2
      have sT := same_new (o := .tup [x, .str ⟨#[c]⟩]) nT
      have sQ := same_new (o := tupC (cTurned t c)) nq
      have hq1 : Dp K (upd (upd H1 T1 (.tup [x, .str ⟨#[c]⟩])) q1 (tupC (cTurned t c))) (.ref q1) (cD (cTurned t c)) := card_of (SqT.of upd_same)
      have e1' := (sT.trans sQ) _ _ e1
      have e2' := (sT.trans sQ) _ _ e2
      have l1 : acc1.length ≤ 8 := by rw [dpA_len d1, List.length_map, List.length_take]; unfold turnP; rw [List.length_zipWith]; omega
      have l2 : acc2.length ≤ 8 := by rw [dpA_len d2, List.length_map, List.length_take]; unfold pickP turnP; rw [List.length_zipWith, List.length_zipWith]; omega
      have F1 := FL.app e1' (dpA_mono (sT.trans sQ) _ _ d1) (flat_c _) (d := cD (cTurned t c)) rfl hq1
      have ne21 : p2 ≠ p1 := Ne.symm n12
      have F2 : FL K (upd (upd (upd H1 T1 (.tup [x, .str ⟨#[c]⟩])) q1 (tupC (cTurned t c))) p1 (.lst (acc1 ++ [V.ref q1]))) p2 (((pickP (turnP cards z.cps.toList) z.cps.toList).take i).map pD) :=
        (FL.same ⟨acc2, e2, d2⟩ (sT.trans sQ)).ts (by rw [upd_ne ne21]) (ts_upd e1' nt_lst) (flat_p _)
      obtain ⟨acc3, e3, d3⟩ := F2
      refine ⟨_, rfl, .inl ⟨rfl, _, SqL.of e1'⟩, _, rfl, p1, _, _, rfl, rfl, e1', small_line (by omega), ?_⟩
      refine ⟨_, rfl, .inl ⟨rfl, _, SqL.of e3⟩, _, rfl, _, rfl, .ref q1, cTurned t c, c, rfl, dp_ts (ts_upd e1' nt_lst) rfl hq1, cardOk_turned okt, fun q2 nq2 => ?_⟩
      have sQ2 := same_new (o := tupP (place (cTurned t c) c)) nq2
      have e3' := sQ2 _ _ e3
      have l3 : acc3.length ≤ 8 := by rw [dpA_len d3, List.length_map, List.length_take]; unfold pickP turnP; rw [List.length_zipWith, List.length_zipWith]; omega
      have hq2 : Dp K (upd (upd (upd (upd H1 T1 (.tup [x, .str ⟨#[c]⟩])) q1 (tupC (cTurned t c))) p1 (.lst (acc1 ++ [V.ref q1]))) q2 (tupP (place (cTurned t c) c))) (.ref q2) (pD (place (cTurned t c) c)) := .tup (SqT.of upd_same) (.cons (.str _) (.cons (.str _) (.cons (.str _) .nil)))
      refine ⟨p2, _, _, rfl, rfl, e3', small_line (by omega), ⟨_, _, rfl⟩, ?_, ?_, ?_⟩
      · refine fun b o e => ?_
        rw [upd_ne (ne_of_none e n2')]
        refine sQ2 _ _ ?_
        rw [upd_ne (ne_of_none e n1)]
        exact (sT.trans sQ) _ _ (s1 _ _ e)
      · have ft : (turnP cards z.cps.toList)[i]? = some (cTurned t c) := zw_at ht hc2
        rw [take_map cD ft]
        exact (F1.same sQ2).ts (by rw [upd_ne n12]) (ts_upd e3' nt_lst) (by rw [← take_map cD ft]; exact flat_c _)
      · have ft : (turnP cards z.cps.toList)[i]? = some (cTurned t c) := zw_at ht hc2
        have fp : (pickP (turnP cards z.cps.toList) z.cps.toList)[i]? = some (place (cTurned t c) c) := zw_at ft hc2
        rw [take_map pD fp]
        exact FL.app e3' (dpA_mono sQ2 _ _ d3) (flat_p _) (d := pD (place (cTurned t c) c)) rfl hq2
    · rintro σ H1 ⟨⟨o5, o6, rfl⟩, s1, f1, f2⟩
      have lt : (turnP cards z.cps.toList).length = cards.length := by unfold turnP; rw [List.length_zipWith]; omega
      have lp : (pickP (turnP cards z.cps.toList) z.cps.toList).length = cards.length := by unfold pickP; rw [List.length_zipWith, lt]; omega
      rw [take_len cD lt] at f1
      rw [take_len pD lp] at f2
      obtain ⟨acc1, e1, d1⟩ := f1
      obtain ⟨acc2, e2, d2⟩ := f2
      refine ⟨_, rfl, _, rfl, (by show 2 ≤ sizeLine; decide), fun r nr => ?_⟩
      have sr := same_new (o := .tup [.ref p1, .ref p2]) nr
      exact q _ r _ _ (s1.trans sr) (SqT.of upd_same) ⟨p1, acc1, rfl, n1, sr _ _ e1, dpA_mono sr _ _ d1⟩ ⟨p2, acc2, rfl, n2', sr _ _ e2, dpA_mono sr _ _ d2⟩

theorem has_pick_of {P : Program} {w : World} {K : PySem.W.Frag} {mg : Str → Option Value} {base : Heap} (T : Tx K mg) : Has P w K mg base CX0 4 "pick_of" ["tablets", "row"] (sp_pick_of K) := ok_pick_of T
theorem ok_Loom_init {P : Program} {w : World} {K : PySem.W.Frag} {mg : Str → Option Value} {base : Heap} (T : Tx K mg) : HasK P w K mg base CX0 4 "Loom" ["self", "draft", "most", "spools"] (sp_Loom_init K) := by
  refine T.d_Loom_init.has sc_Loom_init (fun vs H Q E h => ?_) (fun f cdv A outer s H vs Q E hr h => ?_)
  · obtain ⟨_, _, _, _, _, _, _, rfl, _⟩ := h
    rfl
  · obtain ⟨x, dx, v, cards, most, d, l, rfl, hx, hv, h8, hd, q0⟩ := h
    refine ⟨_, PSs.nox ((pss_cons (ps_fld (pv 0) (pe_callTy call_list_of (by rfl) T.m_list (by decide +kernel) (pa_cons (pv 1) pa_nil)) rfl) (pss_cons (ps_fld (pv 0) (pv 2) rfl) (pss_cons (ps_fld (pv 0) (pe_callTy call_dictD (by rfl) T.m_dict (by decide +kernel) (pa_cons (pv 3) pa_nil)) rfl) (pss_cons (ps_fld (pv 0) (pe_lst (pa_cons (pe_has (has_first_stage T) (hr.mono (by decide)) (by rfl) pass0 (pa_cons (pv 1) (pa_cons (pv 3) pa_nil))) pa_nil)) rfl) (pss_cons (ps_fld (pv 0) (pe_lst pa_nil) rfl) (pss_one (ps_fld (pv 0) (pe_lst pa_nil) rfl)))))))), ?_⟩
    obtain ⟨a, xs, rfl, sq, ha⟩ := dp_lst hv
    have F : ∀ (n : Nat), n ≤ 6 → n < 1000 := fun n h => by omega
    refine ⟨_, rfl, a, xs, rfl, .inl sq, fun l1 n1 => ⟨_, rfl, x, _, _, _, rfl, (same_new n1) _ _ hx, T.c_Loom, T.a_draft, F 0 (by decide), ?_⟩⟩
    have S1 : Same (wo H x) (upd H l1 (.lst xs)) := same_wo.trans (same_new n1)
    have x1 : x ≠ l1 := ne_of_none hx n1
    generalize hH2 : upd (upd H l1 (.lst xs)) x (.ins (He.ga K "Loom") dx [("draft", .ref l1)]) = H2
    have S2 : Same (wo H x) H2 := by rw [← hH2]; exact same_put S1 wo_none
    have e2 : H2 l1 = some (.lst xs) := by rw [← hH2, upd_ne (Ne.symm x1)]; exact upd_same
    have i2 : H2 x = some (.ins (He.ga K "Loom") dx [("draft", .ref l1)]) := by rw [← hH2]; exact upd_same
    have G2 : (H2 : Hp) = upd (upd H l1 (.lst xs)) x (.ins (He.ga K "Loom") dx [("draft", .ref l1)]) := hH2.symm
    show tSeq _ _ _ _ (upd (upd H l1 (.lst xs)) x (.ins (He.ga K "Loom") dx [("draft", .ref l1)]))
    rw [hH2]
    have tv : TSame H (wo H x) := ts_wo hx nt_ins
    have vx : ∀ {Hk : Hp}, Same (wo H x) Hk → Dp K Hk (.ref a) (.list (cards.map cD)) := fun {Hk} S => by
      have ax : a ≠ x ∨ True := .inr True.intro
      refine .lst ?_ (dpA_mono S _ _ (dpA_ts tv (flat_c _) ha))
      rcases sq with (sq | ⟨o, sq⟩) | sq
      · exact .inl (.inl (S _ _ (by rw [wo_ne (ne_of sq hx (fun z => nomatch z))]; exact sq)))
      · exact .inl (.inr ⟨o, S _ _ (by rw [wo_ne (ne_of sq hx (fun z => nomatch z))]; exact sq)⟩)
      · exact .inr sq
    have dn : d ≠ x := ne_of hd hx (fun z => nomatch z)
    have hdw : wo H x d = some (.dK (eL l)) := by rw [wo_ne dn]; exact hd
    refine ⟨_, rfl, _, rfl, x, _, _, _, rfl, i2, T.c_Loom, T.a_most, F 1 (by decide), ?_⟩
    have S3 : Same (wo H x) (upd H2 x (.ins (He.ga K "Loom") dx [("draft", .ref l1), ("most", .int most)])) := same_put S2 wo_none
    refine ⟨_, rfl, d, _, rfl, .inl (S3 _ _ hdw), fun d1 nd1 => ⟨_, rfl, x, _, _, _, rfl, (same_new nd1) _ _ upd_same, T.c_Loom, T.a_spools, F 2 (by decide), ?_⟩⟩
    have xd1 : x ≠ d1 := ne_of_none upd_same nd1
    have l1d1 : l1 ≠ d1 := ne_of_none (show (upd H2 x (.ins (He.ga K "Loom") dx [("draft", .ref l1), ("most", .int most)])) l1 = _ from (upd_ne (Ne.symm x1)).trans e2) nd1
    generalize hH4 : upd (upd (upd H2 x (.ins (He.ga K "Loom") dx [("draft", .ref l1), ("most", .int most)])) d1 (.dK (eL l))) x (.ins (He.ga K "Loom") dx [("draft", .ref l1), ("most", .int most), ("spools", .ref d1)]) = H4
    show tSeq _ _ _ _ (upd (upd (upd H2 x (.ins (He.ga K "Loom") dx [("draft", .ref l1), ("most", .int most)])) d1 (.dK (eL l))) x (.ins (He.ga K "Loom") dx [("draft", .ref l1), ("most", .int most), ("spools", .ref d1)]))
    rw [hH4]
    have S4 : Same (wo H x) H4 := by rw [← hH4]; exact same_put (S3.trans (same_new nd1)) wo_none
    have i4 : H4 x = some (.ins (He.ga K "Loom") dx [("draft", .ref l1), ("most", .int most), ("spools", .ref d1)]) := by rw [← hH4]; exact upd_same
    have e4 : H4 l1 = some (.lst xs) := by rw [← hH4, upd_ne (Ne.symm x1), upd_ne l1d1, upd_ne (Ne.symm x1)]; exact e2
    have f4 : H4 d1 = some (.dK (eL l)) := by rw [← hH4, upd_ne (Ne.symm xd1)]; exact upd_same
    refine ⟨_, rfl, _, rfl, .ref a, d, l, cards, rfl, vx S4, h8, S4 _ _ hdw, fun H5 q s5 new => ⟨(by show 1 ≤ sizeLine; decide), fun l4 n4 => ⟨_, rfl, x, _, _, _, rfl, (same_new n4) _ _ (s5 _ _ i4), T.c_Loom, T.a_stages, F 3 (by decide), ?_⟩⟩⟩
    have i5 := s5 _ _ i4
    have x4 : x ≠ l4 := ne_of_none i5 n4
    generalize hH7 : upd (upd H5 l4 (.lst [.ref q])) x (.ins (He.ga K "Loom") dx [("draft", .ref l1), ("most", .int most), ("spools", .ref d1), ("stages", .ref l4)]) = H7
    show tSeq _ _ _ _ (upd (upd H5 l4 (.lst [.ref q])) x (.ins (He.ga K "Loom") dx [("draft", .ref l1), ("most", .int most), ("spools", .ref d1), ("stages", .ref l4)]))
    rw [hH7]
    have S7 : Same (wo H5 x) H7 := by rw [← hH7]; exact same_put (same_wo.trans (same_new n4)) wo_none
    have i7 : H7 x = some (.ins (He.ga K "Loom") dx [("draft", .ref l1), ("most", .int most), ("spools", .ref d1), ("stages", .ref l4)]) := by rw [← hH7]; exact upd_same
    have e7 : H7 l4 = some (.lst [.ref q]) := by rw [← hH7, upd_ne (Ne.symm x4)]; exact upd_same
    refine ⟨Nat.zero_le _, fun l5 n5 => ⟨_, rfl, x, _, _, _, rfl, (same_new n5) _ _ i7, T.c_Loom, T.a_done, F 4 (by decide), ?_⟩⟩
    have x5 : x ≠ l5 := ne_of_none i7 n5
    have l45 : l4 ≠ l5 := ne_of_none e7 n5
    generalize hH9 : upd (upd H7 l5 (.lst [])) x (.ins (He.ga K "Loom") dx [("draft", .ref l1), ("most", .int most), ("spools", .ref d1), ("stages", .ref l4), ("done", .ref l5)]) = H9
    change (sFld K (tVar 0) (tLst tNil) "undone" { nx := fun _ H' => Q V.non H', rt := Q }) (L2.start N_Loom_init [V.ref x, V.ref a, V.int most, V.ref d]) (upd (upd H7 l5 (.lst [])) x (.ins (He.ga K "Loom") dx [("draft", .ref l1), ("most", .int most), ("spools", .ref d1), ("stages", .ref l4), ("done", .ref l5)]))
    rw [hH9]
    have S9 : Same (wo H5 x) H9 := by rw [← hH9]; exact same_put (S7.trans (same_new n5)) wo_none
    have i9 : H9 x = some (.ins (He.ga K "Loom") dx [("draft", .ref l1), ("most", .int most), ("spools", .ref d1), ("stages", .ref l4), ("done", .ref l5)]) := by rw [← hH9]; exact upd_same
    have e9 : H9 l4 = some (.lst [.ref q]) := by rw [← hH9, upd_ne (Ne.symm x4), upd_ne l45]; exact e7
    have f9 : H9 l5 = some (.lst []) := by rw [← hH9, upd_ne (Ne.symm x5)]; exact upd_same
    refine ⟨Nat.zero_le _, fun l6 n6 => ⟨_, rfl, x, _, _, _, rfl, (same_new n6) _ _ i9, T.c_Loom, T.a_undone, F 5 (by decide), ?_⟩⟩
    have x6 : x ≠ l6 := ne_of_none i9 n6
    generalize hHf : upd (upd H9 l6 (.lst [])) x (.ins (He.ga K "Loom") dx [("draft", .ref l1), ("most", .int most), ("spools", .ref d1), ("stages", .ref l4), ("done", .ref l5), ("undone", .ref l6)]) = Hf
    show Q .non (upd (upd H9 l6 (.lst [])) x (.ins (He.ga K "Loom") dx [("draft", .ref l1), ("most", .int most), ("spools", .ref d1), ("stages", .ref l4), ("done", .ref l5), ("undone", .ref l6)]))
    rw [hHf]
    have Sf : Same (wo H5 x) Hf := by rw [← hHf]; exact same_put (S9.trans (same_new n6)) wo_none
    have SG : Same (wo H5 x) (wo3 Hf x l5 l4) := same_into (same_into (same_into Sf wo_none) (S7.free n5)) ((show Same (wo H5 x) H5 from same_wo).free n4)
    have S05 : Same (wo H x) (wo H5 x) := fun b o e => by
      rw [wo_ne (ne_of_none e wo_none)]
      exact s5 _ _ (S4 _ _ e)
    have hst : StageAt K (wo H5 x) q (st0 cards l) := stage_new_at new (fun b nb => wo_ne (fun z => by rw [z, i4] at nb; cases nb)) (ts_wo i5 nt_ins)
    have w5 : ∀ {b o}, H4 b = some o → b ≠ x → wo H5 x b = some o := fun e n => by rw [wo_ne n]; exact s5 _ _ e
    have na : ∀ {b o}, H4 b = some o → b ≠ l4 := fun e => ne_of_none (s5 _ _ e) n4
    refine q0 Hf ⟨wo3 Hf x l5 l4, dx, l1, d1, l5, l4, l6, S05.trans SG, wo3_same, ?_, ?_, wo_none, Ne.symm l45, ?_, ?_, ?_, ⟨[], ?_, .nil⟩, ⟨[.ref q], ?_, .cons ⟨q, rfl, stageAt_mono SG hst⟩ .nil⟩⟩
    · unfold wo3
      rw [wo_ne x4, wo_ne x5]
      exact wo_none
    · unfold wo3
      rw [wo_ne (Ne.symm l45)]
      exact wo_none
    · rw [← hHf]
      exact upd_same
    · exact .lst (SqL.of (SG _ _ (w5 e4 (Ne.symm x1)))) (dpA_mono (S05.trans SG) _ _ (dpA_ts tv (flat_c _) ha))
    · exact SG _ _ (w5 f4 (Ne.symm xd1))
    · rw [← hHf, upd_ne (Ne.symm x5)]
      exact (same_new n6) _ _ f9
    · rw [← hHf, upd_ne (Ne.symm x4)]
      exact (same_new n6) _ _ e9

theorem mk_Loom {P : Program} {w : World} {K : PySem.W.Frag} {mg : Str → Option Value} {base : Heap} (T : Tx K mg) : HasK P w K mg base CX0 4 "Loom" ["self", "draft", "most", "spools"] (sp_Loom_init K) := ok_Loom_init T
theorem ok_Loom_flip {P : Program} {w : World} {K : PySem.W.Frag} {mg : Str → Option Value} {base : Heap} (T : Tx K mg) : HasM P w K mg base (L2N.CX P w) 4 "Loom" "flip" ["self", "k"] (sp_Loom_flip K) := by
  refine T.d_Loom_flip.has T.c_Loom sc_Loom_flip (fun vs H Q E h => ?_) (fun f cdv A outer s H vs Q E hr h => ?_)
  · obtain ⟨_, _, _, _, rfl, _⟩ := h
    rfl
  · obtain ⟨p, m, G0, k, rfl, hl, hok, q1, q0⟩ := h
    refine ⟨_, (pss_cons (ps_if (PW.pt (pw_or (pt_cmpR op_lt (pv 1) pe_int (nomark _)) (pw_or1 (pt_cmpR op_ge (pv 1) (pe_callB call_len_seq (by rfl) T.m_len PySem.boot_len (pa_cons (pe_fld (pv 0) rfl) pa_nil)) (nomark _))))) (pss_one (L2N.ps_raise rfl (L2N.takes_of rfl rfl rfl rfl) (pm_own T.e_NoTablet (by rfl)))) pss_nil) (pss_one (ps_expr (pe_hasM (hasM_put_deed T) (hr.mono (by decide)) pass0 (pv 0) (pa_cons (pe_tup (pa_cons pe_str (pa_cons (pv 1) pa_nil))) (pa_cons (pe_has (has_stage_flipped T) (hr.mono (by decide)) (by rfl) pass0 (pa_cons (pe_ix ix_list (pe_fld (pv 0) rfl) (pe_un un_neg pe_int) (fun _ _ => rfl)) (pa_cons (pv 1) pa_nil))) pa_nil)))))), ?_⟩
    obtain ⟨G, dx, ad, asp, ado, ast, aun, hl⟩ := hl
    obtain ⟨ys, r, hys, hat, hst⟩ := loom_last hl (lm_ne hok)
    obtain ⟨_, xs, e, sq, hx⟩ := dp_lst (dp_mono hl.g _ _ hl.draft)
    cases e
    have xl : xs.length = m.draft.length := by rw [dpA_len hx, List.length_map]
    have dn : m.last.cards.length = m.draft.length := by
      refine hok.dn _ ?_
      exact List.mem_of_getElem? (last_get (d := ⟨[], [], [], []⟩) (lm_ne hok))
    refine ⟨_, rfl, _, _, rfl, rfl, _, rfl, bb (fun g => ?_) fun g => ?_⟩
    · have g2 := of_decide_eq_true g
      omega
    refine ⟨_, rfl, _, rfl, p, _, _, _, _, rfl, hl.ins, T.c_Loom, T.a_draft, rfl, ad, xs, rfl, .inl sq, _, _, rfl, rfl, _, rfl, bb (fun g2 => ?_) fun g2 => ?_⟩
    · have g3 := of_decide_eq_true g2
      exact q0 (by omega) "NoTablet" (by decide) _ (Same.refl _)
    have g3 := of_decide_eq_false g2
    have hk : k < m.draft.length := by omega
    refine ⟨_, rfl, p, _, _, rfl, hl.ins, rfl, _, rfl, (by show 2 ≤ sizeLine; decide), fun t nt => ?_⟩
    have s1 := same_new (o := .tup [V.str "flip", V.int (k : Nat)]) nt
    refine ⟨_, rfl, p, _, _, _, _, rfl, s1 _ _ hl.ins, T.c_Loom, T.a_stages, rfl, _, rfl, ast, _, _, _, rfl, rfl, SqL.of (s1 _ _ hys), hat, _, rfl, r, m.last, k, rfl, stageAt_mono (hl.g.trans s1) hst, lm_last hok, by omega, fun H3 q3 s3 new => ?_⟩
    obtain ⟨hl3, gw, wn, wt⟩ := loom_grow hl (s1.trans s3)
    have st3 := stage_new_at new (fun a na => wn a (s1.free na)) wt
    have hd : Dp K H3 (.ref t) (dD (.flip k)) := dp_mono s3 _ _ (.tup (SqT.of upd_same) (.cons (.str _) (.cons (.int _) .nil)))
    have fewm := hok.few
    have lenm := hok.len
    exact ⟨p, .ref t, .flip k, q3, flipP m.last k, m, _, G0, dx, ad, asp, ado, ast, aun, rfl, hl3, by omega, dp_ts wt rfl hd, st3, fun H4 g4 hl4 => q1 hk H4 .non hl4⟩

theorem hasM_flip {P : Program} {w : World} {K : PySem.W.Frag} {mg : Str → Option Value} {base : Heap} (T : Tx K mg) : HasM P w K mg base (L2N.CX P w) 4 "Loom" "flip" ["self", "k"] (sp_Loom_flip K) := ok_Loom_flip T
theorem ok_read_draft {P : Program} {w : World} {K : PySem.W.Frag} {mg : Str → Option Value} {base : Heap} (T : Tx K mg) : Has P w K mg base (CX3 P w) 4 "read_draft" ["lines", "at"] (sp_read_draft K) := by
  refine T.d_read_draft.has sc_read_draft (fun vs H Q E h => ?_) (fun f cdv A outer s H vs Q E hr h => ?_)
  · obtain ⟨_, _, _, rfl, _⟩ := h
    rfl
  · obtain ⟨v, L, i, rfl, hl, hi, q1, q0⟩ := h
    refine ⟨_, (pss_cons (ps_set (i := 2) sc_read_draft.nd rfl (Or.inl rfl) (pe_lst pa_nil)) (pss_cons (ps_while (passes_of rfl) (pt_val (pe_has (has_begun T) (hr.mono (by decide)) (by rfl) pass0 (pa_cons (pv 0) (pa_cons (pv 1) (pa_cons pe_str pa_nil))))) (pss_cons (ps_expr (pe_bm PySem.F.plainAttrs_list PySem.F.slot_list_append PySem.F.type_list_append mt_append (pv 2) (pa_cons (pe_has (has_read_tablet T) (hr.mono (by decide)) (by rfl) (passes3 (takes3_of rfl rfl rfl rfl) (fun _ _ _ _ q => q)) (pa_cons (pe_ix ix_list (pv 0) (pv 1) (fun _ _ => rfl)) pa_nil)) pa_nil))) (pss_one (ps_set (i := 1) sc_read_draft.nd rfl (Or.inl rfl) (pe_op op_add (pv 1) pe_int))))) (pss_cons (ps_if (PW.pt (pw_or (pt_cmpR (op_eqD hr.units) (pv 2) (pe_lst pa_nil) (nomark _)) (pw_or1 (pt_cmpR op_gt (pe_callB call_len_seq (by rfl) T.m_len PySem.boot_len (pa_cons (pv 2) pa_nil)) (pe_glob (v := .int 8) (by rfl) (T.v_MOST_CARDS).choose_spec ⟨_, rfl⟩) (nomark _))))) (pss_one (L2N.ps_raise rfl (takes3_of rfl rfl rfl rfl).n (pm_own T.e_BadText (by rfl)))) pss_nil) (pss_one (ps_ret (pe_tup (pa_cons (pv 2) (pa_cons (pv 1) pa_nil)))))))), ?_⟩
    have hl0 := hl
    obtain ⟨hv, hne, hlen, hsz⟩ := hl
    obtain ⟨a, xs, rfl, sq, hx⟩ := dp_lst hv
    refine ⟨Nat.zero_le _, fun p1 n1 => ?_⟩
    have xl : xs.length = L.length := by rw [dpA_len hx, List.length_map]
    refine ⟨fun m σ H' => ∃ j acc, (∀ t ∈ acc, CardOk t) ∧ m = L.length - j ∧ i ≤ j ∧ j ≤ L.length ∧ σ = [some (V.ref a), some (V.int (j : Nat)), some (V.ref p1)] ∧ Same H H' ∧ FL K H' p1 (acc.map cD) ∧ acc.length ≤ j ∧ draftM (L.drop j) acc = draftM (L.drop i) [],
      ⟨_, i, [], (fun t m => absurd m (by simp)), rfl, Nat.le_refl _, hi, rfl, same_new n1, .nil upd_same, Nat.zero_le _, rfl⟩, ?_⟩
    rintro m σ H1 ⟨j, acc, hca, rfl, hij, hj, rfl, s1, f1, la, eq⟩
    refine ⟨_, rfl, _, rfl, .ref a, L, j, "tablet", rfl, lines_mono hl0 s1, _, rfl, bb (fun g => ?_) fun g => ?_⟩
    · have g2 := of_decide_eq_true g
      cases hw : L[j]? with
      | none => rw [hw] at g2; cases g2
      | some x =>
      rw [hw] at g2
      have g3 : x.head? = some "tablet" := g2
      obtain ⟨hjl, hwe⟩ := List.getElem?_eq_some_iff.mp hw
      have hxm : x ∈ L := List.mem_of_getElem? hw
      obtain ⟨b, hb, sb⟩ := line_at (dpA_mono s1 _ _ hx) hw
      have sq1 := s1.seq sq
      have step : draftM (L.drop i) [] = match tabletM x with | some c => draftM (L.drop (j + 1)) (acc ++ [c]) | none => none := by
        rw [← eq, drop_at hw]
        exact if_pos g3
      refine ⟨fun σ' H' => ∃ j2 acc2, (∀ t ∈ acc2, CardOk t) ∧ j2 = j + 1 ∧ j2 ≤ L.length ∧ σ' = [some (V.ref a), some (V.int (j2 : Nat)), some (V.ref p1)] ∧ Same H H' ∧ FL K H' p1 (acc2.map cD) ∧ acc2.length ≤ j2 ∧ draftM (L.drop j2) acc2 = draftM (L.drop i) [],
        fun σ' H' ⟨j2, a2, k0, k1, k2, k3, k4, k5, k6, k7⟩ => ⟨L.length - j2, by omega, j2, a2, k0, rfl, by omega, k2, k3, k4, k5, k6, k7⟩, ?_⟩
      obtain ⟨acv, ea, da⟩ := f1
      refine ⟨_, rfl, .inl ⟨rfl, _, SqL.of ea⟩, _, rfl, _, rfl, a, _, _, _, rfl, rfl, sq1, atI_nat hb, .ref b, x, rfl, .lst sb dpA_ofStrs, hsz _ hxm, fun c hc H2 u s2 hu => ?_, fun hc H2 s2 => q0 (fun dr r e => ?_) _ (s1.trans s2)⟩
      · have ea2 := s2 _ _ ea
        have lv := dpA_len da
        rw [List.length_map] at lv
        refine ⟨p1, _, _, rfl, rfl, ea2, (by rw [sizeLine_eq]; omega), _, rfl, _, _, rfl, rfl, j + 1, acc ++ [c], (fun t m => (List.mem_append.mp m).elim (hca t) fun m => by rw [List.mem_singleton.mp m]; exact tabletM_ok hc), rfl, hjl, rfl, same_put (s1.trans s2) n1, ?_, ?_, ?_⟩
        · rw [List.map_append]
          exact FL.app ea2 (dpA_mono s2 _ _ da) (flat_c _) (d := cD c) rfl hu
        · rw [List.length_append]
          show acc.length + 1 ≤ j + 1
          omega
        · rw [step, hc]
      · rw [step, hc] at e
        cases e
    · have g2 := of_decide_eq_false g
      have st : draftM (L.drop j) acc = some (acc, L.drop j) := draftM_stop (by rw [List.getElem?_drop, Nat.add_zero]; exact g2)
      obtain ⟨acv, ea, da⟩ := f1
      have lv := dpA_len da
      rw [List.length_map] at lv
      refine ⟨_, rfl, Nat.zero_le _, fun p2 n2 => ?_⟩
      have s2 := same_new (o := .lst []) n2
      refine ⟨.list (acc.map cD), .list [], .lst (SqL.of (s2 _ _ ea)) (dpA_mono s2 _ _ da), .lst (SqL.of upd_same) .nil, cD_shaped _ hca, nil_shaped, _, rfl, ?_⟩
      rw [cD_nil]
      have eqR : draftM (L.drop i) [] = some (acc, L.drop j) := by rw [← eq, st]
      have bad : (acc = [] ∨ 8 < acc.length) → ∀ {H2 : Hp}, Same H H2 → E (.ref (He.ga K "BadText")) none H2 := fun e _ s => q0 (fun dr r k => by
        rw [eqR] at k
        cases k
        exact e) _ s
      refine bb (fun k => ?_) fun k => ?_
      · exact iteT (bad (.inl (of_decide_eq_true k)) (s1.trans s2))
      · have k1 := of_decide_eq_false k
        refine ⟨_, rfl, p1, acv, rfl, .inl (SqL.of (s2 _ _ ea)), _, _, rfl, rfl, _, rfl, bb (fun k2 => ?_) fun k2 => ?_⟩
        · have k3 := of_decide_eq_true k2
          exact bad (.inr (by omega)) (s1.trans s2)
        · have k3 := of_decide_eq_false k2
          refine ⟨_, rfl, _, rfl, (by show 2 ≤ sizeLine; decide), fun p np => ?_⟩
          have sp := same_new (o := .tup [V.ref p1, V.int (j : Nat)]) np
          refine q1 acc (L.drop j) eqR (fun h => h.elim k1 fun h => by omega) _ p (.ref p1) ((s1.trans s2).trans sp) ?_ ?_
          · have e2 : L.length - (L.drop j).length = j := by rw [List.length_drop]; omega
            rw [e2]
            exact SqT.of upd_same
          · exact dp_mono (s2.trans sp) _ _ (FL.dp ⟨acv, ea, da⟩)

theorem has_read_draft {P : Program} {w : World} {K : PySem.W.Frag} {mg : Str → Option Value} {base : Heap} (T : Tx K mg) : Has P w K mg base (CX3 P w) 4 "read_draft" ["lines", "at"] (sp_read_draft K) := ok_read_draft T
theorem ok_l_draft {P : Program} {w : World} {K : PySem.W.Frag} {mg : Str → Option Value} {base : Heap} (T : Tx K mg) : Has P w K mg base CX0 4 "_law_draft" ["_law_script", "_law_at_here", "_law_width"] (sp_l_draft K) := by
  refine T.d_l_draft.has sc_l_draft (fun vs H Q E h => ?_) (fun f cdv A outer s H vs Q E hr h => ?_)
  · obtain ⟨_, _, _, _, rfl, _⟩ := h
    rfl
  · obtain ⟨v, ns, a, n, rfl, hs, ha, hn, q⟩ := h
    refine ⟨_, PSs.nox ((pss_one (ps_ret (pe_lc (own := [("_law_k", 3)]) (g := (gName 3)) (tt := tYes) rfl sc_l_draft.nd (pi_range1 rfl T.m_range (pa_cons (pv 2) pa_nil)) (blkOk_by (own := [("_law_k", 3)]) (N := N_l_draft) (sc := defScope s_l_draft) (by decide +kernel)) (fun _ _ _ _ _ => (pg_name (i := 3) sc_l_draft.nd rfl (Or.inl rfl))) (fun _ _ _ _ _ => pts_nil) (fun _ _ _ _ _ => (pe_has (has__law_card T) (hr.mono (by decide)) (by rfl) pass0 (pa_cons (pe_has (has__law_at T) (hr.mono (by decide)) (by rfl) pass0 (pa_cons (pv 0) (pa_cons (pe_op op_add (pv 1) (pv 3)) pa_nil))) pa_nil))))))), ?_⟩
    have hs0 := hs
    obtain ⟨hv, hl⟩ := hs
    obtain ⟨b, rfl, sq⟩ := dp_ints hv
    refine ⟨_, rfl, (n : Int), rfl, by omega, by omega, fun D nD => ?_⟩
    refine lc_range (lo := 0) (n := (n : Int).toNat) (fun i H' => Same H H' ∧ ∃ cs : List Card, cs.length = i ∧ (∀ t ∈ cs, CardOk t) ∧ FL K H' D (cs.map cD)) ⟨same_new nD, [], rfl, (fun t m => absurd m (by simp)), .nil upd_same⟩ (fun i H1 hi h => ?_) fun H1 h1 => ?_
    · obtain ⟨s1, cs, lc, hok, acc, ea, da⟩ := h
      refine ⟨rfl, ?_⟩
      refine ⟨_, rfl, _, rfl, _, rfl, _, _, rfl, rfl, .ref b, ns, a + i, ?_, ⟨dp_mono s1 _ _ hv, hl⟩, by omega, fun c => ⟨c, rfl, fun H2 p t s2 np ep okt => ?_⟩⟩
      · exact congrArg (fun t : Int => [V.ref b, V.int t]) (show (a : Int) + (0 + i) = ((a + i : Nat) : Int) by omega)
      · have la := dpA_len da
        rw [List.length_map] at la
        refine ⟨acc, s2 _ _ ea, small_line (by omega), same_put (s1.trans s2) nD, cs ++ [t], by rw [List.length_append, lc]; rfl, fun u m => ?_, ?_⟩
        · rcases List.mem_append.mp m with m | m
          · exact hok u m
          · rw [List.mem_singleton.mp m]; exact okt
        · rw [List.map_append]
          exact FL.app (s2 _ _ ea) (dpA_mono s2 _ _ da) (flat_c _) (d := cD t) rfl (card_of (SqT.of ep))
    · obtain ⟨s1, cs, lc, hok, acc, ea, da⟩ := h1
      exact q _ D acc cs s1 nD ea da (by omega) hok

theorem has__law_draft {P : Program} {w : World} {K : PySem.W.Frag} {mg : Str → Option Value} {base : Heap} (T : Tx K mg) : Has P w K mg base CX0 4 "_law_draft" ["_law_script", "_law_at_here", "_law_width"] (sp_l_draft K) := ok_l_draft T
theorem same_zero {P : Program} {w : World} {K : PySem.W.Frag} {mg : Str → Option Value} {base : Heap} (T : Tx K mg) : Has P w K mg base CX0 1 "_law_same" ["_law_found", "_law_due"] (sp_l_same K 0) := by
  refine T.d_l_same.has sc_l_same (fun vs H Q E h => ?_) (fun f cdv A outer s H vs Q E hr h => ?_)
  · obtain ⟨_, _, _, rfl, _⟩ := h
    rfl
  · obtain ⟨x, y, d, rfl, hx, hy, hdep, q⟩ := h
    refine ⟨_, PSs.nox (pss_cons (ps_if (PW.pt (pw_or (pt_cmpR op_isN (pv 1) pe_non (nomark _)) (pw_or (pt_cmpR op_isB2 (pv 1) pe_bl (nomark _)) (pw_or1 (pt_cmpR op_isB2 (pv 1) pe_bl (nomark _)))))) (pss_one (ps_ret (pe_and (pe_cmpR op_eq (pe_callB call_isi (by rfl) T.m_isinstance (by decide +kernel) (pa_cons (pv 0) (pa_cons (pe_bltn (v := .ty "bool") (by rfl) T.m_bool (by decide +kernel) rfl) pa_nil))) (pe_callB call_isi (by rfl) T.m_isinstance (by decide +kernel) (pa_cons (pv 1) (pa_cons (pe_bltn (v := .ty "bool") (by rfl) T.m_bool (by decide +kernel) rfl) pa_nil))) (nomark _)) (pe_one (pe_cmpR (op_eqD hr.units) (pv 0) (pv 1) (nomark _)))))) pss_nil) (pss_cons (ps_if (pt_val (pe_callB call_isi (by rfl) T.m_isinstance (by decide +kernel) (pa_cons (pv 1) (pa_cons (pe_bltn (v := .ty "int") (by rfl) T.m_int (by decide +kernel) rfl) pa_nil)))) (pss_one (ps_ret (pe_and (pe_callB call_isi (by rfl) T.m_isinstance (by decide +kernel) (pa_cons (pv 0) (pa_cons (pe_bltn (v := .ty "int") (by rfl) T.m_int (by decide +kernel) rfl) pa_nil))) (pe_and (pe_not (pe_callB call_isi (by rfl) T.m_isinstance (by decide +kernel) (pa_cons (pv 0) (pa_cons (pe_bltn (v := .ty "bool") (by rfl) T.m_bool (by decide +kernel) rfl) pa_nil)))) (pe_one (pe_cmpR op_eq (pv 0) (pv 1) (nomark _))))))) pss_nil) (pss_cons (ps_if (pt_val (pe_callB call_isi (by rfl) T.m_isinstance (by decide +kernel) (pa_cons (pv 1) (pa_cons (pe_bltn (v := .ty "str") (by rfl) T.m_str (by decide +kernel) rfl) pa_nil)))) (pss_one (ps_ret (pe_and (pe_callB call_isi (by rfl) T.m_isinstance (by decide +kernel) (pa_cons (pv 0) (pa_cons (pe_bltn (v := .ty "str") (by rfl) T.m_str (by decide +kernel) rfl) pa_nil))) (pe_one (pe_cmpR op_eq (pv 0) (pv 1) (nomark _)))))) pss_nil) (pss_cons ps_never (pss_cons ps_never (pss_cons ps_never (pss_cons ps_never (pss_one ps_never)))))))), ?_⟩
    cases hd1 : d with
    | int i =>
      rw [hd1] at hx hy
      cases dp_int hx
      cases dp_int hy
      refine ⟨_, rfl, rfl, _, rfl, iteF ⟨_, rfl, true, rfl, .inr ⟨fun z => (nomatch z), _, rfl, iteF ⟨_, rfl, false, rfl, .inr ⟨fun z => (nomatch z), _, rfl, iteF ?_⟩⟩⟩⟩⟩
      refine ⟨_, rfl, _, _, _, _, _, rfl, .ty "int", .base (.int _), kit_ty (by decide +kernel), _, rfl, iteT ⟨_, rfl, _, _, _, _, _, rfl, .ty "int", .base (.int _), kit_ty (by decide +kernel), _, rfl, iteT ⟨_, rfl, _, _, _, _, _, rfl, .ty "bool", .base (.int _), kit_ty (r := false) (by decide +kernel), _, rfl, _, rfl, iteT ⟨_, rfl, _, rfl, rfl, ?_⟩⟩⟩⟩
      rw [dec_i, decide_eq_true rfl]
      exact q _ (Same.refl _)
    | str z =>
      rw [hd1] at hx hy
      cases dp_str hx
      cases dp_str hy
      refine ⟨_, rfl, rfl, _, rfl, iteF ⟨_, rfl, true, rfl, .inr ⟨fun z => (nomatch z), _, rfl, iteF ⟨_, rfl, false, rfl, .inr ⟨fun z => (nomatch z), _, rfl, iteF ?_⟩⟩⟩⟩⟩
      refine ⟨_, rfl, _, _, _, _, _, rfl, .ty "int", .base (.str _), kit_ty (by decide +kernel), _, rfl, iteF ?_⟩
      refine ⟨_, rfl, _, _, _, _, _, rfl, .ty "str", .base (.str _), kit_ty (by decide +kernel), _, rfl, iteT ⟨_, rfl, _, _, _, _, _, rfl, .ty "str", .base (.str _), kit_ty (by decide +kernel), _, rfl, iteT ⟨_, rfl, _, rfl, rfl, ?_⟩⟩⟩
      rw [dec_str, decide_eq_true rfl]
      exact q _ (Same.refl _)
    | none => rw [hd1] at hdep; cases hdep
    | bool b => rw [hd1] at hdep; cases hdep
    | list ds => rw [hd1] at hdep; cases hdep
    | tuple ds => rw [hd1] at hdep; cases hdep
    | dict ds => rw [hd1] at hdep; cases hdep
theorem same_succ {P : Program} {w : World} {K : PySem.W.Frag} {mg : Str → Option Value} {base : Heap} (T : Tx K mg) (n : Nat) (F : Has P w K mg base CX0 (n + 1) "_law_same" ["_law_found", "_law_due"] (sp_l_same K n)) : Has P w K mg base CX0 (n + 2) "_law_same" ["_law_found", "_law_due"] (sp_l_same K (n + 1)) := by
  refine T.d_l_same.has sc_l_same (fun vs H Q E h => ?_) (fun f cdv A outer s H vs Q E hr h => ?_)
  · obtain ⟨_, _, _, rfl, _⟩ := h
    rfl
  · obtain ⟨x, y, d, rfl, hx, hy, hdep, q⟩ := h
    refine ⟨_, PSs.nox ((pss_cons (ps_if (PW.pt (pw_or (pt_cmpR op_isN (pv 1) pe_non (nomark _)) (pw_or (pt_cmpR op_isB2 (pv 1) pe_bl (nomark _)) (pw_or1 (pt_cmpR op_isB2 (pv 1) pe_bl (nomark _)))))) (pss_one (ps_ret (pe_and (pe_cmpR op_eq (pe_callB call_isi (by rfl) T.m_isinstance (by decide +kernel) (pa_cons (pv 0) (pa_cons (pe_bltn (v := .ty "bool") (by rfl) T.m_bool (by decide +kernel) rfl) pa_nil))) (pe_callB call_isi (by rfl) T.m_isinstance (by decide +kernel) (pa_cons (pv 1) (pa_cons (pe_bltn (v := .ty "bool") (by rfl) T.m_bool (by decide +kernel) rfl) pa_nil))) (nomark _)) (pe_one (pe_cmpR (op_eqD hr.units) (pv 0) (pv 1) (nomark _)))))) pss_nil) (pss_cons (ps_if (pt_val (pe_callB call_isi (by rfl) T.m_isinstance (by decide +kernel) (pa_cons (pv 1) (pa_cons (pe_bltn (v := .ty "int") (by rfl) T.m_int (by decide +kernel) rfl) pa_nil)))) (pss_one (ps_ret (pe_and (pe_callB call_isi (by rfl) T.m_isinstance (by decide +kernel) (pa_cons (pv 0) (pa_cons (pe_bltn (v := .ty "int") (by rfl) T.m_int (by decide +kernel) rfl) pa_nil))) (pe_and (pe_not (pe_callB call_isi (by rfl) T.m_isinstance (by decide +kernel) (pa_cons (pv 0) (pa_cons (pe_bltn (v := .ty "bool") (by rfl) T.m_bool (by decide +kernel) rfl) pa_nil)))) (pe_one (pe_cmpR op_eq (pv 0) (pv 1) (nomark _))))))) pss_nil) (pss_cons (ps_if (pt_val (pe_callB call_isi (by rfl) T.m_isinstance (by decide +kernel) (pa_cons (pv 1) (pa_cons (pe_bltn (v := .ty "str") (by rfl) T.m_str (by decide +kernel) rfl) pa_nil)))) (pss_one (ps_ret (pe_and (pe_callB call_isi (by rfl) T.m_isinstance (by decide +kernel) (pa_cons (pv 0) (pa_cons (pe_bltn (v := .ty "str") (by rfl) T.m_str (by decide +kernel) rfl) pa_nil))) (pe_one (pe_cmpR op_eq (pv 0) (pv 1) (nomark _)))))) pss_nil) (pss_cons (ps_if (PW.pt (pw_and (pt_val (pe_callB call_isi (by rfl) T.m_isinstance (by decide +kernel) (pa_cons (pv 1) (pa_cons (pe_bltn (v := .ty "list") (by rfl) T.m_list (by decide +kernel) rfl) pa_nil)))) (pw_and1 (pt_not (pt_val (pe_callB call_isi (by rfl) T.m_isinstance (by decide +kernel) (pa_cons (pv 0) (pa_cons (pe_bltn (v := .ty "list") (by rfl) T.m_list (by decide +kernel) rfl) pa_nil)))))))) (pss_one (ps_ret pe_bl)) pss_nil) (pss_cons (ps_if (PW.pt (pw_and (pt_val (pe_callB call_isi (by rfl) T.m_isinstance (by decide +kernel) (pa_cons (pv 1) (pa_cons (pe_bltn (v := .ty "tuple") (by rfl) T.m_tuple (by decide +kernel) rfl) pa_nil)))) (pw_and1 (pt_not (pt_val (pe_callB call_isi (by rfl) T.m_isinstance (by decide +kernel) (pa_cons (pv 0) (pa_cons (pe_bltn (v := .ty "tuple") (by rfl) T.m_tuple (by decide +kernel) rfl) pa_nil)))))))) (pss_one (ps_ret pe_bl)) pss_nil) (pss_cons (ps_if (pt_cmpR op_ne (pe_callB call_len_seq (by rfl) T.m_len PySem.boot_len (pa_cons (pv 0) pa_nil)) (pe_callB call_len_seq (by rfl) T.m_len PySem.boot_len (pa_cons (pv 1) pa_nil)) (nomark _)) (pss_one (ps_ret pe_bl)) pss_nil) (pss_cons (ps_for PassesOwn.never rfl (RZ.pi_zipA (by rfl) T.m_zip (pa_cons (pv 0) (pa_cons (pv 1) pa_nil))) (pg_tup rfl (pgs_cons (pg_name (i := 2) sc_l_same.nd rfl (Or.inl rfl)) (pgs_cons (pg_name (i := 3) sc_l_same.nd rfl (Or.inl rfl)) pgs_nil))) (pss_one (ps_if (pt_not (pt_val (pe_has F hr (by rfl) pass0 (pa_cons (pv 2) (pa_cons (pv 3) pa_nil))))) (pss_one (ps_ret pe_bl)) pss_nil))) (pss_one (ps_ret pe_bl)))))))))), ?_⟩
    cases hd1 : d with
    | int i =>
      rw [hd1] at hx hy
      cases dp_int hx
      cases dp_int hy
      refine ⟨_, rfl, rfl, _, rfl, iteF ⟨_, rfl, true, rfl, .inr ⟨fun z => (nomatch z), _, rfl, iteF ⟨_, rfl, false, rfl, .inr ⟨fun z => (nomatch z), _, rfl, iteF ?_⟩⟩⟩⟩⟩
      refine ⟨_, rfl, _, _, _, _, _, rfl, .ty "int", .base (.int _), kit_ty (by decide +kernel), _, rfl, iteT ⟨_, rfl, _, _, _, _, _, rfl, .ty "int", .base (.int _), kit_ty (by decide +kernel), _, rfl, iteT ⟨_, rfl, _, _, _, _, _, rfl, .ty "bool", .base (.int _), kit_ty (r := false) (by decide +kernel), _, rfl, _, rfl, iteT ⟨_, rfl, _, rfl, rfl, ?_⟩⟩⟩⟩
      rw [dec_i, decide_eq_true rfl]
      exact q _ (Same.refl _)
    | str z =>
      rw [hd1] at hx hy
      cases dp_str hx
      cases dp_str hy
      refine ⟨_, rfl, rfl, _, rfl, iteF ⟨_, rfl, true, rfl, .inr ⟨fun z => (nomatch z), _, rfl, iteF ⟨_, rfl, false, rfl, .inr ⟨fun z => (nomatch z), _, rfl, iteF ?_⟩⟩⟩⟩⟩
      refine ⟨_, rfl, _, _, _, _, _, rfl, .ty "int", .base (.str _), kit_ty (by decide +kernel), _, rfl, iteF ?_⟩
      refine ⟨_, rfl, _, _, _, _, _, rfl, .ty "str", .base (.str _), kit_ty (by decide +kernel), _, rfl, iteT ⟨_, rfl, _, _, _, _, _, rfl, .ty "str", .base (.str _), kit_ty (by decide +kernel), _, rfl, iteT ⟨_, rfl, _, rfl, rfl, ?_⟩⟩⟩
      rw [dec_str, decide_eq_true rfl]
      exact q _ (Same.refl _)
    | none => rw [hd1] at hdep; cases hdep
    | bool b => rw [hd1] at hdep; cases hdep
    | dict ds => rw [hd1] at hdep; cases hdep
    | list ds =>
      rw [hd1] at hx hy hdep
      obtain ⟨a, xs, rfl, sx, dx⟩ := dp_lst hx
      obtain ⟨b, ys, rfl, sy, dy⟩ := dp_lst hy
      have lx := dpA_len dx
      have ly := dpA_len dy
      refine ⟨_, rfl, rfl, _, rfl, iteF ⟨_, rfl, true, rfl, .inr ⟨fun z => (nomatch z), _, rfl, iteF ⟨_, rfl, false, rfl, .inr ⟨fun z => (nomatch z), _, rfl, iteF ?_⟩⟩⟩⟩⟩
      refine ⟨_, rfl, _, _, _, _, _, rfl, .ty "int", tyx_lst sy, kit_ty (by decide +kernel), _, rfl, iteF ?_⟩
      refine ⟨_, rfl, _, _, _, _, _, rfl, .ty "str", tyx_lst sy, kit_ty (by decide +kernel), _, rfl, iteF ?_⟩
      refine ⟨_, rfl, _, _, _, _, _, rfl, .ty "list", tyx_lst sy, kit_ty (by decide +kernel), _, rfl, iteT ⟨_, rfl, _, _, _, _, _, rfl, .ty "list", tyx_lst sx, kit_ty (r := true) (by decide +kernel), _, rfl, iteF ?_⟩⟩
      refine ⟨_, rfl, _, _, _, _, _, rfl, .ty "tuple", tyx_lst sy, kit_ty (by decide +kernel), _, rfl, iteF ?_⟩
      refine ⟨_, rfl, a, xs, rfl, .inl sx, _, rfl, b, ys, rfl, .inl sy, rfl, _, rfl, ?_⟩
      have el : (xs.length : Int) = (ys.length : Int) := by omega
      rw [dec_i, el, decide_eq_true rfl]
      refine iteF ⟨_, rfl, _, rfl, a, b, xs, ys, rfl, .inl ⟨sx, sy, for_it (J := Itz K a b) xs.length (fun i σ H' => (∃ o2 o3, σ = [some (V.ref a), some (V.ref b), o2, o3]) ∧ Same H H') ⟨⟨_, _, rfl⟩, Same.refl _⟩ (fun i σ H' hi h => ⟨xs, ys, _, _, h.2.seq sx, h.2.seq sy, List.getElem?_eq_getElem hi, List.getElem?_eq_getElem (by omega)⟩) (fun σ H' h => ⟨xs, ys, h.2.seq sx, h.2.seq sy, .inl (Nat.le_refl _)⟩) ?_ ?_⟩⟩
      · rintro i σ H1 x H2 hi ⟨⟨o2, o3, rfl⟩, s1⟩ ⟨T1, u, v, rfl, nT, rfl, h1, h2⟩
        have hu := h1 xs (s1.seq sx)
        have hv := h2 ys (s1.seq sy)
        obtain ⟨e, he, du⟩ := dpA_get dx hu
        obtain ⟨e2, he2, dv⟩ := dpA_get dy hv
        rw [he] at he2
        cases he2
        have sT := same_new (o := .tup [u, v]) nT
        have dn : depD n e = true := List.all_eq_true.mp (show ds.all (depD n) = true from hdep) e (List.mem_of_getElem? he)
        exact ⟨T1, _, rfl, SqT.of upd_same, rfl, _, _, rfl, _, _, rfl, rfl, _, rfl, _, rfl, u, v, e, rfl, dp_mono (s1.trans sT) _ _ du, dp_mono (s1.trans sT) _ _ dv, dn, fun H3 s3 => ⟨_, rfl, iteF ⟨⟨_, _, rfl⟩, (s1.trans sT).trans s3⟩⟩⟩
      · rintro σ H1 ⟨⟨o2, o3, rfl⟩, s1⟩
        exact q _ s1
    | tuple ds =>
      rw [hd1] at hx hy hdep
      obtain ⟨a, xs, rfl, sx, dx⟩ := dp_tup hx
      obtain ⟨b, ys, rfl, sy, dy⟩ := dp_tup hy
      have lx := dpA_len dx
      have ly := dpA_len dy
      refine ⟨_, rfl, rfl, _, rfl, iteF ⟨_, rfl, true, rfl, .inr ⟨fun z => (nomatch z), _, rfl, iteF ⟨_, rfl, false, rfl, .inr ⟨fun z => (nomatch z), _, rfl, iteF ?_⟩⟩⟩⟩⟩
      refine ⟨_, rfl, _, _, _, _, _, rfl, .ty "int", tyx_tup sy, kit_ty (by decide +kernel), _, rfl, iteF ?_⟩
      refine ⟨_, rfl, _, _, _, _, _, rfl, .ty "str", tyx_tup sy, kit_ty (by decide +kernel), _, rfl, iteF ?_⟩
      refine ⟨_, rfl, _, _, _, _, _, rfl, .ty "list", tyx_tup sy, kit_ty (by decide +kernel), _, rfl, iteF ?_⟩
      refine ⟨_, rfl, _, _, _, _, _, rfl, .ty "tuple", tyx_tup sy, kit_ty (by decide +kernel), _, rfl, iteT ⟨_, rfl, _, _, _, _, _, rfl, .ty "tuple", tyx_tup sx, kit_ty (r := true) (by decide +kernel), _, rfl, iteF ?_⟩⟩
      refine ⟨_, rfl, a, xs, rfl, .inr sx, _, rfl, b, ys, rfl, .inr sy, rfl, _, rfl, ?_⟩
      have el : (xs.length : Int) = (ys.length : Int) := by omega
      rw [dec_i, el, decide_eq_true rfl]
      refine iteF ⟨_, rfl, _, rfl, a, b, xs, ys, rfl, .inr ⟨sx, sy, for_it (J := RZ.ItzT K a b) xs.length (fun i σ H' => (∃ o2 o3, σ = [some (V.ref a), some (V.ref b), o2, o3]) ∧ Same H H') ⟨⟨_, _, rfl⟩, Same.refl _⟩ (fun i σ H' hi h => ⟨xs, ys, _, _, same_seqT h.2 sx, same_seqT h.2 sy, List.getElem?_eq_getElem hi, List.getElem?_eq_getElem (by omega)⟩) (fun σ H' h => ⟨xs, ys, same_seqT h.2 sx, same_seqT h.2 sy, .inl (Nat.le_refl _)⟩) ?_ ?_⟩⟩
      · rintro i σ H1 x H2 hi ⟨⟨o2, o3, rfl⟩, s1⟩ ⟨T1, u, v, rfl, nT, rfl, h1, h2⟩
        have hu := h1 xs (same_seqT s1 sx)
        have hv := h2 ys (same_seqT s1 sy)
        obtain ⟨e, he, du⟩ := dpA_get dx hu
        obtain ⟨e2, he2, dv⟩ := dpA_get dy hv
        rw [he] at he2
        cases he2
        have sT := same_new (o := .tup [u, v]) nT
        have dn : depD n e = true := List.all_eq_true.mp (show ds.all (depD n) = true from hdep) e (List.mem_of_getElem? he)
        exact ⟨T1, _, rfl, SqT.of upd_same, rfl, _, _, rfl, _, _, rfl, rfl, _, rfl, _, rfl, u, v, e, rfl, dp_mono (s1.trans sT) _ _ du, dp_mono (s1.trans sT) _ _ dv, dn, fun H3 s3 => ⟨_, rfl, iteF ⟨⟨_, _, rfl⟩, (s1.trans sT).trans s3⟩⟩⟩
      · rintro σ H1 ⟨⟨o2, o3, rfl⟩, s1⟩
        exact q _ s1
theorem ok_l_same {P : Program} {w : World} {K : PySem.W.Frag} {mg : Str → Option Value} {base : Heap} (T : Tx K mg) : Has P w K mg base CX0 4 "_law_same" ["_law_found", "_law_due"] (sp_l_same K 3) := same_succ T 2 (same_succ T 1 (same_succ T 0 (same_zero T)))

theorem has__law_same {P : Program} {w : World} {K : PySem.W.Frag} {mg : Str → Option Value} {base : Heap} (T : Tx K mg) : Has P w K mg base CX0 4 "_law_same" ["_law_found", "_law_due"] (sp_l_same K 3) := ok_l_same T
theorem ok_l_line {P : Program} {w : World} {K : PySem.W.Frag} {mg : Str → Option Value} {base : Heap} (T : Tx K mg) : Has P w K mg base CX0 4 "_law_line" ["_law_state", "_law_words", "_law_most_here"] (sp_l_line K) := by
  refine T.d_l_line.has sc_l_line (fun vs H Q E h => ?_) (fun f cdv A outer s H vs Q E hr h => ?_)
  · obtain ⟨_, _, _, _, _, _, rfl, _⟩ := h
    rfl
  · obtain ⟨v, s, x, u, most, N, rfl, hst, hN, hok, hu, hne, hsz, q1, q0⟩ := h
    refine ⟨_, PSs.nox ((pss_cons (ps_if (PW.pt (pw_or (pt_cmpR op_ne (pe_callB call_len_seq (by rfl) T.m_len PySem.boot_len (pa_cons (pv 1) pa_nil)) pe_int (nomark _)) (pw_or1 (PW.pt (pw_and (pt_cmpR op_ne (pe_ix ix_list (pv 1) pe_int (fun _ _ => rfl)) pe_str (nomark _)) (pw_and1 (pt_cmpR op_ne (pe_ix ix_list (pv 1) pe_int (fun _ _ => rfl)) pe_str (nomark _)))))))) (pss_one (ps_ret pe_non)) pss_nil) (pss_cons (ps_if (pt_cmpR op_eq (pe_ix ix_list (pv 1) pe_int (fun _ _ => rfl)) pe_str (nomark _)) (pss_one (ps_ret (pe_has (has__law_after T) (hr.mono (by decide)) (by rfl) pass0 (pa_cons (pv 0) (pa_cons (pe_ix ix_list (pv 1) pe_int (fun _ _ => rfl)) (pa_cons (pv 2) pa_nil)))))) pss_nil) (pss_cons (ps_set (i := 3) sc_l_line.nd rfl (Or.inl rfl) (pe_has (has__law_number T) (hr.mono (by decide)) (by rfl) pass0 (pa_cons (pe_ix ix_list (pv 1) pe_int (fun _ _ => rfl)) pa_nil))) (pss_cons (ps_if (PW.pt (pw_or (pt_cmpR op_isN (pv 3) pe_non (nomark _)) (pw_or1 (pt_cmpR op_ge (pv 3) (pe_callB call_len_seq (by rfl) T.m_len PySem.boot_len (pa_cons (pe_ix ix_tup (pv 0) pe_int (fun _ _ => rfl)) pa_nil)) (nomark _))))) (pss_one (ps_ret pe_non)) pss_nil) (pss_cons (ps_set (i := 4) sc_l_line.nd rfl (Or.inl rfl) (pe_callTy call_list_of (by rfl) T.m_list (by decide +kernel) (pa_cons (pe_ix ix_tup (pv 0) pe_int (fun _ _ => rfl)) pa_nil))) (pss_cons (ps_asg (pe_has (has__law_turnover T) (hr.mono (by decide)) (by rfl) pass0 (pa_cons (pe_ix ix_list (pv 4) (pv 3) (fun _ _ => rfl)) pa_nil)) (pg_sub (pv 4) (pv 3) set_list)) (pss_one (ps_ret (pe_tup (pa_cons (pv 4) (pa_cons (pe_ix ix_tup (pv 0) pe_int (fun _ _ => rfl)) (pa_cons (pe_ix ix_tup (pv 0) pe_int (fun _ _ => rfl)) (pa_cons (pe_ix ix_tup (pv 0) pe_int (fun _ _ => rfl)) pa_nil)))))))))))))), ?_⟩
    obtain ⟨b, rfl, sb⟩ := dp_strs hu
    obtain ⟨a, l1, l2, l3, d, ⟨N1, N2, N3, N4⟩, rfl, sq, h1, h2, h3, h4⟩ := hst
    have hst0 : StateAt K H (.ref a) s := ⟨a, l1, l2, l3, d, rfl, sq, h1, h2, h3, h4⟩
    have h16 : ∀ {z : Str}, z.length ≤ 1000000 → z.length ≤ sizeLine := fun h => by rw [sizeLine_eq]; omega
    cases hx : x with
    | nil => exact absurd hx hne
    | cons w0 xr =>
    subst hx
    have k0 : ((w0 :: xr).map V.str)[0]? = some (V.str w0) := rfl
    refine ⟨_, rfl, b, _, rfl, .inl sb, rfl, _, rfl, bb (fun k => ?_) fun k => ?_⟩
    · rw [dec_i, Bool.not_eq_true', decide_eq_false_iff_not] at k
      exact iteT (q0 (lineM_len (fun z => k (by rw [List.length_map, z]; rfl))) _ (Same.refl _)).1
    rw [dec_i, Bool.not_eq_false', decide_eq_true_eq, List.length_map] at k
    obtain ⟨w0', w1, e2⟩ := two_ (show (w0 :: xr).length = 2 by omega)
    cases e2
    have z1 := hsz w1 (by simp)
    have first : atI (([w0, w1] : List Str).map V.str) 0 = some (V.str w0) := atI_nat (j := 0) rfl
    have second : atI (([w0, w1] : List Str).map V.str) 1 = some (V.str w1) := atI_nat (j := 1) rfl
    refine ⟨_, rfl, b, _, _, _, rfl, rfl, sb, first, rfl, _, rfl, bb (fun g => ⟨_, rfl, b, _, _, _, rfl, rfl, sb, first, rfl, _, rfl, bb (fun g2 => ?_) fun g2 => ?_⟩) fun g => ?_⟩
    · rw [dec_str, Bool.not_eq_true', decide_eq_false_iff_not] at g g2
      exact (q0 ((if_neg g).trans (if_neg g2)) _ (Same.refl _)).1
    all_goals
      refine ⟨_, rfl, b, _, _, _, rfl, rfl, sb, first, rfl, _, rfl, bb (fun g3 => ?_) fun g3 => ?_⟩
    · rw [dec_str, Bool.not_eq_true', decide_eq_false_iff_not] at g
      rw [dec_str] at g3
      exact absurd (of_decide_eq_true g3) g
    · rw [dec_str, Bool.not_eq_true', decide_eq_false_iff_not] at g
      rw [dec_str, Bool.not_eq_false', decide_eq_true_eq] at g2
      have lm : lineM most s [w0, w1] = (num w1).bind fun n => if n < s.cards.length then some (.flip n.toNat, flipP s n.toNat) else none := (if_neg g).trans (if_pos g2)
      obtain ⟨_, xs, e, sqc, hc⟩ := dp_lst h1
      cases e
      have xl : xs.length = s.cards.length := by rw [dpA_len hc, List.length_map]
      refine ⟨_, rfl, b, _, _, _, rfl, rfl, sb, second, w1, rfl, h16 z1, fun n hn => ?_, fun hn => ?_⟩
      · obtain ⟨_, _, _, n0⟩ := num_some hn
        obtain ⟨k2, rfl⟩ := Int.eq_ofNat_of_zero_le n0
        refine ⟨_, rfl, rfl, _, rfl, iteF ⟨_, rfl, _, rfl, a, _, _, _, rfl, rfl, sq, atI_nat (j := 0) (v := V.ref l1) rfl, l1, xs, rfl, .inl sqc, _, _, rfl, rfl, _, rfl, bb (fun g4 => ?_) fun g4 => ?_⟩⟩
        · have g5 := of_decide_eq_true g4
          exact (q0 (by rw [lm, hn]; exact if_neg (by omega)) _ (Same.refl _)).1
        have g5 := of_decide_eq_false g4
        have hk : k2 < s.cards.length := by omega
        have ht : s.cards[k2]? = some s.cards[k2] := List.getElem?_eq_getElem hk
        obtain ⟨y, hy, hyd⟩ := card_put hc ht
        refine ⟨_, rfl, a, _, _, _, rfl, rfl, sq, atI_nat (j := 0) (v := V.ref l1) rfl, l1, xs, rfl, .inl sqc, fun p1 n1 => ?_⟩
        have s1 := same_new (o := .lst xs) n1
        refine ⟨_, rfl, _, rfl, p1, _, _, _, rfl, rfl, SqL.of upd_same, atI_nat hy, y, _, rfl, dp_mono s1 _ _ hyd, hok.cards _ (List.getElem_mem hk), fun q2 nq => ?_⟩
        have s2 := s1.trans (same_new (o := tupC (cFlip s.cards[k2])) nq)
        have e1 : (upd (upd H p1 (.lst xs)) q2 (tupC (cFlip s.cards[k2]))) p1 = some (.lst xs) := (same_new nq) _ _ upd_same
        have hix : ixN xs.length (k2 : Int) = some k2 := by
          unfold ixN
          rw [if_pos (by omega), if_pos (by omega)]
          rfl
        refine ⟨_, rfl, _, rfl, p1, xs, _, k2, rfl, rfl, e1, hix, ?_⟩
        have s3 : Same H (upd (upd (upd H p1 (.lst xs)) q2 (tupC (cFlip s.cards[k2]))) p1 (.lst (xs.set k2 (.ref q2)))) := same_put s2 n1
        have flp : (flipP s k2).cards = s.cards.set k2 (cFlip s.cards[k2]) := by
          show s.cards.set k2 (cFlip (s.cards.getD k2 _)) = _
          rw [List.getD_eq_getElem?_getD, ht]
          rfl
        refine ⟨_, rfl, _, rfl, a, _, _, _, rfl, rfl, same_seqT s3 sq, atI_nat (j := 1) (v := V.ref l2) rfl, _, rfl, a, _, _, _, rfl, rfl, same_seqT s3 sq, atI_nat (j := 2) (v := V.ref l3) rfl, _, rfl, a, _, _, _, rfl, rfl, same_seqT s3 sq, atI_nat (j := 3) (v := V.ref d) rfl, (by show 4 ≤ sizeLine; decide), fun p2 n2 => ?_⟩
        have s4 := s3.trans (same_new (o := .tup [V.ref p1, V.ref l2, V.ref l3, V.ref d]) n2)
        refine q1 (.flip k2) (flipP s k2) (by rw [lm, hn]; exact if_pos (by omega)) _ _ s4 ⟨p2, p1, l2, l3, d, ⟨hN _ n1, N2, N3, N4⟩, rfl, SqT.of upd_same, ?_, dp_mono s4 _ _ h2, dp_mono s4 _ _ h3, s4 _ _ h4⟩
        rw [flp]
        have base : DpAll K (upd (upd H p1 (.lst xs)) q2 (tupC (cFlip s.cards[k2]))) (xs.set k2 (.ref q2)) ((s.cards.set k2 (cFlip s.cards[k2])).map cD) := by
          rw [List.map_set]
          exact dpA_set (dpA_mono s2 _ _ hc) (card_of (SqT.of upd_same))
        exact .lst (SqL.of ((same_new n2) _ _ upd_same)) (dpA_mono (same_new n2) _ _ (dpA_ts (ts_upd e1 nt_lst) (flat_c _) base))
      · exact ⟨_, rfl, rfl, _, rfl, iteT (q0 (by rw [lm, hn]; rfl) _ (Same.refl _)).1⟩
    · rw [dec_str, Bool.not_eq_false', decide_eq_true_eq] at g
      have lm : lineM most s [w0, w1] = (rowP most s w1).map fun s' => (.row w1, s') := if_pos g
      refine ⟨_, rfl, _, rfl, b, _, _, _, rfl, rfl, sb, second, _, rfl, _, s, w1, most, N, rfl, hst0, hok, h16 z1, hN, fun s' hs H2 r s2 hr2 => ?_, fun hn H2 k s2 => ?_⟩
      · exact q1 _ _ (by rw [lm, hs]; rfl) H2 r s2 hr2
      · exact (q0 (by rw [lm, hn]; rfl) H2 s2).2 k
    · rw [dec_str, Bool.not_eq_false', decide_eq_true_eq] at g
      rw [dec_str] at g3
      exact absurd g (of_decide_eq_false g3)

theorem has__law_line {P : Program} {w : World} {K : PySem.W.Frag} {mg : Str → Option Value} {base : Heap} (T : Tx K mg) : Has P w K mg base CX0 4 "_law_line" ["_law_state", "_law_words", "_law_most_here"] (sp_l_line K) := ok_l_line T
theorem ok_stage_behind {P : Program} {w : World} {K : PySem.W.Frag} {mg : Str → Option Value} {base : Heap} (T : Tx K mg) : Has P w K mg base (L2N.CX P w) 5 "stage_behind" ["stage", "row", "most"] (sp_stage_behind K) := by
  refine T.d_stage_behind.has sc_stage_behind (fun vs H Q E h => ?_) (fun f cdv A outer s H vs Q E hr h => ?_)
  · obtain ⟨_, _, _, _, rfl, _⟩ := h
    rfl
  · obtain ⟨p, s, z, most, rfl, hs, hok, hz, q1, q0⟩ := h
    refine ⟨_, (pss_cons (ps_if (pt_not (pt_val (pe_has (has_fits T) (hr.mono (by decide)) (by rfl) pass0 (pa_cons (pv 1) (pa_cons (pe_callB call_len_seq (by rfl) T.m_len PySem.boot_len (pa_cons (pe_fld (pv 0) rfl) pa_nil)) pa_nil))))) (pss_one (L2N.ps_raise rfl (L2N.takes_of rfl rfl rfl rfl) (pm_own T.e_BadRow (by rfl)))) pss_nil) (pss_cons (ps_set (i := 3) sc_stage_behind.nd rfl (Or.inl rfl) (pe_has (has_twisted T) (hr.mono (by decide)) (by rfl) (passesN (L2N.takes_of rfl rfl rfl rfl) (fun _ _ _ _ q => q)) (pa_cons (pv 0) (pa_cons (pv 1) (pa_cons (pv 2) pa_nil))))) (pss_cons (ps_setLc (i := 4) (own := [("far", 5), ("twist", 6)]) (g := (gTup K 2 (gCons (gName 5) (gCons (gName 6) gNil)))) (tt := tYes) rfl sc_stage_behind.nd rfl rfl (sw_true rfl rfl rfl (by decide +kernel)) (pi_zip (by rfl) T.m_zip (pa_cons (pe_fld (pv 0) rfl) (pa_cons (pv 3) pa_nil))) (blkOk_by (own := [("far", 5), ("twist", 6)]) (N := N_stage_behind) (sc := defScope s_stage_behind) (by decide +kernel)) (fun _ _ _ _ _ => (pg_tup rfl (pgs_cons (pg_name (i := 5) sc_stage_behind.nd rfl (Or.inl rfl)) (pgs_cons (pg_name (i := 6) sc_stage_behind.nd rfl (Or.inl rfl)) pgs_nil)))) (fun _ _ _ _ _ => pts_nil) (fun _ _ _ _ _ => (pe_callB (call_max2 rfl) (by rfl) T.m_max (by decide +kernel) (pa_cons (pv 5) (pa_cons (pe_callB call_abs (by rfl) T.m_abs (by decide +kernel) (pa_cons (pv 6) pa_nil)) pa_nil))))) (pss_one (ps_ret (pe_mk (mk_Stage T) (hr.mono (by decide)) (by rfl) pass0 (pa_cons (pe_ix ix_tup (pe_has (has_pick_of T) (hr.mono (by decide)) (by rfl) pass0 (pa_cons (pe_fld (pv 0) rfl) (pa_cons (pv 1) pa_nil))) pe_int (fun _ _ => rfl)) (pa_cons (pv 3) (pa_cons (pv 4) (pa_cons (pe_has (has_drawn_off T) (hr.mono (by decide)) (by rfl) (passesN (L2N.takes_of rfl rfl rfl rfl) (fun _ _ _ _ q => q)) (pa_cons (pv 0) (pa_cons (pv 1) pa_nil))) pa_nil)))))))))), ?_⟩
    obtain ⟨dx, a, b, c0, d0, hp, ha, hb, hc0, hd⟩ := hs
    obtain ⟨_, xs, ea, sq, dC⟩ := dp_lst ha
    cases ea
    obtain ⟨_, eb, sqb⟩ := dp_ints hb
    cases eb
    obtain ⟨_, ec, sqc⟩ := dp_ints hc0
    cases ec
    have hs' : StageAt K H p s := ⟨dx, a, b, c0, d0, hp, ha, hb, hc0, hd⟩
    have stm : ∀ {H'}, Same H H' → StageAt K H' p s := fun e => ⟨dx, a, b, c0, d0, e _ _ hp, dp_mono e _ _ ha, dp_mono e _ _ hb, dp_mono e _ _ hc0, e _ _ hd⟩
    have xl : xs.length = s.cards.length := by rw [dpA_len dC, List.length_map]
    refine ⟨_, rfl, _, rfl, p, _, _, _, _, rfl, hp, T.c_Stage, T.a_cards, rfl, a, xs, rfl, .inl sq, z, s.cards.length, ?_, hz, _, rfl, bb (fun g => ?_) fun g => ?_⟩
    · rw [xl]; rfl
    · rw [Bool.not_eq_true'] at g
      refine q0 ?_ "BadRow" (by decide) _ (Same.refl _)
      unfold rowP
      rw [if_neg (by rw [g]; exact Bool.false_ne_true)]
    · rw [Bool.not_eq_false'] at g
      obtain ⟨zl, zs, zf⟩ := fits_len g
      have row1 : tight most (twP s z.cps.toList) = true → rowP most s z = none := fun h => by
        unfold rowP
        rw [if_pos g, if_pos h]
      refine ⟨_, rfl, _, rfl, _, rfl, p, s, z, most, rfl, hs', hok, g, fun ht H1 l s1 n1 e1 => ?_, fun ht => q0 (row1 ht) "TooTight" (by decide)⟩
      have twl : (twP s z.cps.toList).length = s.cards.length := by
        unfold twP
        rw [List.length_zipWith, List.length_zipWith, hok.tw]
        omega
      have fl : (farP s.far (twP s z.cps.toList)).length = s.cards.length := by
        unfold farP
        rw [List.length_zipWith, twl, hok.far]
        omega
      refine ⟨_, rfl, p, _, _, _, _, rfl, s1 _ _ hp, T.c_Stage, T.a_farthest, rfl, _, rfl, c0, l, _, _, rfl, s1.seq sqc, SqL.of e1, fun D nD => ?_⟩
      have sq1 : SqL K H1 l ((twP s z.cps.toList).map V.int) := SqL.of e1
      refine lc_it (J := Itz K c0 l) s.cards.length (PvI H1 D (farP s.far (twP s z.cps.toList))) (.start nD) (fun i H' hi h => ?_) (fun H' h => ⟨_, _, (s1.trans h.1).seq sqc, h.1.seq sq1, .inl (by rw [List.length_map, hok.far]; exact Nat.le_refl _)⟩) (fun i H' x H2 hi h y => ?_) fun H2 h2 => ?_
      · have i1 : i < (s.far.map V.int).length := by rw [List.length_map, hok.far]; exact hi
        have i2 : i < ((twP s z.cps.toList).map V.int).length := by rw [List.length_map, twl]; exact hi
        exact ⟨_, _, _, _, (s1.trans h.1).seq sqc, h.1.seq sq1, List.getElem?_eq_getElem i1, List.getElem?_eq_getElem i2⟩
      · obtain ⟨T1, u, v, rfl, nT, rfl, f1, f2⟩ := y
        have hu := f1 _ ((s1.trans h.1).seq sqc)
        have hv := f2 _ (h.1.seq sq1)
        rw [List.getElem?_map] at hu hv
        obtain ⟨fi, hfi, rfl⟩ := Option.map_eq_some_iff.mp hu
        obtain ⟨ti, hti, rfl⟩ := Option.map_eq_some_iff.mp hv
        refine ⟨T1, _, rfl, SqT.of upd_same, rfl, _, _, rfl, _, _, rfl, rfl, rfl, ?_⟩
        refine ⟨_, rfl, _, rfl, _, rfl, _, _, rfl, ?_⟩
        exact h.step (same_new nT) nD (zw_at hfi hti) (by rw [fl]; have := hok.n8; omega)
      obtain ⟨s2, e2⟩ := h2
      rw [List.take_of_length_le (by omega)] at e2
      have s12 := s1.trans s2
      refine ⟨_, rfl, p, _, _, _, _, rfl, s12 _ _ hp, T.c_Stage, T.a_cards, rfl, _, rfl, _, s.cards, z, rfl, ⟨dp_mono s12 _ _ ha, hok.cards, hok.n8, g⟩, fun H3 r x y s3 sr nx ny => ⟨r, _, _, _, rfl, rfl, sr, rfl, ?_⟩⟩
      have s13 := s12.trans s3
      refine ⟨_, rfl, _, rfl, _, rfl, _, rfl, p, s, z, rfl, stm s13, hok, g, fun L hL H4 d4 s4 n4 e4 => ?_, fun hL => ?_⟩
      · obtain ⟨la, xa, rfl, na, ea4, da⟩ := nx
        have s14 := s13.trans s4
        intro w dw nw ndw nwd
        refine ⟨w, dw, _, _, _, _, rfl, upd_same, fun H5 ho hx => ⟨rfl, ?_⟩⟩
        have s5 : Same H4 H5 := fun b o e => by
          have ne : b ≠ w := ne_of_none e nw
          rw [ho b ne, upd_ne ne, upd_ne (ne_of_none e ndw)]
          exact e
        have rp : rowP most s z = some ⟨turnP s.cards z.cps.toList, twP s z.cps.toList, farP s.far (twP s z.cps.toList), L⟩ := by
          unfold rowP
          rw [if_pos g, if_neg (by rw [ht]; exact Bool.false_ne_true), hL]
          rfl
        exact q1 _ rp H5 w (s14.trans s5) ⟨dw, la, l, D, d4, xa, s14.free nw, s12.free na, n1, s1.free nD, s13.free n4, hx, s5 _ _ (s4 _ _ ea4), dpA_mono (s4.trans s5) _ _ da, s5 _ _ (s4 _ _ (s3 _ _ (s2 _ _ e1))), s5 _ _ (s4 _ _ (s3 _ _ e2)), s5 _ _ e4⟩
      · intro H5 s5
        refine q0 ?_ "SpoolDry" (by decide) _ (s13.trans s5)
        unfold rowP
        rw [if_pos g, if_neg (by rw [ht]; exact Bool.false_ne_true), hL]
        rfl

theorem has_stage_behind {P : Program} {w : World} {K : PySem.W.Frag} {mg : Str → Option Value} {base : Heap} (T : Tx K mg) : Has P w K mg base (L2N.CX P w) 5 "stage_behind" ["stage", "row", "most"] (sp_stage_behind K) := ok_stage_behind T
theorem ok_Loom_band {P : Program} {w : World} {K : PySem.W.Frag} {mg : Str → Option Value} {base : Heap} (T : Tx K mg) : HasM P w K mg base CX0 5 "Loom" "band" ["self"] (sp_Loom_band K) := by
  refine T.d_Loom_band.has T.c_Loom sc_Loom_band (fun vs H Q E h => ?_) (fun f cdv A outer s H vs Q E hr h => ?_)
  · obtain ⟨_, _, _, rfl, _⟩ := h
    rfl
  · obtain ⟨p, m, G0, rfl, hl, hok, q⟩ := h
    refine ⟨_, PSs.nox ((pss_cons (ps_set (i := 1) sc_Loom_band.nd rfl (Or.inl rfl) (pe_lst pa_nil)) (pss_cons (ps_for PassesOwn.never rfl (pi_zip (by rfl) T.m_zip (pa_cons (pe_fld (pv 0) rfl) (pa_cons (pe_fld (pv 0) rfl) pa_nil))) (pg_tup rfl (pgs_cons (pg_name (i := 2) sc_Loom_band.nd rfl (Or.inl rfl)) (pgs_cons (pg_name (i := 3) sc_Loom_band.nd rfl (Or.inl rfl)) pgs_nil))) (pss_one (ps_if (pt_cmpR op_eq (pe_ix ix_tup (pv 2) pe_int (fun _ _ => rfl)) pe_str (nomark _)) (pss_one (ps_expr (pe_bm PySem.F.plainAttrs_list PySem.F.slot_list_append PySem.F.type_list_append mt_append (pv 1) (pa_cons (pe_ix ix_tup (pe_has (has_pick_of T) (hr.mono (by decide)) (by rfl) pass0 (pa_cons (pe_fld (pv 3) rfl) (pa_cons (pe_ix ix_tup (pv 2) pe_int (fun _ _ => rfl)) pa_nil))) pe_int (fun _ _ => rfl)) pa_nil)))) pss_nil))) (pss_one (ps_ret (pv 1)))))), ?_⟩
    have hl0 := hl
    obtain ⟨G, dx, ad, asp, ado, ast, aun, hl⟩ := hl
    obtain ⟨xs, hxs, dxs⟩ := hl.done
    obtain ⟨ys, hys, dys⟩ := hl.sts
    have lx : xs.length = m.done.length := by rw [dpA_len dxs, List.length_map]
    have ly : ys.length = m.sts.length := all2_len dys
    have lm := hok.len
    have fewm := hok.few
    refine ⟨Nat.zero_le _, fun p1 n1 => ?_⟩
    have s0 := same_new (o := .lst []) n1
    refine ⟨_, rfl, p, _, _, _, _, rfl, s0 _ _ hl.ins, T.c_Loom, T.a_done, rfl, _, rfl, p, _, _, _, _, rfl, s0 _ _ hl.ins, T.c_Loom, T.a_stages, rfl, ado, ast, xs, ys, rfl, SqL.of (s0 _ _ hxs), SqL.of (s0 _ _ hys), ?_⟩
    refine for_it (J := Itz K ado ast) m.done.length (fun i σ H' => (∃ o2 o3, σ = [some (V.ref p), some (V.ref p1), o2, o3]) ∧ Same H H' ∧ Lof K H' p1 ((bandM (m.done.take i) (m.sts.take i)).map fun l => .list (l.map pD)) ∧ (bandM (m.done.take i) (m.sts.take i)).length ≤ i)
      ⟨⟨_, _, rfl⟩, s0, .nil upd_same, Nat.zero_le _⟩ (fun i σ H' hi h => ⟨xs, ys, _, _, SqL.of (h.2.1 _ _ hxs), SqL.of (h.2.1 _ _ hys), List.getElem?_eq_getElem (by omega), List.getElem?_eq_getElem (by omega)⟩) (fun σ H' h => ⟨xs, ys, SqL.of (h.2.1 _ _ hxs), SqL.of (h.2.1 _ _ hys), .inl (by omega)⟩) ?_ ?_
    · rintro i σ H1 x H2 hi ⟨⟨o2, o3, rfl⟩, s1, f1, bl⟩ ⟨T1, x, y, rfl, nT, rfl, hx, hy⟩
      have hxi := hx xs (SqL.of (s1 _ _ hxs))
      have hyi := hy ys (SqL.of (s1 _ _ hys))
      obtain ⟨d, hd, dd⟩ := dpA_get dxs hxi
      rw [List.getElem?_map] at hd
      obtain ⟨de, hde, rfl⟩ := Option.map_eq_some_iff.mp hd
      obtain ⟨s, hs, q1, rfl, hst⟩ := all2_get dys hyi
      have sT := same_new (o := .tup [x, .ref q1]) nT
      have s2 := s1.trans sT
      obtain ⟨ax, xx, rfl, sx, dx2⟩ : ∃ a xx, x = .ref a ∧ SqT K G a xx ∧ DpAll K G xx (match de with | .row z => [.str "row", .str z] | .flip k => [.str "flip", .int k]) := by
        cases de with
        | row z => exact dp_tup dd
        | flip k => exact dp_tup dd
      have gs := hl.g.trans s2
      have tk : ∀ {α : Type} {l : List α} {e : α}, l[i]? = some e → l.take (i + 1) = l.take i ++ [e] := fun e => by rw [List.take_succ, e]; rfl
      have bsplit : ∀ (a : List Deed) (b : List Sg) (d : Deed) (s : Sg), a.length = b.length → bandM (a ++ [d]) (b ++ [s]) = bandM a b ++ bandM [d] [s] := by
        intro a
        induction a with
        | nil => intro b d s e; cases b with
          | nil => simp [bandM]
          | cons _ _ => simp at e
        | cons a0 a ih => intro b d s e; cases b with
          | nil => simp at e
          | cons b0 b =>
            show _ ++ bandM (a ++ [d]) (b ++ [s]) = (_ ++ bandM a b) ++ _
            rw [ih b d s (by simpa using e), List.append_assoc]
      have bnext : bandM (m.done.take (i + 1)) (m.sts.take (i + 1)) = bandM (m.done.take i) (m.sts.take i) ++ bandM [de] [s] := by
        rw [tk hde, tk hs, bsplit _ _ _ _ (by rw [List.length_take, List.length_take]; omega)]
      refine ⟨T1, _, rfl, SqT.of upd_same, rfl, _, _, rfl, _, _, rfl, rfl, ?_⟩
      cases de with
      | flip k =>
        cases dx2 with
        | cons h1 t => cases t with
          | cons h2 t =>
            cases t
            rw [dp_str h1] at sx
            refine ⟨_, rfl, ax, _, _, _, rfl, rfl, same_seqT gs sx, atI_nat (j := 0) rfl, rfl, _, rfl, iteF ⟨⟨_, _, rfl⟩, s2, ?_, ?_⟩⟩
            · rw [bnext]
              show Lof K _ p1 ((bandM (m.done.take i) (m.sts.take i) ++ []).map _)
              rw [List.append_nil]
              exact f1.same sT
            · rw [bnext]
              show (_ ++ []).length ≤ _
              rw [List.append_nil]
              omega
      | row z =>
        cases dx2 with
        | cons h1 t => cases t with
          | cons h2 t =>
            cases t
            rw [dp_str h1, dp_str h2] at sx
            obtain ⟨acc, ea, la, da⟩ := f1.len
            rw [List.length_map] at la
            have hf := hok.row i z s hde hs
            have oks := hok.st s (List.mem_of_getElem? hs)
            obtain ⟨dx2, a, b, c0, d0, hp, ha, hb, hc0, hdd⟩ := stageAt_mono gs hst
            refine ⟨_, rfl, ax, _, _, _, rfl, rfl, same_seqT gs sx, atI_nat (j := 0) (v := V.str "row") rfl, rfl, _, rfl, iteT ?_⟩
            refine ⟨_, rfl, .inl ⟨rfl, _, SqL.of (sT _ _ ea)⟩, _, rfl, q1, _, _, _, _, rfl, hp, T.c_Stage, T.a_cards, rfl, _, rfl, ax, _, _, _, rfl, rfl, same_seqT gs sx, atI_nat (j := 1) (v := V.str z) rfl, _, s.cards, z, rfl, ⟨ha, oks.cards, oks.n8, hf⟩, fun H3 r u v s3 sr nu nv => ⟨r, _, _, _, rfl, rfl, sr, rfl, ?_⟩⟩
            obtain ⟨lv, xv, rfl, nlv, elv, dlv⟩ := nv
            have ea3 := s3 _ _ (sT _ _ ea)
            refine ⟨p1, _, _, rfl, rfl, ea3, (by rw [sizeLine_eq]; omega), ⟨_, _, rfl⟩, same_put (s2.trans s3) n1, ?_, ?_⟩
            · rw [bnext, List.map_append]
              refine Lof.app (dpA_mono (same_wos (sT.trans s3)) _ _ da) (d := .list ((pickP (turnP s.cards z.cps.toList) z.cps.toList).map pD)) ?_
              have ne : lv ≠ p1 := fun e => by rw [e, sT _ _ ea] at nlv; cases nlv
              exact .lst (SqL.of (by rw [wo_ne ne]; exact elv)) (dpA_ts (ts_wo ea3 nt_lst) (flat_p _) dlv)
            · rw [bnext, List.length_append]
              show _ + 1 ≤ _
              omega
    · rintro σ H1 ⟨⟨o2, o3, rfl⟩, s1, f1, bl⟩
      have e1 : bandM (m.done.take m.done.length) (m.sts.take m.done.length) = bandM m.done m.sts := by
        rw [List.take_length]
        have : ∀ (a : List Deed) (b : List Sg), bandM a (b.take a.length) = bandM a b := by
          intro a
          induction a with
          | nil => intro b; rfl
          | cons a0 a ih => intro b; cases b with
            | nil => rfl
            | cons b0 b =>
              show _ ++ bandM a (b.take a.length) = _ ++ bandM a b
              rw [ih b]
        exact this _ _
      rw [e1] at f1
      exact ⟨_, rfl, q _ _ s1 f1.dp⟩

theorem hasM_band {P : Program} {w : World} {K : PySem.W.Frag} {mg : Str → Option Value} {base : Heap} (T : Tx K mg) : HasM P w K mg base CX0 5 "Loom" "band" ["self"] (sp_Loom_band K) := ok_Loom_band T
theorem ok_l_loom_parts {P : Program} {w : World} {K : PySem.W.Frag} {mg : Str → Option Value} {base : Heap} (T : Tx K mg) : Has P w K mg base CX0 5 "_law_loom_parts" ["_law_script"] (sp_l_loom_parts K) := by
  refine T.d_l_loom_parts.has sc_l_loom_parts (fun vs H Q E h => ?_) (fun f cdv A outer s H vs Q E hr h => ?_)
  · obtain ⟨_, _, rfl, _⟩ := h
    rfl
  · obtain ⟨v, ns, rfl, hs, q⟩ := h
    refine ⟨_, PSs.nox ((pss_cons (ps_set (i := 1) sc_l_loom_parts.nd rfl (Or.inl rfl) (pe_op op_add pe_int (pe_op op_mod (pe_has (has__law_at T) (hr.mono (by decide)) (by rfl) pass0 (pa_cons (pv 0) (pa_cons pe_int pa_nil))) pe_int))) (pss_cons (ps_set (i := 2) sc_l_loom_parts.nd rfl (Or.inl rfl) (pe_op op_cat (pe_has (has__law_draft T) (hr.mono (by decide)) (by rfl) pass0 (pa_cons (pv 0) (pa_cons pe_int (pa_cons (pe_callB (call_min2 rfl) (by rfl) T.m_min (by decide +kernel) (pa_cons (pv 1) (pa_cons pe_int pa_nil))) pa_nil)))) (pe_has (has__law_draft T) (hr.mono (by decide)) (by rfl) pass0 (pa_cons (pv 0) (pa_cons pe_int (pa_cons (pe_callB (call_max2 rfl) (by rfl) T.m_max (by decide +kernel) (pa_cons pe_int (pa_cons (pe_op op_sub (pv 1) pe_int) pa_nil))) pa_nil)))))) (pss_one (ps_ret (pe_tup (pa_cons (pv 2) (pa_cons (pe_has (has__law_most T) (hr.mono (by decide)) (by rfl) pass0 (pa_cons (pe_has (has__law_at T) (hr.mono (by decide)) (by rfl) pass0 (pa_cons (pv 0) (pa_cons pe_int pa_nil))) pa_nil)) (pa_cons (pe_has (has__law_spools T) (hr.mono (by decide)) (by rfl) pass0 (pa_cons (pv 2) (pa_cons (pe_has (has__law_at T) (hr.mono (by decide)) (by rfl) pass0 (pa_cons (pv 0) (pa_cons pe_int pa_nil))) pa_nil))) pa_nil))))))))), ?_⟩
    have hs0 := hs
    obtain ⟨hv, hl⟩ := hs
    obtain ⟨b, rfl, sq⟩ := dp_ints hv
    refine ⟨_, rfl, .ref b, ns, 0, rfl, hs0, by decide, fun i0 => ⟨_, _, rfl, rfl, (by show (0 : Int) < 8; decide), _, _, rfl, rfl, ?_⟩⟩
    have w0 : 0 ≤ i0 % 8 ∧ i0 % 8 < 8 := by omega
    obtain ⟨wd, hwd⟩ := Int.eq_ofNat_of_zero_le (show 0 ≤ 1 + i0 % 8 by omega)
    have w8 : 1 ≤ wd ∧ wd ≤ 8 := by omega
    have m1 : (if (6 : Int) < 1 + i0 % 8 then (6 : Int) else 1 + i0 % 8) = ((min wd 6 : Nat) : Int) := by split <;> omega
    have m2 : (if (1 + i0 % 8) - 6 > 0 then (1 + i0 % 8) - 6 else (0 : Int)) = ((wd - 6 : Nat) : Int) := by split <;> omega
    refine ⟨_, rfl, _, rfl, _, _, rfl, .ref b, ns, 1, min wd 6, ?_, hs0, by decide, by omega, fun H1 p1 xs1 cs1 s1 np1 e1 d1 l1 k1 => ?_⟩
    · exact congrArg (fun t : Int => [V.ref b, V.int 1, V.int t]) m1
    refine ⟨_, rfl, _, rfl, _, _, rfl, rfl, _, _, rfl, .ref b, ns, 60, wd - 6, ?_, ⟨dp_mono s1 _ _ hv, hl⟩, by decide, by omega, fun H2 p2 xs2 cs2 s2 np2 e2 d2 l2 k2 => ?_⟩
    · exact congrArg (fun t : Int => [V.ref b, V.int 60, V.int t]) m2
    have x1 : xs1.length = cs1.length := by rw [dpA_len d1, List.length_map]
    have x2 : xs2.length = cs2.length := by rw [dpA_len d2, List.length_map]
    refine ⟨p1, p2, xs1, xs2, rfl, rfl, s2 _ _ e1, e2, (by rw [sizeLine_eq]; omega), fun p3 np3 => ?_⟩
    have s3 := same_new (o := .lst (xs1 ++ xs2)) np3
    have hc : DpAll K (upd H2 p3 (.lst (xs1 ++ xs2))) (xs1 ++ xs2) ((cs1 ++ cs2).map cD) := by
      rw [List.map_append]
      exact dpA_app (dpA_mono (s2.trans s3) _ _ d1) (dpA_mono s3 _ _ d2)
    have s13 := (s1.trans s2).trans s3
    have kk : ∀ t ∈ cs1 ++ cs2, CardOk t := fun t m => (List.mem_append.mp m).elim (k1 t) (k2 t)
    refine ⟨_, rfl, _, rfl, .ref b, ns, 7, rfl, ⟨dp_mono s13 _ _ hv, hl⟩, by decide, fun i7 => ⟨i7, rfl, fun mo hm0 hm1 => ?_⟩⟩
    refine ⟨_, rfl, _, rfl, .ref b, ns, 8, rfl, ⟨dp_mono s13 _ _ hv, hl⟩, by decide, fun i8 => ⟨.ref p3, i8, cs1 ++ cs2, rfl, .lst (SqL.of upd_same) hc, kk, by rw [List.length_append]; omega, fun H4 d4 l4 s4 nd4 ed4 ok4 => ⟨(by show 3 ≤ sizeLine; decide), fun p5 np5 => ?_⟩⟩⟩
    have s5 := same_new (o := .tup [V.ref p3, V.int mo, V.ref d4]) np5
    exact q _ p5 (.ref p3) (cs1 ++ cs2) mo d4 l4 ((s13.trans s4).trans s5) (SqT.of upd_same) (.lst (SqL.of (s5 _ _ (s4 _ _ upd_same))) (dpA_mono (s4.trans s5) _ _ hc)) kk (by rw [List.length_append]; omega) (by rw [List.length_append]; omega) hm0 hm1 (s5 _ _ ed4) ok4

theorem has__law_loom_parts {P : Program} {w : World} {K : PySem.W.Frag} {mg : Str → Option Value} {base : Heap} (T : Tx K mg) : Has P w K mg base CX0 5 "_law_loom_parts" ["_law_script"] (sp_l_loom_parts K) := ok_l_loom_parts T
theorem ok_l_read {P : Program} {w : World} {K : PySem.W.Frag} {mg : Str → Option Value} {base : Heap} (T : Tx K mg) : Has P w K mg base CX0 5 "_law_read" ["_law_text"] (sp_l_read K) := by
  refine T.d_l_read.has sc_l_read (fun vs H Q E h => ?_) (fun f cdv A outer s H vs Q E hr h => ?_)
  · obtain ⟨_, rfl, _⟩ := h
    rfl
  · obtain ⟨z, rfl, hz, q0, q1⟩ := h
    refine ⟨_, PSs.nox ((pss_cons (ps_setLc (i := 1) (own := [("_law_line_here", 7)]) (g := (gName 7)) (tt := tYes) rfl sc_l_read.nd rfl rfl (sw_true rfl rfl rfl (by decide +kernel)) (pi_list (pe_split (pv 0) pe_str)) (blkOk_by (own := [("_law_line_here", 7)]) (N := N_l_read) (sc := defScope s_l_read) (by decide +kernel)) (fun _ _ _ _ _ => (pg_name (i := 7) sc_l_read.nd rfl (Or.inl rfl))) (fun _ _ _ _ _ => pts_nil) (fun _ _ _ _ _ => (pe_split (pv 7) pe_str))) (pss_cons (ps_set (i := 2) sc_l_read.nd rfl (Or.inl rfl) (pe_has (has__law_head T) (hr.mono (by decide)) (by rfl) pass0 (pa_cons (pv 1) pa_nil))) (pss_cons (ps_if (PW.pt (pw_or (pt_cmpR op_isN (pv 2) pe_non (nomark _)) (pw_or (pt_cmpR op_ne (pe_callB call_len_seq (by rfl) T.m_len PySem.boot_len (pa_cons (pe_ix ix_list (pv 1) pe_int (fun _ _ => rfl)) pa_nil)) pe_int (nomark _)) (pw_or (pt_cmpR op_ne (pe_ix ix_list (pe_ix ix_list (pv 1) pe_int (fun _ _ => rfl)) pe_int (fun _ _ => rfl)) pe_str (nomark _)) (pw_or1 (pt_cmpR op_isN (pe_has (has__law_number T) (hr.mono (by decide)) (by rfl) pass0 (pa_cons (pe_ix ix_list (pe_ix ix_list (pv 1) pe_int (fun _ _ => rfl)) pe_int (fun _ _ => rfl)) pa_nil)) pe_non (nomark _))))))) (pss_one (ps_ret pe_non)) pss_nil) (pss_cons (ps_if (PW.pt (pw_or (pt_cmpR (op_eqD hr.units) (pe_ix ix_tup (pv 2) pe_int (fun _ _ => rfl)) (pe_lst pa_nil) (nomark _)) (pw_or1 (pt_cmpR op_gt (pe_callB call_len_seq (by rfl) T.m_len PySem.boot_len (pa_cons (pe_ix ix_tup (pv 2) pe_int (fun _ _ => rfl)) pa_nil)) pe_int (nomark _))))) (pss_one (ps_ret pe_non)) pss_nil) (pss_cons (ps_set (i := 3) sc_l_read.nd rfl (Or.inl rfl) (pe_has (has__law_begin T) (hr.mono (by decide)) (by rfl) pass0 (pa_cons (pe_ix ix_tup (pv 2) pe_int (fun _ _ => rfl)) (pa_cons (pe_ix ix_tup (pv 2) pe_int (fun _ _ => rfl)) pa_nil)))) (pss_cons (ps_set (i := 4) sc_l_read.nd rfl (Or.inl rfl) (pe_lst pa_nil)) (pss_cons (ps_set (i := 5) sc_l_read.nd rfl (Or.inl rfl) (pe_lst pa_nil)) (pss_cons (ps_for PassesOwn.never rfl (pi_list (pe_slice sl_list (pv 1) (po_some (pe_op op_add (pe_op op_add pe_int (pe_callB call_len_seq (by rfl) T.m_len PySem.boot_len (pa_cons (pe_ix ix_tup (pv 2) pe_int (fun _ _ => rfl)) pa_nil))) (pe_callB call_lenD (by rfl) T.m_len PySem.boot_len (pa_cons (pe_ix ix_tup (pv 2) pe_int (fun _ _ => rfl)) pa_nil)))) po_none)) (pg_name (i := 6) sc_l_read.nd rfl (Or.inl rfl)) (pss_cons (ps_set (i := 3) sc_l_read.nd rfl (Or.inl rfl) (pe_has (has__law_line T) (hr.mono (by decide)) (by rfl) pass0 (pa_cons (pv 3) (pa_cons (pv 6) (pa_cons (pe_has (has__law_number T) (hr.mono (by decide)) (by rfl) pass0 (pa_cons (pe_ix ix_list (pe_ix ix_list (pv 1) pe_int (fun _ _ => rfl)) pe_int (fun _ _ => rfl)) pa_nil)) pa_nil))))) (pss_cons (ps_if (PW.pt (pw_or (pt_cmpR op_isN (pv 3) pe_non (nomark _)) (pw_or1 (pt_val (pe_callB call_isi (by rfl) T.m_isinstance (by decide +kernel) (pa_cons (pv 3) (pa_cons (pe_bltn (v := .ty "str") (by rfl) T.m_str (by decide +kernel) rfl) pa_nil))))))) (pss_one (ps_ret pe_non)) pss_nil) (pss_one (ps_if (pt_cmpR op_eq (pe_ix ix_list (pv 6) pe_int (fun _ _ => rfl)) pe_str (nomark _)) (pss_cons (ps_expr (pe_bm PySem.F.plainAttrs_list PySem.F.slot_list_append PySem.F.type_list_append mt_append (pv 4) (pa_cons (pe_has (has__law_pick T) (hr.mono (by decide)) (by rfl) pass0 (pa_cons (pe_ix ix_tup (pv 3) pe_int (fun _ _ => rfl)) (pa_cons (pe_ix ix_list (pv 6) pe_int (fun _ _ => rfl)) pa_nil))) pa_nil))) (pss_one (ps_expr (pe_bm PySem.F.plainAttrs_list PySem.F.slot_list_append PySem.F.type_list_append mt_append (pv 5) (pa_cons (pe_tup (pa_cons pe_str (pa_cons (pe_ix ix_list (pv 6) pe_int (fun _ _ => rfl)) pa_nil))) pa_nil))))) (pss_one (ps_expr (pe_bm PySem.F.plainAttrs_list PySem.F.slot_list_append PySem.F.type_list_append mt_append (pv 5) (pa_cons (pe_tup (pa_cons pe_str (pa_cons (pe_callTy call_int_str (by rfl) T.m_int (by decide +kernel) (pa_cons (pe_ix ix_list (pv 6) pe_int (fun _ _ => rfl)) pa_nil)) pa_nil))) pa_nil))))))))) (pss_one (ps_ret (pe_tup (pa_cons (pv 3) (pa_cons (pv 4) (pa_cons (pv 5) pa_nil))))))))))))))), ?_⟩
    have hz2 : z.length ≤ sizeLine := by rw [sizeLine_eq]; omega
    obtain ⟨f1, f2, f3, f4⟩ := split_nl z
    refine ⟨_, rfl, ⟨_, rfl⟩, z, "\n", rfl, rfl, rfl, (by rw [sizeLine_eq]; omega), fun p1 n1 => ⟨p1, rfl, ⟨_, SqL.of upd_same⟩, fun D nD => ?_⟩⟩
    have s1 := same_new (o := .lst ((Txt.split z "\n").map V.str)) n1
    refine lc_list (K := K) (a := p1) (xs := (Txt.split z "\n").map V.str) (PvW K _ D (Txt.split z "\n")) ⟨same_new nD, .nil upd_same⟩ (fun i H' _ h => SqL.of (h.1 _ _ upd_same)) (fun i x H' hx h => ?_) fun H2 h2 => ?_
    · rw [List.getElem?_map] at hx
      obtain ⟨y, hy, rfl⟩ := Option.map_eq_some_iff.mp hx
      have yl := f4 y (List.mem_of_getElem? hy)
      refine ⟨rfl, ?_⟩
      refine ⟨_, rfl, ⟨_, rfl⟩, y, " ", rfl, rfl, rfl, (by rw [sizeLine_eq]; omega), fun p np => ?_⟩
      exact h.step nD hy (by omega) np
    obtain ⟨s2, lf⟩ := h2
    rw [List.length_map, List.take_length] at lf
    have s12 := s1.trans s2
    obtain ⟨g1, g2, g3, g4⟩ := lines_facts hz
    have hL : LinesAt K H2 (.ref D) (linesOf z) := ⟨lf.dp, g2, g3, g4⟩
    obtain ⟨acc, ea, la, da⟩ := lf.len
    rw [List.length_map, List.length_map] at la
    have dL := dpA_mono same_wo _ _ da
    cases hl0 : linesOf z with
    | nil => exact absurd hl0 g1
    | cons l0 rest =>
    have h0 : (linesOf z)[0]? = some l0 := by rw [hl0]; rfl
    obtain ⟨b0, hb0, sb0⟩ := line_at (L := linesOf z) dL h0
    have bad : readM z = none → ∀ {H3 : Hp}, Same H H3 → Q .non H3 := fun e _ s => q0 e _ s
    have rm : readM z = (spoolsM rest "" []).bind fun q => (draftM q.2 []).bind fun e => if e.1 = [] ∨ 8 < e.1.length then none else (loomM l0).bind fun mo => (deedsM mo (st0 e.1 q.1) e.2).map fun ds => ⟨e.1, mo, q.1, ds.map (·.1), st0 e.1 q.1 :: ds.map (·.2)⟩ := by
      unfold readM
      rw [hl0]
      rfl
    have badL : loomM l0 = none → readM z = none := fun e => by
      rw [rm, e]
      cases spoolsM rest "" [] with
      | none => rfl
      | some q =>
        show (draftM q.2 []).bind _ = none
        cases draftM q.2 [] with
        | none => rfl
        | some e => exact ite_self none
    have lm2 : ¬ l0.length = 2 → loomM l0 = none := fun h => by
      match l0, h with
      | [], _ => rfl
      | [_], _ => rfl
      | [_, _], h => exact absurd rfl h
      | _ :: _ :: _ :: _, _ => rfl
    have hd1 : (linesOf z).drop 1 = rest := by rw [hl0]; rfl
    have hdM : headM (linesOf z) = (spoolsM rest "" []).bind fun q => (draftM q.2 []).map fun e => (e.1, q.1) := by
      unfold headM
      rw [hd1]
    refine ⟨_, rfl, .ref D, linesOf z, rfl, hL, fun hn H3 s3 => ?_, fun dr' sp' hh H3 p3 x3 d3 s3 sq3 hx3 hd3 => ?_⟩
    · refine ⟨_, rfl, rfl, _, rfl, iteT (iteT (bad ?_ (s12.trans s3)))⟩
      rw [hdM] at hn
      rw [rm]
      cases hs : spoolsM rest "" [] with
      | none => rfl
      | some q =>
        rw [hs] at hn
        have hn2 : (draftM q.2 []).map _ = none := hn
        show (draftM q.2 []).bind _ = none
        rw [Option.map_eq_none_iff.mp hn2]
        rfl
    have s13 := s12.trans s3
    have ea3 := s3 _ _ ea
    have sb3 := s3.seq sb0
    refine ⟨_, rfl, rfl, _, rfl, iteF ⟨_, rfl, D, _, _, _, rfl, rfl, SqL.of ea3, atI_nat (j := 0) hb0, b0, _, rfl, .inl sb3, rfl, _, rfl, bb (fun k => ?_) fun k => ?_⟩⟩
    · rw [dec_i, Bool.not_eq_true', decide_eq_false_iff_not, List.length_map] at k
      exact iteT (bad (badL (lm2 (fun z => k (by rw [z]; rfl)))) s13)
    rw [dec_i, Bool.not_eq_false', decide_eq_true_eq, List.length_map] at k
    obtain ⟨w0, w1, el0⟩ := two_ (show l0.length = 2 by omega)
    subst el0
    have at0 : atI (([w0, w1] : List Str).map V.str) 0 = some (V.str w0) := atI_nat (j := 0) rfl
    have at1 : atI (([w0, w1] : List Str).map V.str) 1 = some (V.str w1) := atI_nat (j := 1) rfl
    refine ⟨_, rfl, D, _, _, _, rfl, rfl, SqL.of ea3, atI_nat (j := 0) hb0, b0, _, _, _, rfl, rfl, sb3, at0, rfl, _, rfl, bb (fun k2 => ?_) fun k2 => ?_⟩
    · rw [dec_str, Bool.not_eq_true', decide_eq_false_iff_not] at k2
      exact iteT (bad (badL (if_neg k2)) s13)
    rw [dec_str, Bool.not_eq_false', decide_eq_true_eq] at k2
    have lmo : loomM [w0, w1] = num w1 := if_pos k2
    have h16 : w1.length ≤ sizeLine := by
      have := g4 [w0, w1] (by rw [hl0]; exact List.mem_cons_self) w1 (by simp)
      rw [sizeLine_eq]
      omega
    refine ⟨_, rfl, D, _, _, _, rfl, rfl, SqL.of ea3, atI_nat (j := 0) hb0, b0, _, _, _, rfl, rfl, sb3, at1, w1, rfl, h16, fun mo hmo => ?_, fun hn => ⟨rfl, _, rfl, iteT (bad (badL (by rw [lmo, hn])) s13)⟩⟩
    refine ⟨rfl, _, rfl, iteF ?_⟩
    -- the head's parts
    rw [hdM] at hh
    obtain ⟨qq, hsp, hh⟩ := Option.bind_eq_some_iff.mp hh
    obtain ⟨sp, r1⟩ := qq
    obtain ⟨ee, hdr, hh⟩ := Option.map_eq_some_iff.mp hh
    obtain ⟨dr, r2⟩ := ee
    cases hh
    obtain ⟨k1, a, b, a1, a2, a3, a4, _⟩ := spoolsM_ok rest "" [] sp r1 hsp sp_nil (fun k m => absurd m (by simp))
    obtain ⟨c1, c, d, c2, c3, c4, c5, _⟩ := draftM_ok r1 [] dr r2 hdr (fun t m => absurd m (by simp))
    have a2 : sp = b := by simpa using a2
    have c3 : dr = d := by simpa using c3
    subst a2 c3
    have rm2 : ¬ (dr = [] ∨ 8 < dr.length) → readM z = (deedsM mo (st0 dr sp) r2).map fun ds => lmOf dr mo sp ds := fun hn => by
      rw [rm, hsp]
      show (draftM r1 []).bind _ = _
      rw [hdr]
      show (if dr = [] ∨ 8 < dr.length then none else _) = _
      rw [if_neg hn, lmo, hmo]
      rfl
    have rmb : (dr = [] ∨ 8 < dr.length) → readM z = none := fun hn => by
      rw [rm, hsp]
      show (draftM r1 []).bind _ = _
      rw [hdr]
      exact if_pos hn
    have hx30 := hx3
    obtain ⟨x4, xs4, rfl, sq4, dx4⟩ := dp_lst hx3
    refine ⟨_, rfl, p3, _, _, _, rfl, rfl, sq3, atI_nat (j := 0) (v := V.ref x4) rfl, Nat.zero_le _, fun p5 n5 => ⟨_, _, dp_mono (same_new n5) _ _ hx30, .lst (SqL.of upd_same) .nil, cD_shaped _ c1, nil_shaped, _, rfl, ?_⟩⟩
    rw [cD_nil]
    have s5 := same_new (o := .lst []) n5
    have s15 := s13.trans s5
    refine bb (fun k3 => iteT (bad (rmb (.inl (of_decide_eq_true k3))) s15)) fun k3 => ?_
    have k4 := of_decide_eq_false k3
    have xl4 : xs4.length = dr.length := by rw [dpA_len dx4, List.length_map]
    refine ⟨_, rfl, p3, _, _, _, rfl, rfl, same_seqT s5 sq3, atI_nat (j := 0) (v := V.ref x4) rfl, x4, _, rfl, .inl (s5.seq sq4), _, _, rfl, rfl, _, rfl, bb (fun k5 => ?_) fun k5 => ?_⟩
    · have k6 := of_decide_eq_true k5
      exact bad (rmb (.inr (by omega))) s15
    have k6 := of_decide_eq_false k5
    have hn : ¬ (dr = [] ∨ 8 < dr.length) := fun h => h.elim k4 fun h => by omega
    have rm3 := rm2 hn
    have ok0 : LmOk (lmOf dr mo sp []) := lm0_ok c1 hn k1 hmo
    refine ⟨_, rfl, p3, _, _, _, rfl, rfl, same_seqT s5 sq3, atI_nat (j := 0) (v := V.ref x4) rfl, _, rfl, p3, _, _, _, rfl, rfl, same_seqT s5 sq3, atI_nat (j := 1) (v := V.ref d3) rfl, ?_⟩
    refine ⟨.ref x4, d3, sp, dr, rfl, dp_mono s5 _ _ hx30, by omega, s5 _ _ hd3, fun H6 u6 s6 st6 => ?_⟩
    refine ⟨Nat.zero_le _, fun pb nb => ⟨Nat.zero_le _, fun pd nd => ?_⟩⟩
    have sB := same_new (o := .lst []) nb
    have sD := same_new (o := .lst []) nd
    have s16 := s15.trans s6
    have s18 := (s16.trans sB).trans sD
    have s38 : Same H2 _ := ((s3.trans s5).trans s6).trans (sB.trans sD)
    have bd : pb ≠ pd := ne_of_none upd_same nd
    have nd6 : H6 pd = none := (upd_ne (H := H6) (o := .lst []) (Ne.symm bd)).symm.trans nd
    have nbH : H pb = none := s16.free nb
    have ndH : H pd = none := s16.free nd6
    have st7 := st6 (fun a => a ≠ pb ∧ a ≠ pd) fun a _ ha => ⟨fun e => ha (e ▸ nb), fun e => ha (e ▸ nd6)⟩
    have hd2 : (linesOf z).drop (1 + dr.length + sp.length) = r2 := by
      rw [hl0, a1, c2, ← a4, ← c5]
      have e : 1 + c.length + a.length = ([w0, w1] :: (a ++ c)).length := by simp; omega
      rw [e, show [w0, w1] :: (a ++ (c ++ r2)) = ([w0, w1] :: (a ++ c)) ++ r2 by simp, List.drop_left]
    have hle : 1 + dr.length + sp.length ≤ acc.length := by
      rw [la]
      have : (linesOf z).length = (Txt.split z "\n").length := by unfold linesOf; rw [List.length_map]
      rw [← this, hl0, a1, c2, ← a4, ← c5]
      simp
      omega
    have hcut : cutV acc (some ((1 + dr.length + sp.length : Nat) : Int)) none = acc.drop (1 + dr.length + sp.length) := cutV_from hle
    have ea8 := s38 _ _ ea
    refine ⟨_, rfl, _, rfl, p3, _, _, _, rfl, rfl, same_seqT (((s5.trans s6).trans sB).trans sD) sq3, atI_nat (j := 0) (v := V.ref x4) rfl, x4, _, rfl, .inl ((((s5.trans s6).trans sB).trans sD).seq sq4), _, _, rfl, rfl, _, rfl, p3, _, _, _, rfl, rfl, same_seqT (((s5.trans s6).trans sB).trans sD) sq3, atI_nat (j := 1) (v := V.ref d3) rfl, d3, _, rfl, (((s5.trans s6).trans sB).trans sD) _ _ hd3, _, _, rfl, rfl, _, rfl, D, _, rfl, SqL.of ea8, fun p7 n7 => ⟨p7, rfl, ⟨_, SqL.of upd_same⟩, ?_⟩⟩
    have hcut2 : cutV acc (some ((1 : Int) + (xs4.length : Int) + ((eL sp).length : Int))) none = acc.drop (1 + dr.length + sp.length) := by
      have e : ((1 : Int) + (xs4.length : Int) + ((eL sp).length : Int)) = ((1 + dr.length + sp.length : Nat) : Int) := by rw [eL_len]; omega
      rw [e]
      exact hcut
    rw [hcut2]
    have dA : DpAll K H2 (acc.drop (1 + dr.length + sp.length)) (r2.map wD) := by
      have := dpA_drop (n := 1 + dr.length + sp.length) dL
      rw [← List.map_drop] at this
      have this2 : DpAll K H2 (acc.drop (1 + dr.length + sp.length)) (((linesOf z).drop (1 + dr.length + sp.length)).map wD) := this
      rw [hd2] at this2
      exact this2
    generalize hcv : acc.drop (1 + dr.length + sp.length) = cv at dA
    have lcv : cv.length = r2.length := by rw [dpA_len dA, List.length_map]
    have mem2 : ∀ w ∈ r2, w ∈ linesOf z := fun w m => by
      rw [← hd2] at m
      exact List.mem_of_mem_drop m
    have len2 : r2.length ≤ 1000001 := by
      have h := congrArg List.length hd2
      rw [List.length_drop] at h
      omega
    have sS := same_new (o := .lst cv) n7
    have n2b : H2 pb = none := ((s3.trans s5).trans s6).free nb
    have n2d : H2 pd = none := ((s3.trans s5).trans s6).free nd6
    have b7 : pb ≠ p7 := ne_of_none (sD _ _ upd_same) n7
    have d7 : pd ≠ p7 := ne_of_none upd_same n7
    have st8 : StateN K (fun a => a ≠ pb ∧ a ≠ pd) (upd (upd (upd H6 pb (.lst [])) pd (.lst [])) p7 (.lst cv)) u6 (st0 dr sp) := stateN_mono st7 ((sB.trans sD).trans sS)
    refine for_list (xs := cv) (fun i σ H' => (∃ u o6 o7, σ = [some (V.str z), some (V.ref D), some (V.ref p3), some u, some (V.ref pb), some (V.ref pd), o6, o7] ∧ Same H H' ∧ Same H2 H' ∧ H' p7 = some (.lst cv) ∧ ∃ ds, deedsM mo (st0 dr sp) (r2.take i) = some ds ∧ LmOk (lmOf dr mo sp ds) ∧ StateN K (fun a => a ≠ pb ∧ a ≠ pd) H' u ((ds.map (·.2)).getLastD (st0 dr sp)) ∧ B2 K H' pb pd ((bandM (ds.map (·.1)) (st0 dr sp :: ds.map (·.2))).map fun l => .list (l.map pD)) ∧ FL K H' pd ((ds.map (·.1)).map dD) ∧ (bandM (ds.map (·.1)) (st0 dr sp :: ds.map (·.2))).length ≤ i))
      ⟨u6, _, _, rfl, s18.trans sS, s38.trans sS, upd_same, [], rfl, ok0, st8, ⟨[], sS _ _ (sD _ _ upd_same), .nil⟩, .nil (sS _ _ upd_same), Nat.le_refl _⟩ (fun i σ H' _ ⟨_, _, _, _, _, _, h, _⟩ => SqL.of h) ?_ ?_
    · rintro i w σ H7 hu ⟨u, o6, o7, rfl, t1, t2, e7, ds, hds, hok, hst, hbd, hdn, hbl⟩
      obtain ⟨dw, hdw, du⟩ := dpA_get dA hu
      rw [List.getElem?_map] at hdw
      obtain ⟨x, hw, rfl⟩ := Option.map_eq_some_iff.mp hdw
      have hi : i < r2.length := (List.getElem?_eq_some_iff.mp hw).1
      have wz := g4 x (mem2 x (List.mem_of_getElem? hw))
      have wn := g2 x (mem2 x (List.mem_of_getElem? hw))
      have snoc := deedsM_snoc mo _ _ x ds hds
      have tk : r2.take (i + 1) = r2.take i ++ [x] := by rw [List.take_succ, hw]; rfl
      have lds := deedsM_len mo _ _ ds hds
      rw [List.length_take] at lds
      have okl := lm_last hok
      rw [lmOf_last] at okl
      obtain ⟨bb0, rfl, sbb0⟩ := dp_strs du
      have hbd0 := hbd
      obtain ⟨bacc, ebd, dbd⟩ := hbd
      have lbd := dpA_len dbd
      rw [List.length_map] at lbd
      obtain ⟨nacc, edn, ddn⟩ := hdn
      have ldn := dpA_len ddn
      rw [List.length_map, List.length_map] at ldn
      have hNn : ∀ {Hk : Hp}, Same H7 Hk → ∀ a, Hk a = none → a ≠ pb ∧ a ≠ pd := fun {Hk} s a ha => ⟨fun e => (by rw [e, s _ _ ebd] at ha; cases ha), fun e => (by rw [e, s _ _ edn] at ha; cases ha)⟩
      have fail : lineM mo ((ds.map (·.2)).getLastD (st0 dr sp)) x = none → readM z = none := fun hs => by
        rw [rm3]
        have f := deedsM_fail mo (r2.take (i + 1)) (r2.drop (i + 1)) (st0 dr sp) (by rw [tk, snoc, hs]; rfl)
        rw [List.take_append_drop] at f
        rw [f]
        rfl
      refine ⟨_, rfl, _, rfl, _, rfl, D, _, _, _, rfl, rfl, SqL.of (t2 _ _ ea), atI_nat (j := 0) hb0, b0, _, _, _, rfl, rfl, t2.seq sb0, at1, w1, rfl, h16, fun n hn => ?_, fun hn => by rw [hn] at hmo; cases hmo⟩
      rw [hmo] at hn
      cases Option.some.inj hn
      refine ⟨u, _, x, .ref bb0, mo, _, rfl, hst, hNn (Same.refl _), okl, dp_mono t2 _ _ du, wn, wz, fun d s' hs H8 r s8 st' => ?_, fun hs H8 s8 => ⟨?_, fun k => ?_⟩⟩
      · obtain ⟨a', m1, m2, m3, md, nn, rfl, sq', c1', c2', c3', c4'⟩ := id st'
        have u2 := t2.trans s8
        have sbb := u2.seq sbb0
        refine ⟨_, rfl, rfl, _, rfl, iteF ⟨_, rfl, _, _, _, _, _, rfl, .ty "str", tyx_tup sq', kit_ty (by decide +kernel), _, rfl, iteF ?_⟩⟩
        have ebd8 := s8 _ _ ebd
        have edn8 := s8 _ _ edn
        have hLen : (lmOf dr mo sp ds).done.length < 2000000 := by
          show (ds.map (·.1)).length < _
          rw [List.length_map]
          omega
        have hs2 : lineM (lmOf dr mo sp ds).most (lmOf dr mo sp ds).last x = some (d, s') := by
          rw [lmOf_last]
          exact hs
        have ok2 := (lm_add hok hs2 wz hLen).1
        rw [lmOf_add] at ok2
        have hds2 : deedsM mo (st0 dr sp) (r2.take (i + 1)) = some (ds ++ [(d, s')]) := by rw [tk, snoc, hs]; rfl
        have lastE : ((ds ++ [(d, s')]).map (·.2)).getLastD (st0 dr sp) = s' := by rw [List.map_append]; exact getLastD_app
        have bnd : bandM ((ds ++ [(d, s')]).map (·.1)) (st0 dr sp :: (ds ++ [(d, s')]).map (·.2)) = bandM (ds.map (·.1)) (st0 dr sp :: ds.map (·.2)) ++ bandM [d] [(ds.map (·.2)).getLastD (st0 dr sp)] := by
          rw [List.map_append, List.map_append]
          have h := bandM_snoc (ds.map (·.1)) (st0 dr sp :: ds.map (·.2)) d s' (st0 dr sp) (by simp)
          have e : (st0 dr sp :: ds.map (·.2)).getLastD (st0 dr sp) = (ds.map (·.2)).getLastD (st0 dr sp) := by
            cases ds with
            | nil => rfl
            | cons _ _ => simp [List.getLastD]
          rw [e] at h
          exact h
        rcases lineM_ok okl hs with ⟨ks, kl, y, rfl, rfl, hrow, hfit⟩ | ⟨ks, kl, y, kk, rfl, hnum, rfl, rfl, hk⟩
        · obtain ⟨_, _, kc, _⟩ := rowP_ok okl hrow
          refine ⟨_, rfl, bb0, _, _, _, rfl, rfl, sbb, atI_nat (j := 0) (v := V.str "row") rfl, rfl, _, rfl, iteT ?_⟩
          refine ⟨_, rfl, .inl ⟨rfl, _, SqL.of ebd8⟩, _, rfl, a', _, _, _, rfl, rfl, sq', atI_nat (j := 0) (v := V.ref m1) rfl, _, rfl, bb0, _, _, _, rfl, rfl, sbb, atI_nat (j := 1) (v := V.str y) rfl, _, s'.cards, y, rfl, ⟨c1', ks.cards, ks.n8, by rw [kl]; exact hfit⟩, fun H9 yv s9 ny => ?_⟩
          obtain ⟨lv, xv, rfl, nlv, elv, dlv⟩ := ny
          have ebd9 := s9 _ _ ebd8
          have edn9 := s9 _ _ edn8
          have nlb : lv ≠ pb := fun e => by rw [e, ebd8] at nlv; cases nlv
          refine ⟨pb, _, _, rfl, rfl, ebd9, (by rw [sizeLine_eq]; omega), ?_⟩
          have edn10 : (upd H9 pb (.lst (bacc ++ [V.ref lv]))) pd = some (.lst nacc) := (upd_ne (Ne.symm bd)).trans edn9
          have tsb := ts_upd (o := .lst (bacc ++ [V.ref lv])) ebd9 nt_lst
          have u3 := same_put (o := .lst (bacc ++ [V.ref lv])) (u2.trans s9) n2b
          refine ⟨_, rfl, .inl ⟨rfl, _, SqL.of edn10⟩, _, rfl, bb0, _, _, _, rfl, rfl, u3.seq sbb0, atI_nat (j := 1) (v := V.str y) rfl, (by show 2 ≤ sizeLine; decide), fun p9 n9 => ?_⟩
          have sT := same_new (o := .tup [V.str "row", V.str y]) n9
          refine ⟨pd, _, _, rfl, rfl, sT _ _ edn10, (by rw [sizeLine_eq]; omega), ?_⟩
          have b9 : pb ≠ p9 := ne_of_none upd_same n9
          have ebdF : (upd (upd (upd H9 pb (.lst (bacc ++ [V.ref lv]))) p9 (.tup [V.str "row", V.str y])) pd (.lst (nacc ++ [V.ref p9]))) pb = some (.lst (bacc ++ [V.ref lv])) := by
            rw [upd_ne bd, upd_ne b9]
            exact upd_same
          refine ⟨_, _, _, rfl, same_put ((same_put ((t1.trans s8).trans s9) nbH).trans sT) ndH, same_put (u3.trans sT) n2d, ?_, ds ++ [(.row y, s')], hds2, ok2, ?_, ?_, ?_, ?_⟩
          · rw [upd_ne (Ne.symm d7)]
            refine sT _ _ ?_
            rw [upd_ne (Ne.symm b7)]
            exact s9 _ _ (s8 _ _ e7)
          · rw [lastE]
            exact stateN_upd (stateN_mono (stateN_upd (stateN_mono st' s9) (fun a h => h.1) ebd9) sT) (fun a h => h.2) (sT _ _ edn10)
          · rw [bnd, List.map_append]
            have nld : lv ≠ pd := fun e => by rw [e, edn8] at nlv; cases nlv
            have A1 := B2.app (K := K) ebd9 edn9 bd (dpA_mono (same_wos (same_wos (s8.trans s9))) _ _ dbd) nlb nld elv (flat_p _) dlv
            have eP : (bandM [Deed.row y] [(ds.map (·.2)).getLastD (st0 dr sp)]).map (fun l => PyData.list (l.map pD)) = [.list ((pickP s'.cards y.cps.toList).map pD)] := by
              rw [kc]
              rfl
            rw [eP]
            exact (A1.same sT).other bd
          · rw [List.map_append, List.map_append]
            refine FL.app (sT _ _ edn10) ?_ (flat_d _) (d := dD (.row y)) rfl (.tup (SqT.of upd_same) (.cons (.str _) (.cons (.str _) .nil)))
            exact dpA_ts ((same_ts (s8.trans s9)).trans (tsb.trans (same_ts sT))) (flat_d _) ddn
          · rw [bnd, List.length_append]
            show _ + 1 ≤ _
            omega
        · refine ⟨_, rfl, bb0, _, _, _, rfl, rfl, sbb, atI_nat (j := 0) (v := V.str "flip") rfl, rfl, _, rfl, iteF ?_⟩
          obtain ⟨i1, i2, i3, i4⟩ := num_some hnum
          refine ⟨_, rfl, .inl ⟨rfl, _, SqL.of edn8⟩, _, rfl, bb0, _, _, _, rfl, rfl, sbb, atI_nat (j := 1) (v := V.str y) rfl, y, _, rfl, i1, by omega, (by show 2 ≤ sizeLine; decide), fun p9 n9 => ?_⟩
          have sT := same_new (o := .tup [V.str "flip", V.int (kk : Nat)]) n9
          refine ⟨pd, _, _, rfl, rfl, sT _ _ edn8, (by rw [sizeLine_eq]; omega), ?_⟩
          refine ⟨_, _, _, rfl, same_put ((t1.trans s8).trans sT) ndH, same_put (u2.trans sT) n2d, ?_, ds ++ [(.flip kk, _)], hds2, ok2, ?_, ?_, ?_, ?_⟩
          · rw [upd_ne (Ne.symm d7)]
            exact sT _ _ (s8 _ _ e7)
          · rw [lastE]
            exact stateN_upd (stateN_mono st' sT) (fun a h => h.2) (sT _ _ edn8)
          · rw [bnd]
            show B2 K _ pb pd ((_ ++ []).map _)
            rw [List.append_nil]
            exact (hbd0.same (s8.trans sT)).other bd
          · rw [List.map_append, List.map_append]
            refine FL.app (sT _ _ edn8) ?_ (flat_d _) (d := dD (.flip kk)) rfl (.tup (SqT.of upd_same) (.cons (.str _) (.cons (.int _) .nil)))
            exact dpA_mono (s8.trans sT) _ _ ddn
          · rw [bnd]
            show (_ ++ []).length ≤ _
            rw [List.append_nil]
            omega
      · exact ⟨_, rfl, rfl, _, rfl, iteT (iteT (bad (fail hs) (t1.trans s8)))⟩
      · exact ⟨_, rfl, rfl, _, rfl, iteF ⟨_, rfl, _, _, _, _, _, rfl, .ty "str", .base (.str _), kit_ty (by decide +kernel), _, rfl, iteT (bad (fail hs) (t1.trans s8))⟩⟩
    · rintro σ H7 ⟨u, o6, o7, rfl, t1, t2, e7, ds, hds, hok, hst, hbd, hdn, hbl⟩
      rw [lcv, List.take_length] at hds
      refine ⟨_, rfl, _, rfl, _, rfl, (by show 3 ≤ sizeLine; decide), fun p9 n9 => ?_⟩
      have s9 := same_new (o := .tup [u, V.ref pb, V.ref pd]) n9
      refine q1 (lmOf dr mo sp ds) (by rw [rm3, hds]; rfl) _ p9 u (.ref pb) (.ref pd) (t1.trans s9) (SqT.of upd_same) ?_ (dp_mono s9 _ _ hbd.dp) (dp_mono s9 _ _ hdn.dp)
      rw [lmOf_last]
      exact stateN_at (stateN_mono hst s9)

theorem has__law_read {P : Program} {w : World} {K : PySem.W.Frag} {mg : Str → Option Value} {base : Heap} (T : Tx K mg) : Has P w K mg base CX0 5 "_law_read" ["_law_text"] (sp_l_read K) := ok_l_read T
theorem ok_Loom_weave {P : Program} {w : World} {K : PySem.W.Frag} {mg : Str → Option Value} {base : Heap} (T : Tx K mg) : HasM P w K mg base (L2N.CX P w) 6 "Loom" "weave" ["self", "row"] (sp_Loom_weave K) := by
  refine T.d_Loom_weave.has T.c_Loom sc_Loom_weave (fun vs H Q E h => ?_) (fun f cdv A outer s H vs Q E hr h => ?_)
  · obtain ⟨_, _, _, _, rfl, _⟩ := h
    rfl
  · obtain ⟨p, m, G0, z, rfl, hl, hok, hz, q1, q0⟩ := h
    refine ⟨_, (pss_cons (ps_set (i := 2) sc_Loom_weave.nd rfl (Or.inl rfl) (pe_ix ix_list (pe_fld (pv 0) rfl) (pe_un un_neg pe_int) (fun _ _ => rfl))) (pss_cons (ps_expr (pe_hasM (hasM_put_deed T) (hr.mono (by decide)) pass0 (pv 0) (pa_cons (pe_tup (pa_cons pe_str (pa_cons (pv 1) pa_nil))) (pa_cons (pe_has (has_stage_behind T) (hr.mono (by decide)) (by rfl) (passesN (L2N.takes_of rfl rfl rfl rfl) (fun _ _ _ _ q => q)) (pa_cons (pv 2) (pa_cons (pv 1) (pa_cons (pe_fld (pv 0) rfl) pa_nil)))) pa_nil)))) (pss_one (ps_ret (pe_ix ix_tup (pe_has (has_pick_of T) (hr.mono (by decide)) (by rfl) pass0 (pa_cons (pe_fld (pv 2) rfl) (pa_cons (pv 1) pa_nil))) pe_int (fun _ _ => rfl)))))), ?_⟩
    obtain ⟨G, dx, ad, asp, ado, ast, aun, hl⟩ := hl
    obtain ⟨ys, r, hys, hat, hst⟩ := loom_last hl (lm_ne hok)
    refine ⟨_, rfl, p, _, _, _, _, rfl, hl.ins, T.c_Loom, T.a_stages, rfl, _, rfl, ast, _, _, _, rfl, rfl, SqL.of hys, hat, ?_⟩
    refine ⟨_, rfl, p, _, _, rfl, hl.ins, rfl, _, rfl, (by show 2 ≤ sizeLine; decide), fun t nt => ⟨_, rfl, _, rfl, _, rfl, p, _, _, _, _, rfl, (same_new nt) _ _ hl.ins, T.c_Loom, T.a_most, rfl, ?_⟩⟩
    have s1 := same_new (o := .tup [V.str "row", V.str z]) nt
    refine ⟨r, m.last, z, m.most, rfl, stageAt_mono (hl.g.trans s1) hst, lm_last hok, hz, fun s' hs' H3 q3 s3 new => ?_, fun hn x hx H3 s3 => q0 hn x hx _ (s1.trans s3)⟩
    obtain ⟨hl3, gw, wn, wt⟩ := loom_grow hl (s1.trans s3)
    have st3 := stage_new_at new (fun a na => wn a (s1.free na)) wt
    have hd : Dp K H3 (.ref t) (dD (.row z)) := dp_mono s3 _ _ (.tup (SqT.of upd_same) (.cons (.str _) (.cons (.str _) .nil)))
    have fewm := hok.few
    have lenm := hok.len
    refine ⟨p, .ref t, .row z, q3, s', m, _, G0, dx, ad, asp, ado, ast, aun, rfl, hl3, by omega, dp_ts wt rfl hd, st3, fun H4 g4 hl4 => ?_⟩
    obtain ⟨dx2, a, b, c0, d0, hp, ha, hb, hc0, hdd⟩ := stageAt_mono (gw.trans g4) hst
    have hf : fitsP z m.last.cards.length = true := by
      unfold rowP at hs'
      split at hs'
      · assumption
      · cases hs'
    refine ⟨_, rfl, r, _, _, _, _, rfl, hp, T.c_Stage, T.a_cards, rfl, _, rfl, _, m.last.cards, z, rfl, ⟨ha, (lm_last hok).cards, (lm_last hok).n8, hf⟩, fun H5 u x y s5 su nx ny => ⟨u, _, _, _, rfl, rfl, su, rfl, ?_⟩⟩
    exact q1 s' hs' H5 y (loomIn_mono s5 hl4)

theorem hasM_weave {P : Program} {w : World} {K : PySem.W.Frag} {mg : Str → Option Value} {base : Heap} (T : Tx K mg) : HasM P w K mg base (L2N.CX P w) 6 "Loom" "weave" ["self", "row"] (sp_Loom_weave K) := ok_Loom_weave T
theorem ok_l_stands {P : Program} {w : World} {K : PySem.W.Frag} {mg : Str → Option Value} {base : Heap} (T : Tx K mg) : Has P w K mg base CX0 6 "_law_stands" ["_law_loom", "_law_state", "_law_band", "_law_done"] (sp_l_stands K) := by
  refine T.d_l_stands.has sc_l_stands (fun vs H Q E h => ?_) (fun f cdv A outer s H vs Q E hr h => ?_)
  · obtain ⟨_, _, _, _, _, _, rfl, _⟩ := h
    rfl
  · obtain ⟨p, m, G0, st, bd, dn, rfl, hl, hok, hst, hbd, hdn, q⟩ := h
    refine ⟨_, PSs.nox ((pss_cons (ps_if (PW.pt (pw_or (pt_not (pt_val (pe_has (has__law_same T) (hr.mono (by decide)) (by rfl) pass0 (pa_cons (pe_hasM0 (hasM_tablets T) (hr.mono (by decide)) pass0 (pv 0)) (pa_cons (pe_ix ix_tup (pv 1) pe_int (fun _ _ => rfl)) pa_nil))))) (pw_or1 (pt_not (pt_val (pe_has (has__law_same T) (hr.mono (by decide)) (by rfl) pass0 (pa_cons (pe_hasM0 (hasM_band T) (hr.mono (by decide)) pass0 (pv 0)) (pa_cons (pv 2) pa_nil)))))))) (pss_one (ps_ret pe_bl)) pss_nil) (pss_cons (ps_if (pt_not (pt_val (pe_has (has__law_same T) (hr.mono (by decide)) (by rfl) pass0 (pa_cons (pe_hasM0 (hasM_deeds T) (hr.mono (by decide)) pass0 (pv 0)) (pa_cons (pv 3) pa_nil))))) (pss_one (ps_ret pe_bl)) pss_nil) (pss_cons (ps_for PassesOwn.never rfl (pi_range1 rfl T.m_range (pa_cons (pe_callB call_len_seq (by rfl) T.m_len PySem.boot_len (pa_cons (pe_ix ix_tup (pv 1) pe_int (fun _ _ => rfl)) pa_nil)) pa_nil)) (pg_name (i := 4) sc_l_stands.nd rfl (Or.inl rfl)) (pss_one (ps_if (PW.pt (pw_or (pt_not (pt_val (pe_has (has__law_same T) (hr.mono (by decide)) (by rfl) pass0 (pa_cons (pe_hasM (hasM_twist T) (hr.mono (by decide)) pass0 (pv 0) (pa_cons (pv 4) pa_nil)) (pa_cons (pe_ix ix_list (pe_ix ix_tup (pv 1) pe_int (fun _ _ => rfl)) (pv 4) (fun _ _ => rfl)) pa_nil))))) (pw_or1 (pt_not (pt_val (pe_has (has__law_same T) (hr.mono (by decide)) (by rfl) pass0 (pa_cons (pe_hasM (hasM_peak T) (hr.mono (by decide)) pass0 (pv 0) (pa_cons (pv 4) pa_nil)) (pa_cons (pe_ix ix_list (pe_ix ix_tup (pv 1) pe_int (fun _ _ => rfl)) (pv 4) (fun _ _ => rfl)) pa_nil)))))))) (pss_one (ps_ret pe_bl)) pss_nil))) (pss_cons (ps_for PassesOwn.never rfl (pi_str pe_str) (pg_name (i := 5) sc_l_stands.nd rfl (Or.inl rfl)) (pss_one (ps_if (pt_not (pt_val (pe_has (has__law_same T) (hr.mono (by decide)) (by rfl) pass0 (pa_cons (pe_hasM (hasM_rest T) (hr.mono (by decide)) pass0 (pv 0) (pa_cons (pv 5) pa_nil)) (pa_cons (pe_dget2 (hu_of hr) (pe_ix ix_tup (pv 1) pe_int (fun _ _ => rfl)) (pv 5) pe_int ⟨rfl, rfl, rfl, rfl⟩) pa_nil))))) (pss_one (ps_ret pe_bl)) pss_nil))) (pss_one (ps_ret pe_bl))))))), ?_⟩
    obtain ⟨a, l1, l2, l3, d, rfl, sq, h1, h2, h3, h4⟩ := hst
    have okl := lm_last hok
    have hl0 := hl
    obtain ⟨G, dx, ad, asp, ado, ast, aun, hg⟩ := hl
    obtain ⟨_, xs, e, sqc, hc⟩ := dp_lst h1
    cases e
    obtain ⟨_, e, sqt⟩ := dp_ints h2
    cases e
    obtain ⟨_, e, sqf⟩ := dp_ints h3
    cases e
    have xl : xs.length = m.last.cards.length := by rw [dpA_len hc, List.length_map]
    have dc : ∀ (l : List Card), depD 3 (.list (l.map cD)) = true := fun l => by
      show (l.map cD).all (depD 2) = true
      rw [List.all_eq_true]
      intro x m
      obtain ⟨t, _, rfl⟩ := List.mem_map.mp m
      rfl
    have dd : ∀ (l : List Deed), depD 3 (.list (l.map dD)) = true := fun l => by
      show (l.map dD).all (depD 2) = true
      rw [List.all_eq_true]
      intro x m
      obtain ⟨t, _, rfl⟩ := List.mem_map.mp m
      cases t <;> rfl
    have dp2 : ∀ (l : List (List Pick)), depD 3 (.list (l.map fun l => .list (l.map pD))) = true := fun l => by
      show (l.map fun l => PyData.list (l.map pD)).all (depD 2) = true
      rw [List.all_eq_true]
      intro x m
      obtain ⟨t, _, rfl⟩ := List.mem_map.mp m
      show (t.map pD).all (depD 1) = true
      rw [List.all_eq_true]
      intro y m
      obtain ⟨u, _, rfl⟩ := List.mem_map.mp m
      rfl
    have at0 : atI [V.ref l1, V.ref l2, V.ref l3, V.ref d] 0 = some (V.ref l1) := atI_nat (j := 0) rfl
    have at1 : atI [V.ref l1, V.ref l2, V.ref l3, V.ref d] 1 = some (V.ref l2) := atI_nat (j := 1) rfl
    have at2 : atI [V.ref l1, V.ref l2, V.ref l3, V.ref d] 2 = some (V.ref l3) := atI_nat (j := 2) rfl
    have at3 : atI [V.ref l1, V.ref l2, V.ref l3, V.ref d] 3 = some (V.ref d) := atI_nat (j := 3) rfl
    refine ⟨_, rfl, p, _, _, rfl, hg.ins, rfl, p, m, G0, rfl, hl0, hok, fun H1 v1 s1 e1 => ⟨_, rfl, a, _, _, _, rfl, rfl, same_seqT s1 sq, at0, v1, .ref l1, _, rfl, e1, dp_mono s1 _ _ h1, dc _, fun H2 s2 => ⟨_, rfl, ?_⟩⟩⟩
    have s12 := s1.trans s2
    refine ⟨_, rfl, p, _, _, rfl, s12 _ _ hg.ins, rfl, p, m, G0, rfl, loomIn_mono s12 hl0, hok, fun H3 v3 s3 e3 => ⟨_, rfl, v3, bd, _, rfl, e3, dp_mono (s12.trans s3) _ _ hbd, dp2 _, fun H4 s4 => ⟨_, rfl, ?_⟩⟩⟩
    have s14 := (s12.trans s3).trans s4
    refine ⟨_, rfl, p, _, _, rfl, s14 _ _ hg.ins, rfl, p, m, G0, rfl, loomIn_mono s14 hl0, hok, fun H5 v5 s5 e5 => ⟨_, rfl, v5, dn, _, rfl, e5, dp_mono (s14.trans s5) _ _ hdn, dd _, fun H6 s6 => ⟨_, rfl, ?_⟩⟩⟩
    have s16 := (s14.trans s5).trans s6
    refine ⟨_, rfl, a, _, _, _, rfl, rfl, same_seqT s16 sq, at0, l1, xs, rfl, .inl (s16.seq sqc), (xs.length : Int), rfl, by have := okl.n8; omega, by have := okl.n8; omega, for_range (lo := 0) (n := (xs.length : Int).toNat) (fun i σ H' => (∃ o4 o5, σ = [some (V.ref p), some (V.ref a), some bd, some dn, o4, o5]) ∧ Same H H') ⟨⟨_, _, rfl⟩, s16⟩ ?_ ?_⟩
    · rintro i σ H7 hi ⟨⟨o4, o5, rfl⟩, s7⟩
      have hi2 : i < m.last.cards.length := by omega
      have z0 : ((0 : Int) + (i : Int)) = ((i : Nat) : Int) := by omega
      have t1 : m.last.tw[i]? = some (m.last.tw[i]'(by rw [okl.tw]; exact hi2)) := List.getElem?_eq_getElem _
      have f1 : m.last.far[i]? = some (m.last.far[i]'(by rw [okl.far]; exact hi2)) := List.getElem?_eq_getElem _
      have t2 : (m.last.tw.map V.int)[i]? = some (V.int (m.last.tw[i]'(by rw [okl.tw]; exact hi2))) := by rw [List.getElem?_map, t1]; rfl
      have f2 : (m.last.far.map V.int)[i]? = some (V.int (m.last.far[i]'(by rw [okl.far]; exact hi2))) := by rw [List.getElem?_map, f1]; rfl
      rw [z0]
      refine ⟨_, rfl, p, _, _, rfl, s7 _ _ hg.ins, rfl, _, rfl, p, m, G0, i, _, rfl, loomIn_mono s7 hl0, hok, t1, _, rfl, a, _, _, _, rfl, rfl, same_seqT s7 sq, at1, _, rfl, l2, _, _, _, rfl, rfl, s7.seq sqt, atI_nat t2, _, _, _, rfl, .int _, .int _, rfl, fun H8 s8 => ⟨_, rfl, ?_⟩⟩
      have s78 := s7.trans s8
      refine ⟨_, rfl, p, _, _, rfl, s78 _ _ hg.ins, rfl, _, rfl, p, m, G0, i, _, rfl, loomIn_mono s78 hl0, hok, f1, _, rfl, a, _, _, _, rfl, rfl, same_seqT s78 sq, at2, _, rfl, l3, _, _, _, rfl, rfl, s78.seq sqf, atI_nat f2, _, _, _, rfl, .int _, .int _, rfl, fun H9 s9 => ⟨_, rfl, iteF ⟨⟨_, _, rfl⟩, s78.trans s9⟩⟩⟩
    · rintro σ H7 ⟨⟨o4, o5, rfl⟩, s7⟩
      refine ⟨_, rfl, for_it (J := Its (PySem.Str.ofString "abcdefghijklmnopqrstuvwxyz")) 26 (fun j σ H' => (∃ o4 o5, σ = [some (V.ref p), some (V.ref a), some bd, some dn, o4, o5]) ∧ Same H H') ⟨⟨_, _, rfl⟩, s7⟩ (fun j σ H' hj _ => (show j < (PySem.Str.ofString "abcdefghijklmnopqrstuvwxyz").cps.size from hj)) (fun σ H' _ => (show (PySem.Str.ofString "abcdefghijklmnopqrstuvwxyz").cps.size ≤ 26 by decide +kernel)) ?_ ?_⟩
      · rintro j σ H8 x H9 hj ⟨⟨o4, o5, rfl⟩, s8⟩ ⟨rfl, c, hc1, rfl⟩
        refine ⟨_, rfl, p, _, _, rfl, s8 _ _ hg.ins, rfl, _, rfl, p, m, G0, sg c, rfl, loomIn_mono s8 hl0, hok, _, rfl, a, _, _, _, rfl, rfl, same_seqT s8 sq, at3, d, rfl, .inl ⟨_, .inl (s8 _ _ h4)⟩, _, rfl, _, gt_d (s8 _ _ h4), ?_⟩
        rw [getD_map]
        exact ⟨_, _, _, rfl, .int _, .int _, rfl, fun H9 s9 => ⟨_, rfl, iteF ⟨⟨_, _, rfl⟩, s8.trans s9⟩⟩⟩
      · rintro σ H8 ⟨⟨o4, o5, rfl⟩, s8⟩
        exact q _ s8

theorem has__law_stands {P : Program} {w : World} {K : PySem.W.Frag} {mg : Str → Option Value} {base : Heap} (T : Tx K mg) : Has P w K mg base CX0 6 "_law_stands" ["_law_loom", "_law_state", "_law_band", "_law_done"] (sp_l_stands K) := ok_l_stands T
theorem dp_intE {K : PySem.W.Frag} {H : Hp} {i : Int} {k : Nat} (e : i = (k : Int)) : Dp K H (V.int i) (.int (k : Int)) := e ▸ .int _
theorem join_len2 (y : Str) (hy : y.length = 1) (ys : List Str) : (ys.map Str.length).sum + ys.length ≤ (Txt.join y ys).length + 1 := by
  rw [TL.len_tl (Txt.join y ys), TL.join_eq, TL.tl_join]
  have hl : (TL.tl y).length = 1 := by rw [← TL.len_tl]; exact hy
  generalize TL.tl y = S at hl
  have : ∀ l : List (List Nat), (l.map List.length).sum + l.length ≤ (TL.joinL S l).length + 1 := by
    intro l
    induction l with
    | nil => simp [TL.joinL]
    | cons p l ih =>
      cases l with
      | nil => simp [TL.joinL]
      | cons q l =>
        show _ ≤ (p ++ (S ++ TL.joinL S (q :: l))).length + 1
        rw [List.length_append, List.length_append, hl]
        simp at ih ⊢
        omega
  have h := this (ys.map TL.tl)
  rw [List.length_map, List.map_map] at h
  have e : ys.map (List.length ∘ TL.tl) = ys.map Str.length := by
    apply List.map_congr_left
    intro z _
    exact (TL.len_tl z).symm
  rw [e] at h
  exact h
def Bnd (ys : List Str) (n : Nat) : Prop := (ys.map Str.length).sum + ys.length ≤ n
def StrsV (n : Nat) (xs : List V) : Prop := ∃ ys : List Str, xs = ys.map V.str ∧ Bnd ys n
theorem Bnd.app {a b : List Str} {n m : Nat} (h : Bnd a n) (k : Bnd b m) : Bnd (a ++ b) (n + m) := by
  unfold Bnd at *
  rw [List.map_append, List.sum_append, List.length_append]
  omega
theorem Bnd.split {a b : List Str} {n : Nat} (h : Bnd (a ++ b) n) : ∃ i j, Bnd a i ∧ Bnd b j ∧ i + j = n ∨ Bnd a i ∧ Bnd b j ∧ i + j ≤ n := by
  unfold Bnd at *
  rw [List.map_append, List.sum_append, List.length_append] at h
  exact ⟨_, _, .inr ⟨Nat.le_refl _, Nat.le_refl _, by omega⟩⟩
theorem Bnd.td {a : List Str} {n : Nat} (k : Nat) (h : Bnd a n) : Bnd (a.take k) n ∧ Bnd (a.drop k) n ∧ ((a.take k).map Str.length).sum + (a.take k).length + (((a.drop k).map Str.length).sum + (a.drop k).length) ≤ n := by
  have h' := h
  rw [← List.take_append_drop k a] at h'
  unfold Bnd at *
  rw [List.map_append, List.sum_append, List.length_append] at h'
  exact ⟨by omega, by omega, by omega⟩
theorem StrsV.le {n m : Nat} {xs : List V} (h : StrsV n xs) (k : n ≤ m) : ∃ ys : List Str, xs = ys.map V.str ∧ Bnd ys m := by
  obtain ⟨ys, e, b⟩ := h
  exact ⟨ys, e, Nat.le_trans b k⟩
theorem StrsV.len {n : Nat} {xs : List V} (h : StrsV n xs) : xs.length ≤ n := by
  obtain ⟨ys, rfl, b⟩ := h
  unfold Bnd at b
  rw [List.length_map]
  omega
theorem StrsV.app {n m : Nat} {xs zs : List V} (h : StrsV n xs) (k : StrsV m zs) : StrsV (n + m) (xs ++ zs) := by
  obtain ⟨ys, rfl, b⟩ := h
  obtain ⟨us, rfl, d⟩ := k
  exact ⟨ys ++ us, List.map_append.symm, b.app d⟩
theorem StrsV.take {n : Nat} {xs : List V} (k : Nat) (h : StrsV n xs) : StrsV n (xs.take k) := by
  obtain ⟨ys, rfl, b⟩ := h
  exact ⟨ys.take k, List.map_take.symm, (b.td k).1⟩
theorem StrsV.drop {n : Nat} {xs : List V} (k : Nat) (h : StrsV n xs) : StrsV n (xs.drop k) := by
  obtain ⟨ys, rfl, b⟩ := h
  exact ⟨ys.drop k, List.map_drop.symm, (b.td k).2.1⟩
theorem StrsV.cut {n : Nat} {xs : List V} (lo hi : Option Int) (h : StrsV n xs) : StrsV n (cutV xs lo hi) := by
  unfold cutV
  exact (h.drop _).take _
theorem StrsV.erase {n : Nat} {xs : List V} (k : Nat) (h : StrsV n xs) : StrsV n (xs.eraseIdx k) := by
  obtain ⟨ys, rfl, b⟩ := h
  rw [List.eraseIdx_eq_take_drop_succ, ← List.map_take, ← List.map_drop, ← List.map_append]
  refine ⟨_, rfl, ?_⟩
  have h1 := b.td k
  have h2 : ys.drop (k + 1) = (ys.drop k).drop 1 := by rw [List.drop_drop]
  have h3 := (show Bnd (ys.drop k) (((ys.drop k).map Str.length).sum + (ys.drop k).length) from Nat.le_refl _).td 1
  rw [h2]
  have h4 := h3.2.1
  unfold Bnd at *
  rw [List.map_append, List.sum_append, List.length_append]
  omega
theorem StrsV.ins {n m : Nat} {xs : List V} {y : Str} (k : Nat) (h : StrsV n xs) (hy : y.length ≤ m) : StrsV (n + (m + 1) + n) (xs.take k ++ [V.str y] ++ xs.drop k) :=
  ((h.take k).app ⟨[y], rfl, by show y.length + 0 + 1 ≤ _; omega⟩).app (h.drop k)
theorem StrsV.get {n : Nat} {xs : List V} (h : StrsV n xs) {k : Nat} (hk : k < xs.length) : ∃ y, xs[k]? = some (V.str y) ∧ y.length ≤ n := by
  obtain ⟨ys, rfl, b⟩ := h
  rw [List.length_map] at hk
  refine ⟨ys[k], by rw [List.getElem?_map, List.getElem?_eq_getElem hk]; rfl, ?_⟩
  have h1 := (b.td k).2.1
  rw [List.drop_eq_getElem_cons hk] at h1
  unfold Bnd at h1
  rw [List.map_cons, List.sum_cons] at h1
  omega
def more9 : List V := [V.str "spool a 5", V.str "tablet S abca 0", V.str "row f", V.str "flip 0", V.str "loom 3", V.str "", V.str "undo 0", V.str "spool z 01", V.str "flip 00"]
theorem more_at (k : Nat) (h : k < 9) : ∃ w : Str, more9[k]? = some (V.str w) ∧ w.length ≤ 20 := by
  rcases (by omega : k = 0 ∨ k = 1 ∨ k = 2 ∨ k = 3 ∨ k = 4 ∨ k = 5 ∨ k = 6 ∨ k = 7 ∨ k = 8) with rfl | rfl | rfl | rfl | rfl | rfl | rfl | rfl | rfl <;> exact ⟨_, rfl, by decide +kernel⟩
theorem rep_b (k : Nat) : StrsV (k * 20) (List.replicate k (V.str "tablet Z zzzz 3")) := by
  refine ⟨List.replicate k "tablet Z zzzz 3", List.map_replicate.symm, ?_⟩
  unfold Bnd
  rw [List.map_replicate, List.sum_replicate_nat, List.length_replicate]
  have : Str.length "tablet Z zzzz 3" = 15 := by decide +kernel
  rw [this]
  omega

theorem ok_l_built {P : Program} {w : World} {K : PySem.W.Frag} {mg : Str → Option Value} {base : Heap} (T : Tx K mg) : Has P w K mg base CX0 6 "_law_built" ["_law_script"] (sp_l_built K) := by
  refine T.d_l_built.has sc_l_built (fun vs H Q E h => ?_) (fun f cdv A outer s H vs Q E hr h => ?_)
  · obtain ⟨_, _, rfl, _⟩ := h
    rfl
  · obtain ⟨v, ns, rfl, hs, q⟩ := h
    refine ⟨_, PSs.nox ((pss_cons (ps_asg (pe_has (has__law_loom_parts T) (hr.mono (by decide)) (by rfl) pass0 (pa_cons (pv 0) pa_nil)) (pg_tup rfl (pgs_cons (pg_name (i := 1) sc_l_built.nd rfl (Or.inl rfl)) (pgs_cons (pg_name (i := 2) sc_l_built.nd rfl (Or.inl rfl)) (pgs_cons (pg_name (i := 3) sc_l_built.nd rfl (Or.inl rfl)) pgs_nil))))) (pss_cons (ps_set (i := 4) sc_l_built.nd rfl (Or.inl rfl) (pe_lst pa_nil)) (pss_cons (ps_for PassesOwn.never rfl (pi_range1 rfl T.m_range (pa_cons (pe_op op_mod (pe_has (has__law_at T) (hr.mono (by decide)) (by rfl) pass0 (pa_cons (pv 0) (pa_cons pe_int pa_nil))) pe_int) pa_nil)) (pg_name (i := 5) sc_l_built.nd rfl (Or.inl rfl)) (pss_cons (ps_set (i := 6) sc_l_built.nd rfl (Or.inl rfl) (pe_has (has__law_at T) (hr.mono (by decide)) (by rfl) pass0 (pa_cons (pv 0) (pa_cons (pe_op op_add pe_int (pv 5)) pa_nil)))) (pss_one (ps_if (pt_cmpR op_eq (pe_op op_mod (pv 6) pe_int) pe_int (nomark _)) (pss_one (ps_expr (pe_bm PySem.F.plainAttrs_list PySem.F.slot_list_append PySem.F.type_list_append mt_append (pv 4) (pa_cons (pe_tup (pa_cons pe_str (pa_cons (pe_op op_mod (pe_op op_fdiv (pv 6) pe_int) (pe_op op_add (pe_callB call_len_seq (by rfl) T.m_len PySem.boot_len (pa_cons (pv 1) pa_nil)) (pe_callTy call_int1 (by rfl) T.m_int (by decide +kernel) (pa_cons (pe_cmpR op_eq (pe_op op_mod (pv 6) pe_int) pe_int (nomark _)) pa_nil)))) pa_nil))) pa_nil)))) (pss_one (ps_expr (pe_bm PySem.F.plainAttrs_list PySem.F.slot_list_append PySem.F.type_list_append mt_append (pv 4) (pa_cons (pe_tup (pa_cons pe_str (pa_cons (pe_has (has__law_rowtext T) (hr.mono (by decide)) (by rfl) pass0 (pa_cons (pe_op op_fdiv (pv 6) pe_int) (pa_cons (pe_callB call_len_seq (by rfl) T.m_len PySem.boot_len (pa_cons (pv 1) pa_nil)) pa_nil))) pa_nil))) pa_nil)))))))) (pss_cons (ps_set (i := 7) sc_l_built.nd rfl (Or.inl rfl) (pe_split (pe_has (has__law_lines T) (hr.mono (by decide)) (by rfl) pass0 (pa_cons (pv 1) (pa_cons (pv 2) (pa_cons (pv 3) (pa_cons (pv 4) pa_nil))))) pe_str)) (pss_cons (ps_set (i := 6) sc_l_built.nd rfl (Or.inl rfl) (pe_has (has__law_at T) (hr.mono (by decide)) (by rfl) pass0 (pa_cons (pv 0) (pa_cons pe_int pa_nil)))) (pss_cons (ps_set (i := 8) sc_l_built.nd rfl (Or.inl rfl) (pe_op op_mod (pe_op op_fdiv (pv 6) pe_int) (pe_callB call_len_seq (by rfl) T.m_len PySem.boot_len (pa_cons (pv 7) pa_nil)))) (pss_cons (ps_if (pt_cmpR op_eq (pe_op op_mod (pv 6) pe_int) pe_int (nomark _)) (pss_one (ps_expr (pe_bm PySem.F.plainAttrs_list PySem.F.slot_list_pop PySem.F.type_list_pop mt_popAt (pv 7) (pa_cons (pv 8) pa_nil)))) pss_nil) (pss_cons (ps_if (pt_cmpR op_eq (pe_op op_mod (pv 6) pe_int) pe_int (nomark _)) (pss_one (ps_expr (pe_bm PySem.F.plainAttrs_list PySem.F.slot_list_insert PySem.F.type_list_insert mt_insert (pv 7) (pa_cons (pv 8) (pa_cons (pe_ix ix_list (pv 7) (pv 8) (fun _ _ => rfl)) pa_nil))))) pss_nil) (pss_cons (ps_if (pt_cmpR op_eq (pe_op op_mod (pv 6) pe_int) pe_int (nomark _)) (pss_one (ps_expr (pe_bm PySem.F.plainAttrs_list PySem.F.slot_list_insert PySem.F.type_list_insert mt_insert (pv 7) (pa_cons (pe_op op_add (pv 8) pe_int) (pa_cons (pe_bm PySem.F.plainAttrs_list PySem.F.slot_list_pop PySem.F.type_list_pop mt_popAt (pv 7) (pa_cons (pv 8) pa_nil)) pa_nil))))) pss_nil) (pss_cons (ps_if (pt_cmpR op_eq (pe_op op_mod (pv 6) pe_int) pe_int (nomark _)) (pss_cons (ps_set (i := 9) sc_l_built.nd rfl (Or.inl rfl) (pe_lst (pa_cons pe_str (pa_cons pe_str (pa_cons pe_str (pa_cons pe_str (pa_cons pe_str (pa_cons pe_str (pa_cons pe_str pa_nil))))))))) (pss_cons (ps_set (i := 9) sc_l_built.nd rfl (Or.inl rfl) (pe_op op_cat (pv 9) (pe_lst (pa_cons pe_str (pa_cons pe_str pa_nil))))) (pss_one (ps_expr (pe_bm PySem.F.plainAttrs_list PySem.F.slot_list_insert PySem.F.type_list_insert mt_insert (pv 7) (pa_cons (pe_op op_add (pv 8) pe_int) (pa_cons (pe_ix ix_list (pv 9) (pe_op op_mod (pe_op op_fdiv (pv 6) pe_int) pe_int) (fun _ _ => rfl)) pa_nil))))))) pss_nil) (pss_cons (ps_if (pt_cmpR op_eq (pe_op op_mod (pv 6) pe_int) pe_int (nomark _)) (pss_one (ps_set (i := 7) sc_l_built.nd rfl (Or.inl rfl) (pe_op op_cat (pe_slice sl_list (pv 7) po_none (po_some pe_int)) (pe_lc (own := [("_law_k", 5)]) (g := (gName 5)) (tt := tYes) rfl sc_l_built.nd (pi_range1 rfl T.m_range (pa_cons (pe_op op_mod (pe_op op_fdiv (pv 6) pe_int) pe_int) pa_nil)) (blkOk_by (own := [("_law_k", 5)]) (N := N_l_built) (sc := defScope s_l_built) (by decide +kernel)) (fun _ _ _ _ _ => (pg_name (i := 5) sc_l_built.nd rfl (Or.inl rfl))) (fun _ _ _ _ _ => pts_nil) (fun _ _ _ _ _ => pe_str))))) pss_nil) (pss_cons (ps_set (i := 10) sc_l_built.nd rfl (Or.inl rfl) (pe_join pe_str (pv 7))) (pss_cons (ps_for PassesOwn.never rfl (pi_range2 rfl T.m_range (pa_cons pe_int (pa_cons pe_int pa_nil))) (pg_name (i := 5) sc_l_built.nd rfl (Or.inl rfl)) (pss_one (ps_if (pt_cmpR op_eq (pe_op op_mod (pe_has (has__law_at T) (hr.mono (by decide)) (by rfl) pass0 (pa_cons (pv 0) (pa_cons (pv 5) pa_nil))) pe_int) pe_int (nomark _)) (pss_one (ps_set (i := 10) sc_l_built.nd rfl (Or.inl rfl) (pe_has (has__law_spoil T) (hr.mono (by decide)) (by rfl) pass0 (pa_cons (pv 10) (pa_cons (pe_op op_fdiv (pe_has (has__law_at T) (hr.mono (by decide)) (by rfl) pass0 (pa_cons (pv 0) (pa_cons (pv 5) pa_nil))) pe_int) pa_nil))))) pss_nil))) (pss_one (ps_ret (pv 10))))))))))))))))), ?_⟩
    have hs0 := hs
    obtain ⟨hv, hl⟩ := hs
    obtain ⟨b, rfl, sq⟩ := dp_ints hv
    refine ⟨_, rfl, .ref b, ns, rfl, hs0, fun H1 p1 x1 cs mo d1 lens s1 sq1 hx1 hok l1 l8 m0 m1 hd1 hlens => ?_⟩
    refine ⟨p1, _, rfl, sq1, rfl, _, _, rfl, _, _, rfl, _, _, rfl, rfl, ?_⟩
    refine ⟨Nat.zero_le _, fun pd nd => ?_⟩
    obtain ⟨xa, xs, rfl, sqx, dx⟩ := dp_lst hx1
    have xl : xs.length = cs.length := by rw [dpA_len dx, List.length_map]
    have s2 := s1.trans (same_new (o := .lst []) nd)
    have s2' := same_new (o := .lst []) nd
    have sc : ∀ {H' : Hp}, Same H H' → ScrAt K H' (.ref b) ns := fun e => ⟨dp_mono e _ _ hv, hl⟩
    refine ⟨_, rfl, .ref b, ns, 9, rfl, sc s2, by decide, fun i9 => ⟨_, _, rfl, rfl, (by show (0 : Int) < 9; decide), i9 % 9, rfl, by omega, by omega, for_range (lo := 0) (n := (i9 % 9).toNat) (fun i σ H' => (∃ o5 o6 o7 o8 o9 o10, σ = [some (V.ref b), some (V.ref xa), some (V.int mo), some (V.ref d1), some (V.ref pd), o5, o6, o7, o8, o9, o10]) ∧ Same H1 H' ∧ ∃ ds : List Deed, FL K H' pd (ds.map dD) ∧ ds.length = i ∧ ∀ e ∈ ds, DeedOk e)
      ⟨⟨_, _, _, _, _, _, rfl⟩, s2', [], .nil upd_same, rfl, fun e m => absurd m (by simp)⟩ ?_ ?_⟩⟩
    · rintro i σ H2 hi ⟨⟨o5, o6, o7, o8, o9, o10, rfl⟩, s3, ds, f3, l3, k3⟩
      have hi2 : i < 9 := by omega
      obtain ⟨acc, ea, da⟩ := f3
      have la := dpA_len da
      rw [List.length_map] at la
      have e13 : ((13 : Int) + (0 + (i : Int))) = ((13 + i : Nat) : Int) := by omega
      refine ⟨_, rfl, _, rfl, _, _, rfl, rfl, .ref b, ns, 13 + i, congrArg (fun t : Int => [V.ref b, V.int t]) e13, sc (s1.trans s3), by omega, fun c => ?_⟩
      have app : ∀ {H4 : Hp} {y : V} {d : Deed}, Same H2 H4 → Dp K H4 y (dD d) → DeedOk d → Same H1 (upd H4 pd (.lst (acc ++ [y]))) ∧ ∃ ds : List Deed, FL K (upd H4 pd (.lst (acc ++ [y]))) pd (ds.map dD) ∧ ds.length = i + 1 ∧ ∀ e ∈ ds, DeedOk e := fun {H4 y d} s4 hy hd => by
        refine ⟨same_put (s3.trans s4) nd, ds ++ [d], ?_, by rw [List.length_append, l3]; rfl, fun e m => ?_⟩
        · rw [List.map_append]
          exact FL.app (s4 _ _ ea) (dpA_mono s4 _ _ da) (flat_d _) (by cases d <;> rfl) hy
        · rcases List.mem_append.mp m with m | m
          · exact k3 e m
          · rw [List.mem_singleton.mp m]; exact hd
      refine ⟨_, rfl, _, _, rfl, rfl, (by show (0 : Int) < 3; decide), rfl, _, rfl, bb (fun g => ?_) fun g => ?_⟩
      · refine ⟨_, rfl, .inl ⟨rfl, _, SqL.of ea⟩, _, rfl, _, _, rfl, rfl, ⟨by decide, by decide⟩, _, rfl, xa, xs, rfl, .inl (s3.seq sqx), _, rfl, _, _, rfl, rfl, (by show (0 : Int) < 5; decide), rfl, .inr ⟨_, rfl, _, _, rfl, rfl, ?_⟩⟩
        have dv : 0 < (xs.length : Int) + (if decide (V.int (c % 5) = V.int 1) = true then (1 : Int) else 0) ∧ (xs.length : Int) + (if decide (V.int (c % 5) = V.int 1) = true then (1 : Int) else 0) ≤ 9 := by split <;> omega
        refine ⟨_, _, rfl, rfl, dv.1, (by show 2 ≤ sizeLine; decide), fun p4 n4 => ?_⟩
        have s4 := same_new (o := .tup [V.str "flip", V.int (c / 3 % ((xs.length : Int) + (if decide (V.int (c % 5) = V.int 1) = true then (1 : Int) else 0)))]) n4
        obtain ⟨kk, hkk⟩ := Int.eq_ofNat_of_zero_le (Int.emod_nonneg (c / 3) (show (xs.length : Int) + (if decide (V.int (c % 5) = V.int 1) = true then (1 : Int) else 0) ≠ 0 by omega))
        have lk := Int.emod_lt_of_pos (c / 3) dv.1
        refine ⟨pd, _, _, rfl, rfl, s4 _ _ ea, small_line (by omega), ⟨_, _, _, _, _, _, rfl⟩, app (d := .flip kk) s4 (.tup (SqT.of upd_same) (.cons (.str _) (.cons ?_ .nil))) (show kk ≤ 9 by omega)⟩
        exact dp_intE hkk
      · refine ⟨_, rfl, .inl ⟨rfl, _, SqL.of ea⟩, _, rfl, _, _, rfl, rfl, ⟨by decide, by decide⟩, _, rfl, xa, xs, rfl, .inl (s3.seq sqx), _, xs.length, rfl, by omega, fun H3 z s5 hz => ⟨(by show 2 ≤ sizeLine; decide), fun p4 n4 => ?_⟩⟩
        have s4 := s5.trans (same_new (o := .tup [V.str "row", V.str z]) n4)
        exact ⟨pd, _, _, rfl, rfl, s4 _ _ ea, small_line (by omega), ⟨_, _, _, _, _, _, rfl⟩, app (d := .row z) s4 (.tup (SqT.of upd_same) (.cons (.str _) (.cons (.str _) .nil))) hz⟩
    · rintro σ H2 ⟨⟨o5, o6, o7, o8, o9, o10, rfl⟩, s3, ds, f3, l3, k3⟩
      have s13 := s1.trans s3
      refine ⟨_, rfl, _, rfl, _, rfl, _, rfl, .ref xa, mo, d1, lens, .ref pd, cs, ds, rfl, dp_mono s3 _ _ hx1, hok, l8, m0, m1, s3 _ _ hd1, hlens, f3.dp, by omega, k3, fun H3 z s4 hz => ?_⟩
      have s14 := s13.trans s4
      obtain ⟨f1, f2, f3', f4⟩ := split_nl z
      have z16 : z.length + 2 ≤ sizeLine := by rw [sizeLine_eq]; omega
      refine ⟨⟨_, rfl⟩, z, "\n", rfl, rfl, rfl, z16, fun pl nl => ?_⟩
      have sL := same_new (o := .lst ((Txt.split z "\n").map V.str)) nl
      have s15 := s14.trans sL
      have nlH : H pl = none := s14.free nl
      have jl := join_len2 "\n" rfl (Txt.split z "\n")
      rw [f2] at jl
      have B0 : StrsV 10001 ((Txt.split z "\n").map V.str) := ⟨_, rfl, by unfold Bnd; omega⟩
      have lp : 0 < ((Txt.split z "\n").map V.str).length := by rw [List.length_map]; exact List.length_pos_iff.mpr f1
      refine ⟨_, rfl, .ref b, ns, 10, rfl, sc s15, by decide, fun c => ?_⟩
      refine ⟨_, rfl, _, _, rfl, rfl, ⟨by decide, by decide⟩, _, rfl, pl, _, rfl, .inl (SqL.of upd_same), _, _, rfl, rfl, (by omega), ?_⟩
      obtain ⟨t, ht⟩ := Int.eq_ofNat_of_zero_le (Int.emod_nonneg (c / 12) (show (((Txt.split z "\n").map V.str).length : Int) ≠ 0 by omega))
      have tl := Int.emod_lt_of_pos (c / 12) (show 0 < (((Txt.split z "\n").map V.str).length : Int) by omega)
      rw [ht] at tl
      show gName 8 (V.int (c / 12 % _)) _ _ _
      rw [ht]
      have e0 : (upd H3 pl (.lst ((Txt.split z "\n").map V.str))) pl = some (.lst ((Txt.split z "\n").map V.str)) := upd_same
      revert e0 tl B0 lp s15
      generalize (Txt.split z "\n").map V.str = xs0
      intro s15 B0 lp tl e0
      clear sL
      revert e0 s15
      generalize upd H3 pl (.lst xs0) = H4
      intro s15 e0
      have tl' : t < xs0.length := by omega
      have l0 := B0.len
      have sqi : seqIndex? (t : Int) xs0.length = some t := by
        have := PySem.StrLaws.seqIndex_nonneg (i := (t : Int)) (n := xs0.length) (by omega) (by omega)
        rw [this]; rfl
      obtain ⟨y, hy, ly⟩ := B0.get tl'
      refine ⟨_, rfl, _, _, rfl, rfl, (by show (0 : Int) < 12; decide), rfl, _, rfl, bb (fun g => ?_) fun g => ?_⟩
      · have g1 := V.int.inj (of_decide_eq_true g)
        refine ⟨_, rfl, .inl ⟨rfl, _, SqL.of e0⟩, _, rfl, pl, xs0, (t : Int), t, V.str y, rfl, rfl, e0, by omega, by omega, sqi, hy, ?_⟩
        have sF : Same H (upd H4 pl (.lst (xs0.eraseIdx t))) := same_put s15 nlH
        have eF : (upd H4 pl (.lst (xs0.eraseIdx t))) pl = some (.lst (xs0.eraseIdx t)) := upd_same
        obtain ⟨ysF, hF, bF⟩ := (B0.erase t).le (m := 40000) (by omega)
        have eF := eF.trans (congrArg (fun l => some (HO.lst l)) hF)
        refine ⟨_, rfl, _, _, rfl, rfl, (by show (0 : Int) < 12; decide), rfl, _, rfl, bb (fun g => absurd (V.int.inj (of_decide_eq_true g)) (by omega)) fun _ => ⟨_, rfl, _, _, rfl, rfl, (by show (0 : Int) < 12; decide), rfl, _, rfl, bb (fun g => absurd (V.int.inj (of_decide_eq_true g)) (by omega)) fun _ => ⟨_, rfl, _, _, rfl, rfl, (by show (0 : Int) < 12; decide), rfl, _, rfl, bb (fun g => absurd (V.int.inj (of_decide_eq_true g)) (by omega)) fun _ => ⟨_, rfl, _, _, rfl, rfl, (by show (0 : Int) < 12; decide), rfl, _, rfl, bb (fun g => absurd (V.int.inj (of_decide_eq_true g)) (by omega)) fun _ => ⟨⟨_, rfl⟩, _, rfl, _, pl, ysF, rfl, rfl, .inl (SqL.of eF), (by unfold Bnd at bF; show (ysF.map Str.length).sum + ysF.length * 1 ≤ 16777216; omega), ?_⟩⟩⟩⟩⟩
        have jF := join_len1 "\n" rfl ysF
        have jF' : (Txt.join "\n" ysF).length ≤ 40000 := by unfold Bnd at bF; omega
        refine ⟨11, 13, rfl, by decide, for_range (lo := 11) (n := 2) (fun i σ H' => (∃ (o5 o9 : Option V) (zz : Str), σ = [some (V.ref b), some (V.ref xa), some (V.int mo), some (V.ref d1), some (V.ref pd), o5, some (V.int c), some (V.ref pl), some (V.int (t : Nat)), o9, some (V.str zz)] ∧ zz.length ≤ (if i = 0 then 40000 else if i = 1 then 160003 else 640015)) ∧ Same H H') ⟨⟨_, _, _, rfl, by simpa using jF'⟩, sF⟩ ?_ ?_⟩
        · rintro i σ H5 hi ⟨⟨o5, o9, zz, rfl, lz⟩, s5⟩
          have e11 : ((11 : Int) + (i : Int)) = ((11 + i : Nat) : Int) := by omega
          refine ⟨_, rfl, _, rfl, .ref b, ns, 11 + i, congrArg (fun t : Int => [V.ref b, V.int t]) e11, sc s5, by omega, fun k => ⟨_, _, rfl, rfl, (by show (0 : Int) < 3; decide), rfl, _, rfl, bb (fun g => ?_) fun g => ?_⟩⟩
          · refine ⟨_, rfl, _, rfl, _, rfl, .ref b, ns, 11 + i, congrArg (fun t : Int => [V.ref b, V.int t]) e11, sc s5, by omega, fun k2 => ⟨_, _, rfl, rfl, ⟨by decide, by decide⟩, zz, k2 / 3, rfl, (by split at lz <;> (try split at lz) <;> omega), fun z' hz' => ⟨⟨_, _, _, rfl, ?_⟩, s5⟩⟩⟩
            have : i = 0 ∨ i = 1 := by omega
            rcases this with rfl | rfl
            · have : zz.length ≤ 40000 := by simpa using lz
              show z'.length ≤ 160003
              omega
            · have : zz.length ≤ 160003 := by simpa using lz
              show z'.length ≤ 640015
              omega
          · refine ⟨⟨_, _, _, rfl, ?_⟩, s5⟩
            have : i = 0 ∨ i = 1 := by omega
            rcases this with rfl | rfl
            · have : zz.length ≤ 40000 := by simpa using lz
              show zz.length ≤ 160003
              omega
            · have : zz.length ≤ 160003 := by simpa using lz
              show zz.length ≤ 640015
              omega
        · rintro σ H5 ⟨⟨o5, o9, zz, rfl, lz⟩, s5⟩
          have : zz.length ≤ 640015 := by simpa using lz
          exact ⟨_, rfl, q _ zz s5 (by omega)⟩
      refine ⟨_, rfl, _, _, rfl, rfl, (by show (0 : Int) < 12; decide), rfl, _, rfl, bb (fun g => ?_) fun g => ?_⟩
      · have g1 := V.int.inj (of_decide_eq_true g)
        refine ⟨_, rfl, .inl ⟨rfl, _, SqL.of e0⟩, _, rfl, _, rfl, _, rfl, pl, _, _, V.str y, rfl, rfl, SqL.of e0, atI_nat hy, pl, xs0, (t : Int), V.str y, rfl, rfl, e0, (by rw [sizeLine_eq]; omega), by omega, by omega, ?_⟩
        have sF : Same H (upd H4 pl (.lst (xs0.take t ++ [V.str y] ++ xs0.drop t))) := same_put s15 nlH
        have eF : (upd H4 pl (.lst (xs0.take t ++ [V.str y] ++ xs0.drop t))) pl = some (.lst (xs0.take t ++ [V.str y] ++ xs0.drop t)) := upd_same
        obtain ⟨ysF, hF, bF⟩ := (B0.ins t ly).le (m := 40000) (by omega)
        have eF := eF.trans (congrArg (fun l => some (HO.lst l)) hF)
        refine ⟨_, rfl, _, _, rfl, rfl, (by show (0 : Int) < 12; decide), rfl, _, rfl, bb (fun g => absurd (V.int.inj (of_decide_eq_true g)) (by omega)) fun _ => ⟨_, rfl, _, _, rfl, rfl, (by show (0 : Int) < 12; decide), rfl, _, rfl, bb (fun g => absurd (V.int.inj (of_decide_eq_true g)) (by omega)) fun _ => ⟨_, rfl, _, _, rfl, rfl, (by show (0 : Int) < 12; decide), rfl, _, rfl, bb (fun g => absurd (V.int.inj (of_decide_eq_true g)) (by omega)) fun _ => ⟨⟨_, rfl⟩, _, rfl, _, pl, ysF, rfl, rfl, .inl (SqL.of eF), (by unfold Bnd at bF; show (ysF.map Str.length).sum + ysF.length * 1 ≤ 16777216; omega), ?_⟩⟩⟩⟩
        have jF := join_len1 "\n" rfl ysF
        have jF' : (Txt.join "\n" ysF).length ≤ 40000 := by unfold Bnd at bF; omega
        refine ⟨11, 13, rfl, by decide, for_range (lo := 11) (n := 2) (fun i σ H' => (∃ (o5 o9 : Option V) (zz : Str), σ = [some (V.ref b), some (V.ref xa), some (V.int mo), some (V.ref d1), some (V.ref pd), o5, some (V.int c), some (V.ref pl), some (V.int (t : Nat)), o9, some (V.str zz)] ∧ zz.length ≤ (if i = 0 then 40000 else if i = 1 then 160003 else 640015)) ∧ Same H H') ⟨⟨_, _, _, rfl, by simpa using jF'⟩, sF⟩ ?_ ?_⟩
        · rintro i σ H5 hi ⟨⟨o5, o9, zz, rfl, lz⟩, s5⟩
          have e11 : ((11 : Int) + (i : Int)) = ((11 + i : Nat) : Int) := by omega
          refine ⟨_, rfl, _, rfl, .ref b, ns, 11 + i, congrArg (fun t : Int => [V.ref b, V.int t]) e11, sc s5, by omega, fun k => ⟨_, _, rfl, rfl, (by show (0 : Int) < 3; decide), rfl, _, rfl, bb (fun g => ?_) fun g => ?_⟩⟩
          · refine ⟨_, rfl, _, rfl, _, rfl, .ref b, ns, 11 + i, congrArg (fun t : Int => [V.ref b, V.int t]) e11, sc s5, by omega, fun k2 => ⟨_, _, rfl, rfl, ⟨by decide, by decide⟩, zz, k2 / 3, rfl, (by split at lz <;> (try split at lz) <;> omega), fun z' hz' => ⟨⟨_, _, _, rfl, ?_⟩, s5⟩⟩⟩
            have : i = 0 ∨ i = 1 := by omega
            rcases this with rfl | rfl
            · have : zz.length ≤ 40000 := by simpa using lz
              show z'.length ≤ 160003
              omega
            · have : zz.length ≤ 160003 := by simpa using lz
              show z'.length ≤ 640015
              omega
          · refine ⟨⟨_, _, _, rfl, ?_⟩, s5⟩
            have : i = 0 ∨ i = 1 := by omega
            rcases this with rfl | rfl
            · have : zz.length ≤ 40000 := by simpa using lz
              show zz.length ≤ 160003
              omega
            · have : zz.length ≤ 160003 := by simpa using lz
              show zz.length ≤ 640015
              omega
        · rintro σ H5 ⟨⟨o5, o9, zz, rfl, lz⟩, s5⟩
          have : zz.length ≤ 640015 := by simpa using lz
          exact ⟨_, rfl, q _ zz s5 (by omega)⟩
      refine ⟨_, rfl, _, _, rfl, rfl, (by show (0 : Int) < 12; decide), rfl, _, rfl, bb (fun g => ?_) fun g => ?_⟩
      · have g1 := V.int.inj (of_decide_eq_true g)
        refine ⟨_, rfl, .inl ⟨rfl, _, SqL.of e0⟩, _, rfl, _, _, rfl, rfl, _, rfl, .inl ⟨rfl, _, SqL.of e0⟩, _, rfl, pl, xs0, (t : Int), t, V.str y, rfl, rfl, e0, by omega, by omega, sqi, hy, ?_⟩
        have sE : Same H (upd H4 pl (.lst (xs0.eraseIdx t))) := same_put s15 nlH
        have eE : (upd H4 pl (.lst (xs0.eraseIdx t))) pl = some (.lst (xs0.eraseIdx t)) := upd_same
        have bE := B0.erase t
        have lE := bE.len
        refine ⟨pl, xs0.eraseIdx t, (t : Int) + 1, V.str y, rfl, rfl, eE, (by rw [sizeLine_eq]; omega), by omega, by omega, ?_⟩
        have sF : Same H (upd (upd H4 pl (.lst (xs0.eraseIdx t))) pl (.lst ((xs0.eraseIdx t).take ((t : Int) + 1).toNat ++ [V.str y] ++ (xs0.eraseIdx t).drop ((t : Int) + 1).toNat))) := same_put sE nlH
        have eF : (upd (upd H4 pl (.lst (xs0.eraseIdx t))) pl (.lst ((xs0.eraseIdx t).take ((t : Int) + 1).toNat ++ [V.str y] ++ (xs0.eraseIdx t).drop ((t : Int) + 1).toNat))) pl = some (.lst ((xs0.eraseIdx t).take ((t : Int) + 1).toNat ++ [V.str y] ++ (xs0.eraseIdx t).drop ((t : Int) + 1).toNat)) := upd_same
        obtain ⟨ysF, hF, bF⟩ := (bE.ins ((t : Int) + 1).toNat ly).le (m := 40000) (by omega)
        have eF := eF.trans (congrArg (fun l => some (HO.lst l)) hF)
        refine ⟨_, rfl, _, _, rfl, rfl, (by show (0 : Int) < 12; decide), rfl, _, rfl, bb (fun g => absurd (V.int.inj (of_decide_eq_true g)) (by omega)) fun _ => ⟨_, rfl, _, _, rfl, rfl, (by show (0 : Int) < 12; decide), rfl, _, rfl, bb (fun g => absurd (V.int.inj (of_decide_eq_true g)) (by omega)) fun _ => ⟨⟨_, rfl⟩, _, rfl, _, pl, ysF, rfl, rfl, .inl (SqL.of eF), (by unfold Bnd at bF; show (ysF.map Str.length).sum + ysF.length * 1 ≤ 16777216; omega), ?_⟩⟩⟩
        have jF := join_len1 "\n" rfl ysF
        have jF' : (Txt.join "\n" ysF).length ≤ 40000 := by unfold Bnd at bF; omega
        refine ⟨11, 13, rfl, by decide, for_range (lo := 11) (n := 2) (fun i σ H' => (∃ (o5 o9 : Option V) (zz : Str), σ = [some (V.ref b), some (V.ref xa), some (V.int mo), some (V.ref d1), some (V.ref pd), o5, some (V.int c), some (V.ref pl), some (V.int (t : Nat)), o9, some (V.str zz)] ∧ zz.length ≤ (if i = 0 then 40000 else if i = 1 then 160003 else 640015)) ∧ Same H H') ⟨⟨_, _, _, rfl, by simpa using jF'⟩, sF⟩ ?_ ?_⟩
        · rintro i σ H5 hi ⟨⟨o5, o9, zz, rfl, lz⟩, s5⟩
          have e11 : ((11 : Int) + (i : Int)) = ((11 + i : Nat) : Int) := by omega
          refine ⟨_, rfl, _, rfl, .ref b, ns, 11 + i, congrArg (fun t : Int => [V.ref b, V.int t]) e11, sc s5, by omega, fun k => ⟨_, _, rfl, rfl, (by show (0 : Int) < 3; decide), rfl, _, rfl, bb (fun g => ?_) fun g => ?_⟩⟩
          · refine ⟨_, rfl, _, rfl, _, rfl, .ref b, ns, 11 + i, congrArg (fun t : Int => [V.ref b, V.int t]) e11, sc s5, by omega, fun k2 => ⟨_, _, rfl, rfl, ⟨by decide, by decide⟩, zz, k2 / 3, rfl, (by split at lz <;> (try split at lz) <;> omega), fun z' hz' => ⟨⟨_, _, _, rfl, ?_⟩, s5⟩⟩⟩
            have : i = 0 ∨ i = 1 := by omega
            rcases this with rfl | rfl
            · have : zz.length ≤ 40000 := by simpa using lz
              show z'.length ≤ 160003
              omega
            · have : zz.length ≤ 160003 := by simpa using lz
              show z'.length ≤ 640015
              omega
          · refine ⟨⟨_, _, _, rfl, ?_⟩, s5⟩
            have : i = 0 ∨ i = 1 := by omega
            rcases this with rfl | rfl
            · have : zz.length ≤ 40000 := by simpa using lz
              show zz.length ≤ 160003
              omega
            · have : zz.length ≤ 160003 := by simpa using lz
              show zz.length ≤ 640015
              omega
        · rintro σ H5 ⟨⟨o5, o9, zz, rfl, lz⟩, s5⟩
          have : zz.length ≤ 640015 := by simpa using lz
          exact ⟨_, rfl, q _ zz s5 (by omega)⟩
      refine ⟨_, rfl, _, _, rfl, rfl, (by show (0 : Int) < 12; decide), rfl, _, rfl, bb (fun g => ?_) fun g => ?_⟩
      · have g1 := V.int.inj (of_decide_eq_true g)
        obtain ⟨k9, hk9⟩ := Int.eq_ofNat_of_zero_le (Int.emod_nonneg (c / 12) (show (9 : Int) ≠ 0 by decide))
        have lk9 := Int.emod_lt_of_pos (c / 12) (show (0 : Int) < 9 by decide)
        rw [hk9] at lk9
        obtain ⟨w9, hw9, lw9⟩ := more_at k9 (by omega)
        refine ⟨by show 7 ≤ sizeLine; decide, fun p1 n1 => ⟨_, rfl, by show 2 ≤ sizeLine; decide, fun p2 n2 => ⟨p1, p2, _, _, rfl, rfl, same_new n2 _ _ upd_same, upd_same, small_line (by decide), fun p3 n3 => ?_⟩⟩⟩
        have sM := (same_new n1).trans ((same_new n2).trans (same_new (o := .lst more9) n3))
        have e1 := sM _ _ e0
        have s16 := s15.trans sM
        refine ⟨_, rfl, .inl ⟨rfl, _, SqL.of e1⟩, _, rfl, _, _, rfl, rfl, _, rfl, _, rfl, _, _, rfl, rfl, ⟨by decide, by decide⟩, _, _, rfl, rfl, (by show (0 : Int) < 9; decide), p3, more9, c / 12 % 9, V.str w9, rfl, rfl, SqL.of upd_same, (by rw [hk9]; exact atI_nat hw9), pl, xs0, (t : Int) + 1, V.str w9, rfl, rfl, e1, (by rw [sizeLine_eq]; omega), by omega, by omega, ?_⟩
        have sF := same_put (o := .lst (xs0.take ((t : Int) + 1).toNat ++ [V.str w9] ++ xs0.drop ((t : Int) + 1).toNat)) s16 nlH
        obtain ⟨ysF, hF, bF⟩ := (B0.ins ((t : Int) + 1).toNat lw9).le (m := 40000) (by omega)
        refine ⟨_, rfl, _, _, rfl, rfl, (by show (0 : Int) < 12; decide), rfl, _, rfl, bb (fun g => absurd (V.int.inj (of_decide_eq_true g)) (by omega)) fun _ => ⟨⟨_, rfl⟩, _, rfl, _, pl, ysF, rfl, rfl, .inl (SqL.of (upd_same.trans (congrArg (fun l => some (HO.lst l)) hF))), (by unfold Bnd at bF; show (ysF.map Str.length).sum + ysF.length * 1 ≤ 16777216; omega), ?_⟩⟩
        have jF := join_len1 "\n" rfl ysF
        have jF' : (Txt.join "\n" ysF).length ≤ 40000 := by unfold Bnd at bF; omega
        refine ⟨11, 13, rfl, by decide, for_range (lo := 11) (n := 2) (fun i σ H' => (∃ (o5 o9 : Option V) (zz : Str), σ = [some (V.ref b), some (V.ref xa), some (V.int mo), some (V.ref d1), some (V.ref pd), o5, some (V.int c), some (V.ref pl), some (V.int (t : Nat)), o9, some (V.str zz)] ∧ zz.length ≤ (if i = 0 then 40000 else if i = 1 then 160003 else 640015)) ∧ Same H H') ⟨⟨_, _, _, rfl, by simpa using jF'⟩, sF⟩ ?_ ?_⟩
        · rintro i σ H5 hi ⟨⟨o5, o9, zz, rfl, lz⟩, s5⟩
          have e11 : ((11 : Int) + (i : Int)) = ((11 + i : Nat) : Int) := by omega
          refine ⟨_, rfl, _, rfl, .ref b, ns, 11 + i, congrArg (fun t : Int => [V.ref b, V.int t]) e11, sc s5, by omega, fun k => ⟨_, _, rfl, rfl, (by show (0 : Int) < 3; decide), rfl, _, rfl, bb (fun g => ?_) fun g => ?_⟩⟩
          · refine ⟨_, rfl, _, rfl, _, rfl, .ref b, ns, 11 + i, congrArg (fun t : Int => [V.ref b, V.int t]) e11, sc s5, by omega, fun k2 => ⟨_, _, rfl, rfl, ⟨by decide, by decide⟩, zz, k2 / 3, rfl, (by split at lz <;> (try split at lz) <;> omega), fun z' hz' => ⟨⟨_, _, _, rfl, ?_⟩, s5⟩⟩⟩
            have : i = 0 ∨ i = 1 := by omega
            rcases this with rfl | rfl
            · have : zz.length ≤ 40000 := by simpa using lz
              show z'.length ≤ 160003
              omega
            · have : zz.length ≤ 160003 := by simpa using lz
              show z'.length ≤ 640015
              omega
          · refine ⟨⟨_, _, _, rfl, ?_⟩, s5⟩
            have : i = 0 ∨ i = 1 := by omega
            rcases this with rfl | rfl
            · have : zz.length ≤ 40000 := by simpa using lz
              show zz.length ≤ 160003
              omega
            · have : zz.length ≤ 160003 := by simpa using lz
              show zz.length ≤ 640015
              omega
        · rintro σ H5 ⟨⟨o5, o9, zz, rfl, lz⟩, s5⟩
          have : zz.length ≤ 640015 := by simpa using lz
          exact ⟨_, rfl, q _ zz s5 (by omega)⟩
      refine ⟨_, rfl, _, _, rfl, rfl, (by show (0 : Int) < 12; decide), rfl, _, rfl, bb (fun g => ?_) fun g => ?_⟩
      · have g1 := V.int.inj (of_decide_eq_true g)
        have m9 := Int.emod_lt_of_pos (c / 12) (show (0 : Int) < 10 by decide)
        have m0 := Int.emod_nonneg (c / 12) (show (10 : Int) ≠ 0 by decide)
        refine ⟨_, rfl, _, rfl, pl, xs0, rfl, SqL.of e0, fun p1 n1 => ?_⟩
        refine ⟨_, rfl, _, _, rfl, rfl, ⟨by decide, by decide⟩, _, _, rfl, rfl, (by show (0 : Int) < 10; decide), c / 12 % 10, rfl, by omega, by omega, fun p2 n2 => ?_⟩
        have s16 := s15.trans (same_new (o := .lst (cutV xs0 none (some 1))) n1)
        refine lc_range (lo := 0) (n := (c / 12 % 10).toNat) (fun i H' => Same (upd H4 p1 (.lst (cutV xs0 none (some 1)))) H' ∧ H' p2 = some (.lst (List.replicate i (V.str "tablet Z zzzz 3")))) ⟨same_new n2, upd_same⟩ (fun i H' hi h => ?_) fun H' h => ?_
        · refine ⟨rfl, ?_⟩
          refine ⟨_, h.2, small_line (by rw [List.length_replicate]; omega), same_put h.1 n2, ?_⟩
          rw [List.replicate_succ']
          exact upd_same
        · obtain ⟨h1, h2⟩ := h
          have bC := (B0.cut none (some 1)).app (rep_b (c / 12 % 10).toNat)
          have lC := bC.len
          refine ⟨p1, p2, _, _, rfl, rfl, h1 _ _ upd_same, h2, (by rw [List.length_append] at lC; rw [sizeLine_eq]; omega), fun p3 n3 => ?_⟩
          have sF := (s16.trans h1).trans (same_new (o := .lst (cutV xs0 none (some 1) ++ List.replicate (c / 12 % 10).toNat (V.str "tablet Z zzzz 3"))) n3)
          obtain ⟨ysF, hF, bF⟩ := bC.le (m := 40000) (by omega)
          refine ⟨⟨_, rfl⟩, _, rfl, _, p3, ysF, rfl, rfl, .inl (SqL.of (upd_same.trans (congrArg (fun l => some (HO.lst l)) hF))), (by unfold Bnd at bF; show (ysF.map Str.length).sum + ysF.length * 1 ≤ 16777216; omega), ?_⟩
          have jF := join_len1 "\n" rfl ysF
          have jF' : (Txt.join "\n" ysF).length ≤ 40000 := by unfold Bnd at bF; omega
          refine ⟨11, 13, rfl, by decide, for_range (lo := 11) (n := 2) (fun i σ H' => (∃ (o5 o9 : Option V) (zz : Str), σ = [some (V.ref b), some (V.ref xa), some (V.int mo), some (V.ref d1), some (V.ref pd), o5, some (V.int c), some (V.ref p3), some (V.int (t : Nat)), o9, some (V.str zz)] ∧ zz.length ≤ (if i = 0 then 40000 else if i = 1 then 160003 else 640015)) ∧ Same H H') ⟨⟨_, _, _, rfl, by simpa using jF'⟩, sF⟩ ?_ ?_⟩
          · rintro i σ H5 hi ⟨⟨o5, o9, zz, rfl, lz⟩, s5⟩
            have e11 : ((11 : Int) + (i : Int)) = ((11 + i : Nat) : Int) := by omega
            refine ⟨_, rfl, _, rfl, .ref b, ns, 11 + i, congrArg (fun t : Int => [V.ref b, V.int t]) e11, sc s5, by omega, fun k => ⟨_, _, rfl, rfl, (by show (0 : Int) < 3; decide), rfl, _, rfl, bb (fun g => ?_) fun g => ?_⟩⟩
            · refine ⟨_, rfl, _, rfl, _, rfl, .ref b, ns, 11 + i, congrArg (fun t : Int => [V.ref b, V.int t]) e11, sc s5, by omega, fun k2 => ⟨_, _, rfl, rfl, ⟨by decide, by decide⟩, zz, k2 / 3, rfl, (by split at lz <;> (try split at lz) <;> omega), fun z' hz' => ⟨⟨_, _, _, rfl, ?_⟩, s5⟩⟩⟩
              have : i = 0 ∨ i = 1 := by omega
              rcases this with rfl | rfl
              · have : zz.length ≤ 40000 := by simpa using lz
                show z'.length ≤ 160003
                omega
              · have : zz.length ≤ 160003 := by simpa using lz
                show z'.length ≤ 640015
                omega
            · refine ⟨⟨_, _, _, rfl, ?_⟩, s5⟩
              have : i = 0 ∨ i = 1 := by omega
              rcases this with rfl | rfl
              · have : zz.length ≤ 40000 := by simpa using lz
                show zz.length ≤ 160003
                omega
              · have : zz.length ≤ 160003 := by simpa using lz
                show zz.length ≤ 640015
                omega
          · rintro σ H5 ⟨⟨o5, o9, zz, rfl, lz⟩, s5⟩
            have : zz.length ≤ 640015 := by simpa using lz
            exact ⟨_, rfl, q _ zz s5 (by omega)⟩
      have sF := s15
      have eF := e0
      obtain ⟨ysF, hF, bF⟩ := B0.le (m := 40000) (by omega)
      have eF := eF.trans (congrArg (fun l => some (HO.lst l)) hF)
      refine ⟨⟨_, rfl⟩, _, rfl, _, pl, ysF, rfl, rfl, .inl (SqL.of eF), (by unfold Bnd at bF; show (ysF.map Str.length).sum + ysF.length * 1 ≤ 16777216; omega), ?_⟩
      have jF := join_len1 "\n" rfl ysF
      have jF' : (Txt.join "\n" ysF).length ≤ 40000 := by unfold Bnd at bF; omega
      refine ⟨11, 13, rfl, by decide, for_range (lo := 11) (n := 2) (fun i σ H' => (∃ (o5 o9 : Option V) (zz : Str), σ = [some (V.ref b), some (V.ref xa), some (V.int mo), some (V.ref d1), some (V.ref pd), o5, some (V.int c), some (V.ref pl), some (V.int (t : Nat)), o9, some (V.str zz)] ∧ zz.length ≤ (if i = 0 then 40000 else if i = 1 then 160003 else 640015)) ∧ Same H H') ⟨⟨_, _, _, rfl, by simpa using jF'⟩, sF⟩ ?_ ?_⟩
      · rintro i σ H5 hi ⟨⟨o5, o9, zz, rfl, lz⟩, s5⟩
        have e11 : ((11 : Int) + (i : Int)) = ((11 + i : Nat) : Int) := by omega
        refine ⟨_, rfl, _, rfl, .ref b, ns, 11 + i, congrArg (fun t : Int => [V.ref b, V.int t]) e11, sc s5, by omega, fun k => ⟨_, _, rfl, rfl, (by show (0 : Int) < 3; decide), rfl, _, rfl, bb (fun g => ?_) fun g => ?_⟩⟩
        · refine ⟨_, rfl, _, rfl, _, rfl, .ref b, ns, 11 + i, congrArg (fun t : Int => [V.ref b, V.int t]) e11, sc s5, by omega, fun k2 => ⟨_, _, rfl, rfl, ⟨by decide, by decide⟩, zz, k2 / 3, rfl, (by split at lz <;> (try split at lz) <;> omega), fun z' hz' => ⟨⟨_, _, _, rfl, ?_⟩, s5⟩⟩⟩
          have : i = 0 ∨ i = 1 := by omega
          rcases this with rfl | rfl
          · have : zz.length ≤ 40000 := by simpa using lz
            show z'.length ≤ 160003
            omega
          · have : zz.length ≤ 160003 := by simpa using lz
            show z'.length ≤ 640015
            omega
        · refine ⟨⟨_, _, _, rfl, ?_⟩, s5⟩
          have : i = 0 ∨ i = 1 := by omega
          rcases this with rfl | rfl
          · have : zz.length ≤ 40000 := by simpa using lz
            show zz.length ≤ 160003
            omega
          · have : zz.length ≤ 160003 := by simpa using lz
            show zz.length ≤ 640015
            omega
      · rintro σ H5 ⟨⟨o5, o9, zz, rfl, lz⟩, s5⟩
        have : zz.length ≤ 640015 := by simpa using lz
        exact ⟨_, rfl, q _ zz s5 (by omega)⟩

theorem has__law_built {P : Program} {w : World} {K : PySem.W.Frag} {mg : Str → Option Value} {base : Heap} (T : Tx K mg) : Has P w K mg base CX0 6 "_law_built" ["_law_script"] (sp_l_built K) := ok_l_built T
theorem ok_do_line {P : Program} {w : World} {K : PySem.W.Frag} {mg : Str → Option Value} {base : Heap} (T : Tx K mg) : Has P w K mg base (CX3 P w) 7 "do_line" ["loom", "words"] (sp_do_line K) := by
  refine T.d_do_line.has sc_do_line (fun vs H Q E h => ?_) (fun f cdv A outer s H vs Q E hr h => ?_)
  · obtain ⟨_, _, _, _, _, rfl, _⟩ := h
    rfl
  · obtain ⟨p, m, G0, v, x, rfl, hl, hok, hv, hsz, q1, q0⟩ := h
    refine ⟨_, (pss_cons (ps_if (pt_cmpR op_ne (pe_callB call_len_seq (by rfl) T.m_len PySem.boot_len (pa_cons (pv 1) pa_nil)) pe_int (nomark _)) (pss_one (L2N.ps_raise rfl (takes3_of rfl rfl rfl rfl).n (pm_own T.e_BadText (by rfl)))) pss_nil) (pss_one (ps_try3 (X := (cxOf (CX3 P w) P w K mg base N_do_line "do_line" (defScope s_do_line) f cdv A outer s H E)) rfl rfl (caught_four (nm_of T.e_BadRow (by rfl)) (nm_of T.e_NoTablet (by rfl)) (nm_of T.e_SpoolDry (by rfl)) (nm_of T.e_TooTight (by rfl))) (fun hd => L2H.passesAt_of rfl hd) (takes3_of rfl rfl rfl rfl) (fun W pn xe tk _ => pss_one (ps_if (pt_cmpR op_eq (pe_ix (r := rIxL K) ix_list (pv 1) pe_int (fun _ _ => rfl)) pe_str (nomark _)) (pss_one (ps_expr (pe_hasMS (X := (cxOf (CX3 P w) P w K mg base N_do_line "do_line" (defScope s_do_line) f cdv A outer s H E).tr pn xe) (K := K) rfl (hasM_weave T) (hr.mono (by decide)) (fun σ => L2N.passAt tk σ) (pv 0) (pa_cons (pe_ix (r := rIxL K) ix_list (pv 1) pe_int (fun _ _ => rfl)) pa_nil)))) (pss_one (ps_if (pt_cmpR op_eq (pe_ix (r := rIxL K) ix_list (pv 1) pe_int (fun _ _ => rfl)) pe_str (nomark _)) (pss_one (ps_expr (pe_hasMS (X := (cxOf (CX3 P w) P w K mg base N_do_line "do_line" (defScope s_do_line) f cdv A outer s H E).tr pn xe) (K := K) rfl (hasM_flip T) (hr.mono (by decide)) (fun σ => L2N.passAt tk σ) (pv 0) (pa_cons (pe_hasS (X := (cxOf (CX3 P w) P w K mg base N_do_line "do_line" (defScope s_do_line) f cdv A outer s H E).tr pn xe) (has_number_of T) (hr.mono (by decide)) (by rfl) (fun σ => L2N.passAt tk σ) (pa_cons (pe_ix (r := rIxL K) ix_list (pv 1) pe_int (fun _ _ => rfl)) pa_nil)) pa_nil)))) (pss_one (L2N.ps_raise rfl tk (te_own (K := K) rfl (pm_own (X := (cxOf (CX3 P w) P w K mg base N_do_line "do_line" (defScope s_do_line) f cdv A outer s H E).tr pn xe) (x := "BadText") T.e_BadText (by rfl))))))))) (fun a oe cls d pn hz hf tk3 hot => pss_one (ps_raise3 (te := fun _ H Q => Q (.ref (He.ga K "BadText")) none H) hot tk3 (pm5_own (X := L2H.suiteX (cxOf (CX3 P w) P w K mg base N_do_line "do_line" (defScope s_do_line) f cdv A outer s H E) a ((a, oe) :: pn)) (x := "BadText") T.e_BadText (by rfl))))))), ?_⟩
    obtain ⟨b, rfl, sb⟩ := dp_strs hv
    have bad : lineM m.most m.last x = none → ∀ {H2 : Hp}, Same H H2 → E (.ref (He.ga K "BadText")) none H2 := fun e _ s => q0 e _ s
    have hl0 := hl
    obtain ⟨G, dx, ad, asp, ado, ast, aun, hlg⟩ := hl
    have h16 : ∀ {z : Str}, z.length ≤ 1000000 → z.length ≤ sizeLine := fun h => by rw [sizeLine_eq]; omega
    have four_t : ∀ y ∈ four, PySem.W.exmAny K (.ref (He.ga K y)) [.ref (He.ga K "BadRow"), .ref (He.ga K "NoTablet"), .ref (He.ga K "SpoolDry"), .ref (He.ga K "TooTight")] = some true := by
      intro y hy
      have m5 : ∀ y ∈ four, y ∈ five := by decide +kernel
      have e1 := T.ex y (m5 y hy) "BadRow" (by decide +kernel)
      have e2 := T.ex y (m5 y hy) "NoTablet" (by decide +kernel)
      have e3 := T.ex y (m5 y hy) "SpoolDry" (by decide +kernel)
      have e4 := T.ex y (m5 y hy) "TooTight" (by decide +kernel)
      simp only [PySem.W.exmAny, e1, e2, e3, e4]
      have fin : ∀ y ∈ four, (decide (y = "BadRow") || (decide (y = "NoTablet") || (decide (y = "SpoolDry") || (decide (y = "TooTight") || false)))) = true := by decide +kernel
      exact congrArg some (fin y hy)
    have four_f : PySem.W.exmAny K (.ref (He.ga K "BadText")) [.ref (He.ga K "BadRow"), .ref (He.ga K "NoTablet"), .ref (He.ga K "SpoolDry"), .ref (He.ga K "TooTight")] = some false := by
      simp only [PySem.W.exmAny, T.ey "BadRow" (by decide +kernel), T.ey "NoTablet" (by decide +kernel), T.ey "SpoolDry" (by decide +kernel), T.ey "TooTight" (by decide +kernel), Bool.or_false]
    refine ⟨_, rfl, b, _, rfl, .inl sb, rfl, _, rfl, bb (fun k => ?_) fun k => ?_⟩
    · rw [dec_i, Bool.not_eq_true', decide_eq_false_iff_not] at k
      exact bad (lineM_len (fun z => k (by rw [List.length_map, z]; rfl))) (Same.refl _)
    rw [dec_i, Bool.not_eq_false', decide_eq_true_eq, List.length_map] at k
    obtain ⟨w0, w1, rfl⟩ := two_ (show x.length = 2 by omega)
    have z1 := hsz w1 (by simp)
    refine ⟨_, rfl, b, _, _, _, rfl, rfl, sb, atI_nat (j := 0) (v := V.str w0) rfl, rfl, _, rfl, bb (fun g => ?_) fun g => ?_⟩
    · rw [dec_str] at g
      have e0 : w0 = "row" := of_decide_eq_true g
      have lm : lineM m.most m.last [w0, w1] = (rowP m.most m.last w1).map fun s' => (.row w1, s') := if_pos e0
      refine ⟨_, rfl, p, _, _, rfl, hlg.ins, rfl, _, rfl, b, _, _, _, rfl, rfl, sb, atI_nat (j := 1) (v := V.str w1) rfl, p, m, G0, w1, rfl, hl0, hok, h16 z1, fun s' hs H2 u hl2 => ?_, fun hn y hy H2 s2 => ?_⟩
      · exact q1 _ _ (by rw [lm, hs]; rfl) H2 .non hl2
      · exact ⟨true, four_t y hy, fun _ a na => bad (by rw [lm, hn]; rfl) s2, fun z => Bool.noConfusion z⟩
    rw [dec_str] at g
    have n0 : ¬ w0 = "row" := of_decide_eq_false g
    refine ⟨_, rfl, b, _, _, _, rfl, rfl, sb, atI_nat (j := 0) (v := V.str w0) rfl, rfl, _, rfl, bb (fun g2 => ?_) fun g2 => ?_⟩
    · rw [dec_str] at g2
      have e1 : w0 = "flip" := of_decide_eq_true g2
      have lm : lineM m.most m.last [w0, w1] = (num w1).bind fun n => if n < m.last.cards.length then some (.flip n.toNat, flipP m.last n.toNat) else none := (if_neg n0).trans (if_pos e1)
      refine ⟨_, rfl, p, _, _, rfl, hlg.ins, rfl, _, rfl, b, _, _, _, rfl, rfl, sb, atI_nat (j := 1) (v := V.str w1) rfl, w1, rfl, h16 z1, fun n hn => ?_, fun hn H2 s2 => ?_⟩
      · obtain ⟨_, _, _, n0⟩ := num_some hn
        obtain ⟨k2, rfl⟩ := Int.eq_ofNat_of_zero_le n0
        have dn : m.last.cards.length = m.draft.length := hok.dn _ (List.mem_of_getElem? (last_get (d := ⟨[], [], [], []⟩) (lm_ne hok)))
        refine ⟨p, m, G0, k2, rfl, hl0, hok, fun hk H2 u hl2 => ?_, fun hk y hy H2 s2 => ?_⟩
        · refine q1 (.flip k2) (flipP m.last k2) ?_ H2 .non hl2
          rw [lm, hn]
          exact if_pos (by rw [dn]; omega)
        · refine ⟨true, four_t y hy, fun _ a na => bad ?_ s2, fun z => Bool.noConfusion z⟩
          rw [lm, hn]
          exact if_neg (by rw [dn]; omega)
      · exact ⟨false, four_f, fun z => Bool.noConfusion z, fun _ => bad (by rw [lm, hn]; rfl) s2⟩
    · rw [dec_str] at g2
      have n1 : ¬ w0 = "flip" := of_decide_eq_false g2
      exact ⟨false, four_f, fun z => Bool.noConfusion z, fun _ => bad ((if_neg n0).trans (if_neg n1)) (Same.refl _)⟩

theorem has_do_line {P : Program} {w : World} {K : PySem.W.Frag} {mg : Str → Option Value} {base : Heap} (T : Tx K mg) : Has P w K mg base (CX3 P w) 7 "do_line" ["loom", "words"] (sp_do_line K) := ok_do_line T
theorem ok_brought {P : Program} {w : World} {K : PySem.W.Frag} {mg : Str → Option Value} {base : Heap} (T : Tx K mg) : Has P w K mg base (CX3 P w) 8 "brought" ["text"] (sp_brought K) := by
  refine T.d_brought.has sc_brought (fun vs H Q E h => ?_) (fun f cdv A outer s H vs Q E hr h => ?_)
  · obtain ⟨_, rfl, _⟩ := h
    rfl
  · obtain ⟨z, rfl, hz, q1, q0⟩ := h
    refine ⟨_, (pss_cons (ps_setLc (i := 1) (own := [("line", 7)]) (g := (gName 7)) (tt := tYes) rfl sc_brought.nd rfl rfl (sw_true rfl rfl rfl (by decide +kernel)) (pi_list (pe_split (pv 0) pe_str)) (blkOk_by (own := [("line", 7)]) (N := N_brought) (sc := defScope s_brought) (by decide +kernel)) (fun _ _ _ _ _ => (pg_name (i := 7) sc_brought.nd rfl (Or.inl rfl))) (fun _ _ _ _ _ => pts_nil) (fun _ _ _ _ _ => (pe_split (pv 7) pe_str))) (pss_cons (ps_if (PW.pt (pw_or (pt_cmpR op_ne (pe_callB call_len_seq (by rfl) T.m_len PySem.boot_len (pa_cons (pe_ix ix_list (pv 1) pe_int (fun _ _ => rfl)) pa_nil)) pe_int (nomark _)) (pw_or1 (pt_cmpR op_ne (pe_ix ix_list (pe_ix ix_list (pv 1) pe_int (fun _ _ => rfl)) pe_int (fun _ _ => rfl)) pe_str (nomark _))))) (pss_one (L2N.ps_raise rfl (takes3_of rfl rfl rfl rfl).n (pm_own T.e_BadText (by rfl)))) pss_nil) (pss_cons (ps_asg (pe_has (has_read_spools T) (hr.mono (by decide)) (by rfl) (passesN (takes3_of rfl rfl rfl rfl).n (fun _ _ _ _ q => q)) (pa_cons (pv 1) (pa_cons pe_int pa_nil))) (pg_tup rfl (pgs_cons (pg_name (i := 2) sc_brought.nd rfl (Or.inl rfl)) (pgs_cons (pg_name (i := 3) sc_brought.nd rfl (Or.inl rfl)) pgs_nil)))) (pss_cons (ps_asg (pe_has (has_read_draft T) (hr.mono (by decide)) (by rfl) (passes3 (takes3_of rfl rfl rfl rfl) (fun _ _ _ _ q => q)) (pa_cons (pv 1) (pa_cons (pv 3) pa_nil))) (pg_tup rfl (pgs_cons (pg_name (i := 4) sc_brought.nd rfl (Or.inl rfl)) (pgs_cons (pg_name (i := 3) sc_brought.nd rfl (Or.inl rfl)) pgs_nil)))) (pss_cons (ps_set (i := 5) sc_brought.nd rfl (Or.inl rfl) (pe_mk (mk_Loom T) (hr.mono (by decide)) (by rfl) pass0 (pa_cons (pv 4) (pa_cons (pe_has (has_number_of T) (hr.mono (by decide)) (by rfl) (passesN (takes3_of rfl rfl rfl rfl).n (fun _ _ _ _ q => q)) (pa_cons (pe_ix ix_list (pe_ix ix_list (pv 1) pe_int (fun _ _ => rfl)) pe_int (fun _ _ => rfl)) pa_nil)) (pa_cons (pv 2) pa_nil))))) (pss_cons (ps_for (passes_of rfl) rfl (pi_list (pe_slice sl_list (pv 1) (po_some (pv 3)) po_none)) (pg_name (i := 6) sc_brought.nd rfl (Or.inl rfl)) (pss_one (ps_expr (pe_has (has_do_line T) (hr.mono (by decide)) (by rfl) (passes3 (takes3_of rfl rfl rfl rfl) (fun _ _ _ _ q => q)) (pa_cons (pv 5) (pa_cons (pv 6) pa_nil)))))) (pss_one (ps_ret (pv 5))))))))), ?_⟩
    have hz2 : z.length ≤ sizeLine := by rw [sizeLine_eq]; omega
    obtain ⟨f1, f2, f3, f4⟩ := split_nl z
    refine ⟨_, rfl, ⟨_, rfl⟩, z, "\n", rfl, rfl, rfl, (by rw [sizeLine_eq]; omega), fun p1 n1 => ⟨p1, rfl, ⟨_, SqL.of upd_same⟩, fun D nD => ?_⟩⟩
    have s1 := same_new (o := .lst ((Txt.split z "\n").map V.str)) n1
    refine lc_list (K := K) (a := p1) (xs := (Txt.split z "\n").map V.str) (PvW K _ D (Txt.split z "\n")) ⟨same_new nD, .nil upd_same⟩ (fun i H' _ h => SqL.of (h.1 _ _ upd_same)) (fun i x H' hx h => ?_) fun H2 h2 => ?_
    · rw [List.getElem?_map] at hx
      obtain ⟨y, hy, rfl⟩ := Option.map_eq_some_iff.mp hx
      have yl := f4 y (List.mem_of_getElem? hy)
      refine ⟨rfl, ?_⟩
      refine ⟨_, rfl, ⟨_, rfl⟩, y, " ", rfl, rfl, rfl, (by rw [sizeLine_eq]; omega), fun p np => ?_⟩
      exact h.step nD hy (by omega) np
    obtain ⟨s2, lf⟩ := h2
    rw [List.length_map, List.take_length] at lf
    have s12 := s1.trans s2
    obtain ⟨g1, g2, g3, g4⟩ := lines_facts hz
    have hL : LinesAt K H2 (.ref D) (linesOf z) := ⟨lf.dp, g2, g3, g4⟩
    obtain ⟨acc, ea, la, da⟩ := lf.len
    rw [List.length_map, List.length_map] at la
    have dL := dpA_mono same_wo _ _ da
    cases hl0 : linesOf z with
    | nil => exact absurd hl0 g1
    | cons l0 rest =>
    have h0 : (linesOf z)[0]? = some l0 := by rw [hl0]; rfl
    obtain ⟨b0, hb0, sb0⟩ := line_at (L := linesOf z) dL h0
    have bad : readM z = none → ∀ {H3 : Hp}, Same H H3 → E (.ref (He.ga K "BadText")) none H3 := fun e _ s => q0 e _ s
    have rm : readM z = (spoolsM rest "" []).bind fun q => (draftM q.2 []).bind fun e => if e.1 = [] ∨ 8 < e.1.length then none else (loomM l0).bind fun mo => (deedsM mo (st0 e.1 q.1) e.2).map fun ds => ⟨e.1, mo, q.1, ds.map (·.1), st0 e.1 q.1 :: ds.map (·.2)⟩ := by
      unfold readM
      rw [hl0]
      rfl
    have s2e : ∀ {H3 : Hp}, Same H2 H3 → Same H H3 := fun s => s12.trans s
    have badL : loomM l0 = none → readM z = none := fun e => by
      rw [rm, e]
      cases spoolsM rest "" [] with
      | none => rfl
      | some q =>
        show (draftM q.2 []).bind _ = none
        cases draftM q.2 [] with
        | none => rfl
        | some e => exact ite_self none
    have lm2 : ¬ l0.length = 2 → loomM l0 = none := fun h => by
      match l0, h with
      | [], _ => rfl
      | [_], _ => rfl
      | [_, _], h => exact absurd rfl h
      | _ :: _ :: _ :: _, _ => rfl
    refine ⟨_, rfl, D, _, _, _, rfl, rfl, SqL.of ea, atI_nat (j := 0) hb0, b0, _, rfl, .inl sb0, rfl, _, rfl, bb (fun k => ?_) fun k => ?_⟩
    · rw [dec_i, Bool.not_eq_true', decide_eq_false_iff_not] at k
      exact iteT (bad (badL (lm2 (fun z => k (by rw [List.length_map, z]; rfl)))) s12)
    rw [dec_i, Bool.not_eq_false', decide_eq_true_eq, List.length_map] at k
    obtain ⟨w0, w1, el0⟩ := two_ (show l0.length = 2 by omega)
    subst el0
    refine ⟨_, rfl, D, _, _, _, rfl, rfl, SqL.of ea, atI_nat (j := 0) hb0, b0, _, _, _, rfl, rfl, sb0, atI_nat (j := 0) (v := V.str w0) rfl, rfl, _, rfl, bb (fun k2 => ?_) fun k2 => ?_⟩
    · rw [dec_str, Bool.not_eq_true', decide_eq_false_iff_not] at k2
      exact bad (badL (if_neg k2)) s12
    rw [dec_str, Bool.not_eq_false', decide_eq_true_eq] at k2
    have lmo : loomM [w0, w1] = num w1 := if_pos k2
    have hd1 : (linesOf z).drop 1 = rest := by rw [hl0]; rfl
    have hlen1 : 1 ≤ (linesOf z).length := by rw [hl0]; simp
    have h16 : w1.length ≤ sizeLine := by
      have := g4 [w0, w1] (by rw [hl0]; exact List.mem_cons_self) w1 (by simp)
      rw [sizeLine_eq]
      omega
    refine ⟨_, rfl, .ref D, linesOf z, 1, rfl, hL, hlen1, fun sp r1 hsp H3 t3 d3 s3 sq3 nd3 hd3 => ?_, fun e H3 s3 => bad (by rw [rm]; rw [hd1] at e; rw [e]; rfl) (s12.trans s3)⟩
    rw [hd1] at hsp
    obtain ⟨k1, a, b, a1, a2, a3, a4, _⟩ := spoolsM_ok rest "" [] sp r1 hsp sp_nil (fun k m => absurd m (by simp))
    have hr1 : (linesOf z).drop ((linesOf z).length - r1.length) = r1 := by
      rw [hl0, a1]
      have e : ([w0, w1] :: (a ++ r1)).length - r1.length = ([w0, w1] :: a).length := by simp; omega
      rw [e]
      show (([w0, w1] :: a) ++ r1).drop _ = r1
      rw [List.drop_left]
    have hlr1 : (linesOf z).length - r1.length ≤ (linesOf z).length := Nat.sub_le _ _
    refine ⟨t3, _, rfl, sq3, rfl, _, _, rfl, _, _, rfl, rfl, ?_⟩
    refine ⟨_, rfl, _, rfl, .ref D, linesOf z, (linesOf z).length - r1.length, rfl, lines_mono hL s3, hlr1, fun dr r2 hdr hn H4 t4 x4 s4 sq4 hx4 => ?_, fun e H4 s4 => bad ?_ ((s12.trans s3).trans s4)⟩
    · rw [hr1] at hdr
      obtain ⟨c1, c, d, c2, c3, c4, c5, _⟩ := draftM_ok r1 [] dr r2 hdr (fun t m => absurd m (by simp))
      have hr2 : (linesOf z).length - r2.length = ([w0, w1] :: (a ++ c)).length := by
        rw [hl0, a1, c2]
        simp
        omega
      refine ⟨t4, _, rfl, sq4, rfl, _, _, rfl, _, _, rfl, rfl, ?_⟩
      have s34 := s3.trans s4
      have ea4 := s34 _ _ ea
      have rm2 : readM z = (num w1).bind fun mo => (deedsM mo (st0 dr sp) r2).map fun ds => lmOf dr mo sp ds := by
        rw [rm, hsp]
        show (draftM r1 []).bind _ = _
        rw [hdr]
        show (if dr = [] ∨ 8 < dr.length then none else _) = _
        rw [if_neg hn, lmo]
        rfl
      refine ⟨_, rfl, _, rfl, D, _, _, _, rfl, rfl, SqL.of ea4, atI_nat (j := 0) hb0, b0, _, _, _, rfl, rfl, s34.seq sb0, atI_nat (j := 1) (v := V.str w1) rfl, w1, rfl, h16, fun mo hmo => ?_, fun e H5 s5 => bad (by rw [rm2, e]; rfl) ((s12.trans s34).trans s5)⟩
      refine ⟨_, rfl, ?_⟩
      intro x dx nx ndx nxd
      have ok0 : LmOk (lmOf dr mo sp []) := lm0_ok c1 hn k1 hmo
      have sx : Same H4 (wo (upd (upd H4 dx (.own x)) x (.ins (He.ga K "Loom") dx [])) x) := same_into ((same_new ndx).trans (same_new (by rw [upd_ne (Ne.symm nxd)]; exact nx))) nx
      have sx2 : Same H4 (upd (upd H4 dx (.own x)) x (.ins (He.ga K "Loom") dx [])) := sx.trans same_wo
      refine ⟨x, dx, x4, dr, mo, d3, sp, rfl, upd_same, dp_mono sx2 _ _ hx4, by omega, sx2 _ _ (s4 _ _ hd3), fun H5 hl5 => ⟨rfl, ?_⟩⟩
      have S5 : Same H4 H5 := by
        obtain ⟨G, _, _, _, _, _, _, hg⟩ := hl5
        exact (sx.trans hg.g0).trans hg.g
      refine ⟨_, rfl, _, rfl, _, rfl, D, _, rfl, SqL.of (S5 _ _ ea4), fun p6 n6 => ⟨p6, rfl, ⟨_, SqL.of upd_same⟩, ?_⟩⟩
      have hcut : cutV acc (some (((linesOf z).length - r2.length : Nat) : Int)) none = acc.drop ((linesOf z).length - r2.length) := cutV_from (by rw [la]; unfold linesOf; rw [List.length_map]; exact Nat.sub_le _ _)
      rw [hcut]
      have hd2 : (linesOf z).drop ((linesOf z).length - r2.length) = r2 := by
        rw [hr2, hl0, a1, c2]
        show (([w0, w1] :: (a ++ (c ++ r2))).drop _) = r2
        rw [show [w0, w1] :: (a ++ (c ++ r2)) = ([w0, w1] :: (a ++ c)) ++ r2 by simp, List.drop_left]
      have dA : DpAll K H2 (acc.drop ((linesOf z).length - r2.length)) (r2.map wD) := by
        have := dpA_drop (n := (linesOf z).length - r2.length) dL
        rw [← List.map_drop] at this
        have this2 : DpAll K H2 (acc.drop ((linesOf z).length - r2.length)) (((linesOf z).drop ((linesOf z).length - r2.length)).map wD) := this
        rw [hd2] at this2
        exact this2
      have lr2 : (acc.drop ((linesOf z).length - r2.length)).length = r2.length := by rw [dpA_len dA, List.length_map]
      have s6 := same_new (o := .lst (acc.drop ((linesOf z).length - r2.length))) n6
      have b24 : Same H2 H5 := s34.trans S5
      have hl6 := hl5
      obtain ⟨G, gdx, gad, gasp, gado, gast, gaun, hg⟩ := hl6
      obtain ⟨hg6, gw, gn, gt6⟩ := loom_grow hg s6
      have GH : Same H2 (wo3 (upd H5 p6 (.lst (acc.drop ((linesOf z).length - r2.length)))) x gado gast) := ((s34.trans sx).trans hg.g0).trans gw
      have G6 : (wo3 (upd H5 p6 (.lst (acc.drop ((linesOf z).length - r2.length)))) x gado gast) p6 = some (.lst (acc.drop ((linesOf z).length - r2.length))) := (gn p6 n6).trans upd_same
      generalize hGG : wo3 (upd H5 p6 (.lst (acc.drop ((linesOf z).length - r2.length)))) x gado gast = GG at hg6 gw gn gt6 GH G6
      have start : LoomIn K GG (upd H5 p6 (.lst (acc.drop ((linesOf z).length - r2.length)))) x (lmOf dr mo sp []) := ⟨GG, gdx, gad, gasp, gado, gast, gaun, Same.refl _, hg6.g, hg6.np, hg6.nd, hg6.ns, hg6.ne, hg6.ins, hg6.draft, hg6.spools, hg6.done, hg6.sts⟩
      have inG : ∀ {Hk : Hp} {mk : Lm}, LoomIn K GG Hk x mk → Same GG Hk := fun ⟨_, _, _, _, _, _, _, h⟩ => h.g0.trans h.g
      have mem2 : ∀ w ∈ r2, w ∈ linesOf z := fun w m => by
        rw [← hd2] at m
        exact List.mem_of_mem_drop m
      have len2 : r2.length ≤ 1000001 := by
        rw [← lr2, List.length_drop, la]
        omega
      refine for_list (xs := acc.drop ((linesOf z).length - r2.length)) (fun i σ H' => (∃ o6 o7, σ = [some (V.str z), some (V.ref D), some (V.ref d3), some (V.int ((linesOf z).length - r2.length : Nat)), some x4, some (V.ref x), o6, o7]) ∧ ∃ ds, deedsM mo (st0 dr sp) (r2.take i) = some ds ∧ LoomIn K GG H' x (lmOf dr mo sp ds) ∧ LmOk (lmOf dr mo sp ds))
        ⟨⟨_, _, rfl⟩, [], rfl, start, ok0⟩ (fun i σ H' _ ⟨_, _, _, h, _⟩ => SqL.of (inG h _ _ G6)) ?_ ?_
      · rintro i u σ H7 hu ⟨⟨o6, o7, rfl⟩, ds, hds, hin, hok⟩
        obtain ⟨dw, hdw, du⟩ := dpA_get dA hu
        rw [List.getElem?_map] at hdw
        obtain ⟨w, hw, rfl⟩ := Option.map_eq_some_iff.mp hdw
        have wz := g4 w (mem2 w (List.mem_of_getElem? hw))
        have snoc := deedsM_snoc mo _ _ w ds hds
        have tk : r2.take (i + 1) = r2.take i ++ [w] := by rw [List.take_succ, hw]; rfl
        refine ⟨_, rfl, _, rfl, x, lmOf dr mo sp ds, GG, u, w, rfl, hin, hok, dp_mono (GH.trans (inG hin)) _ _ du, wz, fun d s hs H8 u8 hin8 => ?_, fun hs H8 s8 => ?_⟩
        · have hs2 : lineM mo ((ds.map (·.2)).getLastD (st0 dr sp)) w = some (d, s) := by rw [← lmOf_last (mo := mo)]; exact hs
          have few : (lmOf dr mo sp ds).done.length < 2000000 := by
            show (ds.map (·.1)).length < _
            rw [List.length_map, deedsM_len mo _ _ ds hds, List.length_take]
            omega
          refine ⟨⟨_, _, rfl⟩, ds ++ [(d, s)], ?_, ?_, ?_⟩
          · rw [tk, snoc, hs2]
            rfl
          · rw [← lmOf_add]
            exact hin8
          · rw [← lmOf_add]
            exact (lm_add hok hs wz few).1
        · have hs2 : lineM mo ((ds.map (·.2)).getLastD (st0 dr sp)) w = none := by rw [← lmOf_last (mo := mo)]; exact hs
          refine bad ?_ ((s12.trans (GH.trans (inG hin))).trans s8)
          rw [rm2, hmo]
          show (deedsM mo (st0 dr sp) r2).map _ = none
          have f := deedsM_fail mo (r2.take (i + 1)) (r2.drop (i + 1)) (st0 dr sp) (by rw [tk, snoc, hs2]; rfl)
          rw [List.take_append_drop] at f
          rw [f]
          rfl
      · rintro σ H7 ⟨⟨o6, o7, rfl⟩, ds, hds, hin, hok⟩
        rw [lr2, List.take_length] at hds
        refine ⟨_, rfl, q1 (lmOf dr mo sp ds) (by rw [rm2, hmo]; show (deedsM mo (st0 dr sp) r2).map _ = _; rw [hds]; rfl) H7 x ?_⟩
        obtain ⟨G8, b1, b2, b3, b4, b5, b6, h8⟩ := hin
        exact ⟨G8, b1, b2, b3, b4, b5, b6, (s12.trans GH).trans h8.g0, h8.g, h8.np, h8.nd, h8.ns, h8.ne, h8.ins, h8.draft, h8.spools, h8.done, h8.sts⟩
    · rw [rm, hsp]
      show (draftM r1 []).bind _ = none
      rw [hr1] at e
      cases hdd : draftM r1 [] with
      | none => rfl
      | some q =>
        obtain ⟨dr, r2⟩ := q
        exact if_pos (e dr r2 hdd)

theorem has_brought {P : Program} {w : World} {K : PySem.W.Frag} {mg : Str → Option Value} {base : Heap} (T : Tx K mg) : Has P w K mg base (CX3 P w) 8 "brought" ["text"] (sp_brought K) := ok_brought T
theorem kinds_lc {K : PySem.W.Frag} {H HF : Hp} {a : Addr} {xs : List V} {Q : VK} {o0 o2 o3 : Option V} (hs : Same H HF) (eL : HF a = some (.lst xs)) (key : ∀ i x, xs[i]? = some x → ∃ p nm, ∃ b : Bool, x = V.ref p ∧ HF p = some (.tup [V.str nm, V.bl b]) ∧ b = decide (i = 2) ∧ (i = 2 → nm = "BadText")) (l3 : 3 ≤ xs.length)
    (q : ∀ H' v, Same H H' → Dp K H' v (.list [.str "BadText"]) → Q v H') :
    tLc (iList K (tVar 1)) (gTup K 2 (gCons (gName 2) (gCons (gName 3) gNil))) (tB (tVar 3)) (tVar 2) [2, 3] [o0, some (V.ref a), o2, o3] HF Q := by
  refine ⟨_, rfl, a, rfl, ⟨_, SqL.of eL⟩, fun D nD => ?_⟩
  refine lc_list (K := K) (a := a) (xs := xs) (fun i H' => Same HF H' ∧ H' D = some (.lst (if i ≤ 2 then [] else [V.str "BadText"]))) ⟨same_new nD, upd_same⟩ (fun i H' _ h => SqL.of (h.1 _ _ eL)) (fun i x H' hx h => ?_) fun H' h => ?_
  · obtain ⟨p, nm, b, rfl, fp, hb, hn⟩ := key i x hx
    refine ⟨p, _, rfl, SqT.of (h.1 _ _ fp), rfl, ?_⟩
    refine ⟨_, _, rfl, _, _, rfl, ?_⟩
    refine ⟨rfl, rfl, _, rfl, b, rfl, ?_⟩
    by_cases i2 : i = 2
    · subst i2
      have hb : b = true := hb
      subst hb
      rw [hn rfl]
      exact iteT ⟨_, rfl, [], h.2, (by show 0 < sizeLine; decide), same_put h.1 nD, upd_same⟩
    · rw [decide_eq_false i2] at hb
      subst hb
      refine iteF ⟨h.1, ?_⟩
      rw [h.2]
      by_cases c : i ≤ 2
      · rw [if_pos c, if_pos (by omega)]
      · rw [if_neg c, if_neg (by omega)]
  · have e := h.2
    rw [if_neg (by omega)] at e
    exact q _ _ (hs.trans h.1) (.lst (SqL.of e) (.cons (.str _) .nil))
theorem ok_l_kinds {P : Program} {w : World} {K : PySem.W.Frag} {mg : Str → Option Value} {base : Heap} (T : Tx K mg) : ∃ fd, FnK P w K mg base 1 (He.ga K "_law_kinds") fd ["_law_e"] (He.ga K "BadText") (fun a => sp_l_kinds K a) ∧ PySem.W.keepIn K (.ref (He.ga K "_law_kinds")) = true ∧ Binds K fd ["_law_e"] [] ∧ mg "_law_kinds" = some (.ref (He.ga K "_law_kinds")) := by
  obtain ⟨⟨fd, F⟩, g⟩ := T.d_l_kinds
  refine ⟨fd, fn_ofK F sc_l_kinds (fun a vs H Q E h => ?_) (fun cdv A outer s H vs Q E p c held hr h => ?_), F.kp, F.bindsN (fun _ _ _ _ _ _ us hl => match us, hl with | [_], _ => rfl), g⟩
  · obtain ⟨rfl, _⟩ := h
    rfl
  · obtain ⟨rfl, q⟩ := h
    obtain ⟨pa, po⟩ := p
    have hz : Zc (.ref (He.ga K "BadText")) none po := ⟨held.zk.1, held.zk.2.1⟩
    refine ⟨_, (pss_cons (ps_set (i := 1) sc_l_kinds.nd rfl (Or.inl rfl) (pe_lst (pa_cons (pe_tup (pa_cons pe_str (pa_cons (pe_callB (call_isK T.eb hz held.fs List.mem_cons_self) (by rfl) T.m_isinstance (by decide +kernel) (pa_cons (pv 0) (pa_cons (pe_glob (v := .ref (He.ga K "BadTablet")) (by rfl) (T.kt "BadTablet" (by decide)).2 rfl) pa_nil))) pa_nil))) (pa_cons (pe_tup (pa_cons pe_str (pa_cons (pe_callB (call_isK T.eb hz held.fs List.mem_cons_self) (by rfl) T.m_isinstance (by decide +kernel) (pa_cons (pv 0) (pa_cons (pe_glob (v := .ref (He.ga K "BadRow")) (by rfl) (T.kt "BadRow" (by decide)).2 rfl) pa_nil))) pa_nil))) pa_nil)))) (pss_cons (ps_set (i := 1) sc_l_kinds.nd rfl (Or.inl rfl) (pe_op op_cat (pv 1) (pe_lst (pa_cons (pe_tup (pa_cons pe_str (pa_cons (pe_callB (call_isK T.eb hz held.fs List.mem_cons_self) (by rfl) T.m_isinstance (by decide +kernel) (pa_cons (pv 0) (pa_cons (pe_glob (v := .ref (He.ga K "BadText")) (by rfl) (T.kt "BadText" (by decide)).2 rfl) pa_nil))) pa_nil))) (pa_cons (pe_tup (pa_cons pe_str (pa_cons (pe_callB (call_isK T.eb hz held.fs List.mem_cons_self) (by rfl) T.m_isinstance (by decide +kernel) (pa_cons (pv 0) (pa_cons (pe_glob (v := .ref (He.ga K "BadMark")) (by rfl) (T.kt "BadMark" (by decide)).2 rfl) pa_nil))) pa_nil))) pa_nil))))) (pss_cons (ps_set (i := 1) sc_l_kinds.nd rfl (Or.inl rfl) (pe_op op_cat (pv 1) (pe_lst (pa_cons (pe_tup (pa_cons pe_str (pa_cons (pe_callB (call_isK T.eb hz held.fs List.mem_cons_self) (by rfl) T.m_isinstance (by decide +kernel) (pa_cons (pv 0) (pa_cons (pe_glob (v := .ref (He.ga K "TooLong")) (by rfl) (T.kt "TooLong" (by decide)).2 rfl) pa_nil))) pa_nil))) (pa_cons (pe_tup (pa_cons pe_str (pa_cons (pe_callB (call_isK T.eb hz held.fs List.mem_cons_self) (by rfl) T.m_isinstance (by decide +kernel) (pa_cons (pv 0) (pa_cons (pe_glob (v := .ref (He.ga K "TooTight")) (by rfl) (T.kt "TooTight" (by decide)).2 rfl) pa_nil))) pa_nil))) pa_nil))))) (pss_cons (ps_set (i := 1) sc_l_kinds.nd rfl (Or.inl rfl) (pe_op op_cat (pv 1) (pe_lst (pa_cons (pe_tup (pa_cons pe_str (pa_cons (pe_callB (call_isK T.eb hz held.fs List.mem_cons_self) (by rfl) T.m_isinstance (by decide +kernel) (pa_cons (pv 0) (pa_cons (pe_glob (v := .ref (He.ga K "SpoolDry")) (by rfl) (T.kt "SpoolDry" (by decide)).2 rfl) pa_nil))) pa_nil))) (pa_cons (pe_tup (pa_cons pe_str (pa_cons (pe_callB (call_isK T.eb hz held.fs List.mem_cons_self) (by rfl) T.m_isinstance (by decide +kernel) (pa_cons (pv 0) (pa_cons (pe_glob (v := .ref (He.ga K "NoTablet")) (by rfl) (T.kt "NoTablet" (by decide)).2 rfl) pa_nil))) pa_nil))) pa_nil))))) (pss_cons (ps_set (i := 1) sc_l_kinds.nd rfl (Or.inl rfl) (pe_op op_cat (pv 1) (pe_lst (pa_cons (pe_tup (pa_cons pe_str (pa_cons (pe_callB (call_isK T.eb hz held.fs List.mem_cons_self) (by rfl) T.m_isinstance (by decide +kernel) (pa_cons (pv 0) (pa_cons (pe_glob (v := .ref (He.ga K "NothingLeft")) (by rfl) (T.kt "NothingLeft" (by decide)).2 rfl) pa_nil))) pa_nil))) (pa_cons (pe_tup (pa_cons pe_str (pa_cons (pe_callB (call_isK T.eb hz held.fs List.mem_cons_self) (by rfl) T.m_isinstance (by decide +kernel) (pa_cons (pv 0) (pa_cons (pe_glob (v := .ref (He.ga K "Unlike")) (by rfl) (T.kt "Unlike" (by decide)).2 rfl) pa_nil))) pa_nil))) pa_nil))))) (pss_cons (ps_set (i := 1) sc_l_kinds.nd rfl (Or.inl rfl) (pe_op op_cat (pv 1) (pe_lst (pa_cons (pe_tup (pa_cons pe_str (pa_cons (pe_callB (call_isK T.eb hz held.fs List.mem_cons_self) (by rfl) T.m_isinstance (by decide +kernel) (pa_cons (pv 0) (pa_cons (pe_glob (v := .ref (He.ga K "SeenThread")) (by rfl) (T.kt "SeenThread" (by decide)).2 rfl) pa_nil))) pa_nil))) (pa_cons (pe_tup (pa_cons pe_str (pa_cons (pe_callB (call_isK T.eb hz held.fs List.mem_cons_self) (by rfl) T.m_isinstance (by decide +kernel) (pa_cons (pv 0) (pa_cons (pe_glob (v := .ref (He.ga K "NoSuchWay")) (by rfl) (T.kt "NoSuchWay" (by decide)).2 rfl) pa_nil))) pa_nil))) pa_nil))))) (pss_cons (ps_set (i := 1) sc_l_kinds.nd rfl (Or.inl rfl) (pe_op op_cat (pv 1) (pe_lst (pa_cons (pe_tup (pa_cons pe_str (pa_cons (pe_callB (call_isK T.eb hz held.fs List.mem_cons_self) (by rfl) T.m_isinstance (by decide +kernel) (pa_cons (pv 0) (pa_cons (pe_glob (v := .ref (He.ga K "Barred")) (by rfl) (T.kt "Barred" (by decide)).2 rfl) pa_nil))) pa_nil))) (pa_cons (pe_tup (pa_cons pe_str (pa_cons (pe_not (pe_callB (call_isK T.eb hz held.fs List.mem_cons_self) (by rfl) T.m_isinstance (by decide +kernel) (pa_cons (pv 0) (pa_cons (pe_glob (v := .ref (He.ga K "BandError")) (by rfl) (T.kt "BandError" (by decide)).2 rfl) pa_nil)))) pa_nil))) pa_nil))))) (pss_cons (ps_set (i := 1) sc_l_kinds.nd rfl (Or.inl rfl) (pe_op op_cat (pv 1) (pe_lst (pa_cons (pe_tup (pa_cons pe_str (pa_cons (pe_not (pe_callB (call_isK T.eb hz held.fs List.mem_cons_self) (by rfl) T.m_isinstance (by decide +kernel) (pa_cons (pv 0) (pa_cons (pe_bltn (v := .ty "ValueError") (by rfl) T.m_ValueError (by decide +kernel) rfl) pa_nil)))) pa_nil))) pa_nil)))) (pss_one (ps_ret (pe_lcK (g := gTup K 2 (gCons (gName 2) (gCons (gName 3) gNil))) (own := [("_law_name", 2), ("_law_so", 3)]) (cxK_hot held) sc_l_kinds.nd (pv 1) (blkOk_by (own := [("_law_name", 2), ("_law_so", 3)]) (N := N_l_kinds) (sc := defScope s_l_kinds) (by decide +kernel)) (fun _ _ _ _ _ hot => pg_tupK hot (pgs_cons (pg_name (i := 2) sc_l_kinds.nd rfl (Or.inl rfl)) (pgs_cons (pg_name (i := 3) sc_l_kinds.nd rfl (Or.inl rfl)) pgs_nil))) (fun _ _ _ _ _ => pts_one (pt_val (pv 3))) (fun _ _ _ _ _ => pv 2)))))))))))), ?_⟩
    refine ⟨_, rfl, .ref (He.ga K "BadTablet"), .ref (He.ga K "BadTablet"), false, rfl, fun _ z => z, ((T.kt "BadTablet" (by decide)).1.trans (by decide)), (by show 2 ≤ sizeLine; decide), fun p1 n1 => ?_⟩
    refine ⟨_, rfl, .ref (He.ga K "BadRow"), .ref (He.ga K "BadRow"), false, rfl, fun _ z => z, ((T.kt "BadRow" (by decide)).1.trans (by decide)), (by show 2 ≤ sizeLine; decide), fun p2 n2 => ?_⟩
    refine ⟨(by show 2 ≤ sizeLine; decide), fun l0 m0 => ?_⟩
    refine ⟨_, rfl, _, rfl, .ref (He.ga K "BadText"), .ref (He.ga K "BadText"), true, rfl, fun _ z => z, ((T.kt "BadText" (by decide)).1.trans (by decide)), (by show 2 ≤ sizeLine; decide), fun p3 n3 => ?_⟩
    refine ⟨_, rfl, .ref (He.ga K "BadMark"), .ref (He.ga K "BadMark"), false, rfl, fun _ z => z, ((T.kt "BadMark" (by decide)).1.trans (by decide)), (by show 2 ≤ sizeLine; decide), fun p4 n4 => ?_⟩
    refine ⟨(by show 2 ≤ sizeLine; decide), fun l1 m1 => ?_⟩
    have a1 := ((same_new (o := .tup [V.str "BadText", V.bl true]) n3).trans ((same_new (o := .tup [V.str "BadMark", V.bl false]) n4).trans (same_new (o := .lst [V.ref p3, V.ref p4]) m1))) _ _ (upd_same (a := l0) (o := .lst ([V.ref p1, V.ref p2])))
    refine ⟨l0, l1, _, _, rfl, rfl, a1, upd_same, (by show 4 ≤ sizeLine; decide), fun c1 o1 => ?_⟩
    refine ⟨_, rfl, _, rfl, .ref (He.ga K "TooLong"), .ref (He.ga K "TooLong"), false, rfl, fun _ z => z, ((T.kt "TooLong" (by decide)).1.trans (by decide)), (by show 2 ≤ sizeLine; decide), fun p5 n5 => ?_⟩
    refine ⟨_, rfl, .ref (He.ga K "TooTight"), .ref (He.ga K "TooTight"), false, rfl, fun _ z => z, ((T.kt "TooTight" (by decide)).1.trans (by decide)), (by show 2 ≤ sizeLine; decide), fun p6 n6 => ?_⟩
    refine ⟨(by show 2 ≤ sizeLine; decide), fun l2 m2 => ?_⟩
    have a2 := ((same_new (o := .tup [V.str "TooLong", V.bl false]) n5).trans ((same_new (o := .tup [V.str "TooTight", V.bl false]) n6).trans (same_new (o := .lst [V.ref p5, V.ref p6]) m2))) _ _ (upd_same (a := c1) (o := .lst (([V.ref p1, V.ref p2]) ++ [V.ref p3, V.ref p4])))
    refine ⟨c1, l2, _, _, rfl, rfl, a2, upd_same, (by show 6 ≤ sizeLine; decide), fun c2 o2 => ?_⟩
    refine ⟨_, rfl, _, rfl, .ref (He.ga K "SpoolDry"), .ref (He.ga K "SpoolDry"), false, rfl, fun _ z => z, ((T.kt "SpoolDry" (by decide)).1.trans (by decide)), (by show 2 ≤ sizeLine; decide), fun p7 n7 => ?_⟩
    refine ⟨_, rfl, .ref (He.ga K "NoTablet"), .ref (He.ga K "NoTablet"), false, rfl, fun _ z => z, ((T.kt "NoTablet" (by decide)).1.trans (by decide)), (by show 2 ≤ sizeLine; decide), fun p8 n8 => ?_⟩
    refine ⟨(by show 2 ≤ sizeLine; decide), fun l3 m3 => ?_⟩
    have a3 := ((same_new (o := .tup [V.str "SpoolDry", V.bl false]) n7).trans ((same_new (o := .tup [V.str "NoTablet", V.bl false]) n8).trans (same_new (o := .lst [V.ref p7, V.ref p8]) m3))) _ _ (upd_same (a := c2) (o := .lst ((([V.ref p1, V.ref p2]) ++ [V.ref p3, V.ref p4]) ++ [V.ref p5, V.ref p6])))
    refine ⟨c2, l3, _, _, rfl, rfl, a3, upd_same, (by show 8 ≤ sizeLine; decide), fun c3 o3 => ?_⟩
    refine ⟨_, rfl, _, rfl, .ref (He.ga K "NothingLeft"), .ref (He.ga K "NothingLeft"), false, rfl, fun _ z => z, ((T.kt "NothingLeft" (by decide)).1.trans (by decide)), (by show 2 ≤ sizeLine; decide), fun p9 n9 => ?_⟩
    refine ⟨_, rfl, .ref (He.ga K "Unlike"), .ref (He.ga K "Unlike"), false, rfl, fun _ z => z, ((T.kt "Unlike" (by decide)).1.trans (by decide)), (by show 2 ≤ sizeLine; decide), fun p10 n10 => ?_⟩
    refine ⟨(by show 2 ≤ sizeLine; decide), fun l4 m4 => ?_⟩
    have a4 := ((same_new (o := .tup [V.str "NothingLeft", V.bl false]) n9).trans ((same_new (o := .tup [V.str "Unlike", V.bl false]) n10).trans (same_new (o := .lst [V.ref p9, V.ref p10]) m4))) _ _ (upd_same (a := c3) (o := .lst (((([V.ref p1, V.ref p2]) ++ [V.ref p3, V.ref p4]) ++ [V.ref p5, V.ref p6]) ++ [V.ref p7, V.ref p8])))
    refine ⟨c3, l4, _, _, rfl, rfl, a4, upd_same, (by show 10 ≤ sizeLine; decide), fun c4 o4 => ?_⟩
    refine ⟨_, rfl, _, rfl, .ref (He.ga K "SeenThread"), .ref (He.ga K "SeenThread"), false, rfl, fun _ z => z, ((T.kt "SeenThread" (by decide)).1.trans (by decide)), (by show 2 ≤ sizeLine; decide), fun p11 n11 => ?_⟩
    refine ⟨_, rfl, .ref (He.ga K "NoSuchWay"), .ref (He.ga K "NoSuchWay"), false, rfl, fun _ z => z, ((T.kt "NoSuchWay" (by decide)).1.trans (by decide)), (by show 2 ≤ sizeLine; decide), fun p12 n12 => ?_⟩
    refine ⟨(by show 2 ≤ sizeLine; decide), fun l5 m5 => ?_⟩
    have a5 := ((same_new (o := .tup [V.str "SeenThread", V.bl false]) n11).trans ((same_new (o := .tup [V.str "NoSuchWay", V.bl false]) n12).trans (same_new (o := .lst [V.ref p11, V.ref p12]) m5))) _ _ (upd_same (a := c4) (o := .lst ((((([V.ref p1, V.ref p2]) ++ [V.ref p3, V.ref p4]) ++ [V.ref p5, V.ref p6]) ++ [V.ref p7, V.ref p8]) ++ [V.ref p9, V.ref p10])))
    refine ⟨c4, l5, _, _, rfl, rfl, a5, upd_same, (by show 12 ≤ sizeLine; decide), fun c5 o5 => ?_⟩
    refine ⟨_, rfl, _, rfl, .ref (He.ga K "Barred"), .ref (He.ga K "Barred"), false, rfl, fun _ z => z, ((T.kt "Barred" (by decide)).1.trans (by decide)), (by show 2 ≤ sizeLine; decide), fun p13 n13 => ?_⟩
    refine ⟨_, rfl, .ref (He.ga K "BandError"), .ref (He.ga K "BandError"), true, rfl, fun _ z => z, ((T.kt "BandError" (by decide)).1.trans (by decide)), _, rfl, (by show 2 ≤ sizeLine; decide), fun p14 n14 => ?_⟩
    refine ⟨(by show 2 ≤ sizeLine; decide), fun l6 m6 => ?_⟩
    have a6 := ((same_new (o := .tup [V.str "Barred", V.bl false]) n13).trans ((same_new (o := .tup [V.str "no BandError", V.bl (!true)]) n14).trans (same_new (o := .lst [V.ref p13, V.ref p14]) m6))) _ _ (upd_same (a := c5) (o := .lst (((((([V.ref p1, V.ref p2]) ++ [V.ref p3, V.ref p4]) ++ [V.ref p5, V.ref p6]) ++ [V.ref p7, V.ref p8]) ++ [V.ref p9, V.ref p10]) ++ [V.ref p11, V.ref p12])))
    refine ⟨c5, l6, _, _, rfl, rfl, a6, upd_same, (by show 14 ≤ sizeLine; decide), fun c6 o6 => ?_⟩
    refine ⟨_, rfl, _, rfl, .ty "ValueError", .type "ValueError", true, rfl, fun _ z => z, T.kv, _, rfl, (by show 2 ≤ sizeLine; decide), fun p15 n15 => ?_⟩
    refine ⟨(by show 1 ≤ sizeLine; decide), fun l7 m7 => ?_⟩
    have a7 := ((same_new (o := .tup [V.str "no ValueError", V.bl (!true)]) n15).trans (same_new (o := .lst [V.ref p15]) m7)) _ _ (upd_same (a := c6) (o := .lst ((((((([V.ref p1, V.ref p2]) ++ [V.ref p3, V.ref p4]) ++ [V.ref p5, V.ref p6]) ++ [V.ref p7, V.ref p8]) ++ [V.ref p9, V.ref p10]) ++ [V.ref p11, V.ref p12]) ++ [V.ref p13, V.ref p14])))
    refine ⟨c6, l7, _, _, rfl, rfl, a7, upd_same, (by show 15 ≤ sizeLine; decide), fun c7 o7 => ?_⟩
    have w29 := same_new (o := .lst (((((((([V.ref p1, V.ref p2]) ++ [V.ref p3, V.ref p4]) ++ [V.ref p5, V.ref p6]) ++ [V.ref p7, V.ref p8]) ++ [V.ref p9, V.ref p10]) ++ [V.ref p11, V.ref p12]) ++ [V.ref p13, V.ref p14]) ++ [V.ref p15])) o7
    have w28 := (same_new (o := .lst [V.ref p15]) m7).trans w29
    have w27 := (same_new (o := .tup [V.str "no ValueError", V.bl (!true)]) n15).trans w28
    have w26 := (same_new (o := .lst ((((((([V.ref p1, V.ref p2]) ++ [V.ref p3, V.ref p4]) ++ [V.ref p5, V.ref p6]) ++ [V.ref p7, V.ref p8]) ++ [V.ref p9, V.ref p10]) ++ [V.ref p11, V.ref p12]) ++ [V.ref p13, V.ref p14])) o6).trans w27
    have w25 := (same_new (o := .lst [V.ref p13, V.ref p14]) m6).trans w26
    have w24 := (same_new (o := .tup [V.str "no BandError", V.bl (!true)]) n14).trans w25
    have w23 := (same_new (o := .tup [V.str "Barred", V.bl false]) n13).trans w24
    have w22 := (same_new (o := .lst (((((([V.ref p1, V.ref p2]) ++ [V.ref p3, V.ref p4]) ++ [V.ref p5, V.ref p6]) ++ [V.ref p7, V.ref p8]) ++ [V.ref p9, V.ref p10]) ++ [V.ref p11, V.ref p12])) o5).trans w23
    have w21 := (same_new (o := .lst [V.ref p11, V.ref p12]) m5).trans w22
    have w20 := (same_new (o := .tup [V.str "NoSuchWay", V.bl false]) n12).trans w21
    have w19 := (same_new (o := .tup [V.str "SeenThread", V.bl false]) n11).trans w20
    have w18 := (same_new (o := .lst ((((([V.ref p1, V.ref p2]) ++ [V.ref p3, V.ref p4]) ++ [V.ref p5, V.ref p6]) ++ [V.ref p7, V.ref p8]) ++ [V.ref p9, V.ref p10])) o4).trans w19
    have w17 := (same_new (o := .lst [V.ref p9, V.ref p10]) m4).trans w18
    have w16 := (same_new (o := .tup [V.str "Unlike", V.bl false]) n10).trans w17
    have w15 := (same_new (o := .tup [V.str "NothingLeft", V.bl false]) n9).trans w16
    have w14 := (same_new (o := .lst (((([V.ref p1, V.ref p2]) ++ [V.ref p3, V.ref p4]) ++ [V.ref p5, V.ref p6]) ++ [V.ref p7, V.ref p8])) o3).trans w15
    have w13 := (same_new (o := .lst [V.ref p7, V.ref p8]) m3).trans w14
    have w12 := (same_new (o := .tup [V.str "NoTablet", V.bl false]) n8).trans w13
    have w11 := (same_new (o := .tup [V.str "SpoolDry", V.bl false]) n7).trans w12
    have w10 := (same_new (o := .lst ((([V.ref p1, V.ref p2]) ++ [V.ref p3, V.ref p4]) ++ [V.ref p5, V.ref p6])) o2).trans w11
    have w9 := (same_new (o := .lst [V.ref p5, V.ref p6]) m2).trans w10
    have w8 := (same_new (o := .tup [V.str "TooTight", V.bl false]) n6).trans w9
    have w7 := (same_new (o := .tup [V.str "TooLong", V.bl false]) n5).trans w8
    have w6 := (same_new (o := .lst (([V.ref p1, V.ref p2]) ++ [V.ref p3, V.ref p4])) o1).trans w7
    have w5 := (same_new (o := .lst [V.ref p3, V.ref p4]) m1).trans w6
    have w4 := (same_new (o := .tup [V.str "BadMark", V.bl false]) n4).trans w5
    have w3 := (same_new (o := .tup [V.str "BadText", V.bl true]) n3).trans w4
    have w2 := (same_new (o := .lst [V.ref p1, V.ref p2]) m0).trans w3
    have w1 := (same_new (o := .tup [V.str "BadRow", V.bl false]) n2).trans w2
    have w0 := (same_new (o := .tup [V.str "BadTablet", V.bl false]) n1).trans w1
    have f_p1 := w1 _ _ (upd_same (a := p1) (o := .tup [V.str "BadTablet", V.bl false]))
    have f_p2 := w2 _ _ (upd_same (a := p2) (o := .tup [V.str "BadRow", V.bl false]))
    have f_p3 := w4 _ _ (upd_same (a := p3) (o := .tup [V.str "BadText", V.bl true]))
    have f_p4 := w5 _ _ (upd_same (a := p4) (o := .tup [V.str "BadMark", V.bl false]))
    have f_p5 := w8 _ _ (upd_same (a := p5) (o := .tup [V.str "TooLong", V.bl false]))
    have f_p6 := w9 _ _ (upd_same (a := p6) (o := .tup [V.str "TooTight", V.bl false]))
    have f_p7 := w12 _ _ (upd_same (a := p7) (o := .tup [V.str "SpoolDry", V.bl false]))
    have f_p8 := w13 _ _ (upd_same (a := p8) (o := .tup [V.str "NoTablet", V.bl false]))
    have f_p9 := w16 _ _ (upd_same (a := p9) (o := .tup [V.str "NothingLeft", V.bl false]))
    have f_p10 := w17 _ _ (upd_same (a := p10) (o := .tup [V.str "Unlike", V.bl false]))
    have f_p11 := w20 _ _ (upd_same (a := p11) (o := .tup [V.str "SeenThread", V.bl false]))
    have f_p12 := w21 _ _ (upd_same (a := p12) (o := .tup [V.str "NoSuchWay", V.bl false]))
    have f_p13 := w24 _ _ (upd_same (a := p13) (o := .tup [V.str "Barred", V.bl false]))
    have f_p14 := w25 _ _ (upd_same (a := p14) (o := .tup [V.str "no BandError", V.bl (!true)]))
    have f_p15 := w28 _ _ (upd_same (a := p15) (o := .tup [V.str "no ValueError", V.bl (!true)]))
    have eL := (upd_same (H := (upd (upd (upd (upd (upd (upd (upd (upd (upd (upd (upd (upd (upd (upd (upd (upd (upd (upd (upd (upd (upd (upd (upd (upd (upd (upd (upd (upd (upd H p1 (.tup [V.str "BadTablet", V.bl false])) p2 (.tup [V.str "BadRow", V.bl false])) l0 (.lst [V.ref p1, V.ref p2])) p3 (.tup [V.str "BadText", V.bl true])) p4 (.tup [V.str "BadMark", V.bl false])) l1 (.lst [V.ref p3, V.ref p4])) c1 (.lst (([V.ref p1, V.ref p2]) ++ [V.ref p3, V.ref p4]))) p5 (.tup [V.str "TooLong", V.bl false])) p6 (.tup [V.str "TooTight", V.bl false])) l2 (.lst [V.ref p5, V.ref p6])) c2 (.lst ((([V.ref p1, V.ref p2]) ++ [V.ref p3, V.ref p4]) ++ [V.ref p5, V.ref p6]))) p7 (.tup [V.str "SpoolDry", V.bl false])) p8 (.tup [V.str "NoTablet", V.bl false])) l3 (.lst [V.ref p7, V.ref p8])) c3 (.lst (((([V.ref p1, V.ref p2]) ++ [V.ref p3, V.ref p4]) ++ [V.ref p5, V.ref p6]) ++ [V.ref p7, V.ref p8]))) p9 (.tup [V.str "NothingLeft", V.bl false])) p10 (.tup [V.str "Unlike", V.bl false])) l4 (.lst [V.ref p9, V.ref p10])) c4 (.lst ((((([V.ref p1, V.ref p2]) ++ [V.ref p3, V.ref p4]) ++ [V.ref p5, V.ref p6]) ++ [V.ref p7, V.ref p8]) ++ [V.ref p9, V.ref p10]))) p11 (.tup [V.str "SeenThread", V.bl false])) p12 (.tup [V.str "NoSuchWay", V.bl false])) l5 (.lst [V.ref p11, V.ref p12])) c5 (.lst (((((([V.ref p1, V.ref p2]) ++ [V.ref p3, V.ref p4]) ++ [V.ref p5, V.ref p6]) ++ [V.ref p7, V.ref p8]) ++ [V.ref p9, V.ref p10]) ++ [V.ref p11, V.ref p12]))) p13 (.tup [V.str "Barred", V.bl false])) p14 (.tup [V.str "no BandError", V.bl (!true)])) l6 (.lst [V.ref p13, V.ref p14])) c6 (.lst ((((((([V.ref p1, V.ref p2]) ++ [V.ref p3, V.ref p4]) ++ [V.ref p5, V.ref p6]) ++ [V.ref p7, V.ref p8]) ++ [V.ref p9, V.ref p10]) ++ [V.ref p11, V.ref p12]) ++ [V.ref p13, V.ref p14]))) p15 (.tup [V.str "no ValueError", V.bl (!true)])) l7 (.lst [V.ref p15]))) (a := c7) (o := .lst (((((((([V.ref p1, V.ref p2]) ++ [V.ref p3, V.ref p4]) ++ [V.ref p5, V.ref p6]) ++ [V.ref p7, V.ref p8]) ++ [V.ref p9, V.ref p10]) ++ [V.ref p11, V.ref p12]) ++ [V.ref p13, V.ref p14]) ++ [V.ref p15])))
    have key : ∀ i x, (((((((([V.ref p1, V.ref p2]) ++ [V.ref p3, V.ref p4]) ++ [V.ref p5, V.ref p6]) ++ [V.ref p7, V.ref p8]) ++ [V.ref p9, V.ref p10]) ++ [V.ref p11, V.ref p12]) ++ [V.ref p13, V.ref p14]) ++ [V.ref p15])[i]? = some x → ∃ p nm, ∃ b : Bool, x = V.ref p ∧ (upd (upd (upd (upd (upd (upd (upd (upd (upd (upd (upd (upd (upd (upd (upd (upd (upd (upd (upd (upd (upd (upd (upd (upd (upd (upd (upd (upd (upd (upd H p1 (.tup [V.str "BadTablet", V.bl false])) p2 (.tup [V.str "BadRow", V.bl false])) l0 (.lst [V.ref p1, V.ref p2])) p3 (.tup [V.str "BadText", V.bl true])) p4 (.tup [V.str "BadMark", V.bl false])) l1 (.lst [V.ref p3, V.ref p4])) c1 (.lst (([V.ref p1, V.ref p2]) ++ [V.ref p3, V.ref p4]))) p5 (.tup [V.str "TooLong", V.bl false])) p6 (.tup [V.str "TooTight", V.bl false])) l2 (.lst [V.ref p5, V.ref p6])) c2 (.lst ((([V.ref p1, V.ref p2]) ++ [V.ref p3, V.ref p4]) ++ [V.ref p5, V.ref p6]))) p7 (.tup [V.str "SpoolDry", V.bl false])) p8 (.tup [V.str "NoTablet", V.bl false])) l3 (.lst [V.ref p7, V.ref p8])) c3 (.lst (((([V.ref p1, V.ref p2]) ++ [V.ref p3, V.ref p4]) ++ [V.ref p5, V.ref p6]) ++ [V.ref p7, V.ref p8]))) p9 (.tup [V.str "NothingLeft", V.bl false])) p10 (.tup [V.str "Unlike", V.bl false])) l4 (.lst [V.ref p9, V.ref p10])) c4 (.lst ((((([V.ref p1, V.ref p2]) ++ [V.ref p3, V.ref p4]) ++ [V.ref p5, V.ref p6]) ++ [V.ref p7, V.ref p8]) ++ [V.ref p9, V.ref p10]))) p11 (.tup [V.str "SeenThread", V.bl false])) p12 (.tup [V.str "NoSuchWay", V.bl false])) l5 (.lst [V.ref p11, V.ref p12])) c5 (.lst (((((([V.ref p1, V.ref p2]) ++ [V.ref p3, V.ref p4]) ++ [V.ref p5, V.ref p6]) ++ [V.ref p7, V.ref p8]) ++ [V.ref p9, V.ref p10]) ++ [V.ref p11, V.ref p12]))) p13 (.tup [V.str "Barred", V.bl false])) p14 (.tup [V.str "no BandError", V.bl (!true)])) l6 (.lst [V.ref p13, V.ref p14])) c6 (.lst ((((((([V.ref p1, V.ref p2]) ++ [V.ref p3, V.ref p4]) ++ [V.ref p5, V.ref p6]) ++ [V.ref p7, V.ref p8]) ++ [V.ref p9, V.ref p10]) ++ [V.ref p11, V.ref p12]) ++ [V.ref p13, V.ref p14]))) p15 (.tup [V.str "no ValueError", V.bl (!true)])) l7 (.lst [V.ref p15])) c7 (.lst (((((((([V.ref p1, V.ref p2]) ++ [V.ref p3, V.ref p4]) ++ [V.ref p5, V.ref p6]) ++ [V.ref p7, V.ref p8]) ++ [V.ref p9, V.ref p10]) ++ [V.ref p11, V.ref p12]) ++ [V.ref p13, V.ref p14]) ++ [V.ref p15]))) p = some (.tup [V.str nm, V.bl b]) ∧ b = decide (i = 2) ∧ (i = 2 → nm = "BadText") := fun i x hx => by
      have hi := (List.getElem?_eq_some_iff.mp hx).1
      have hi : i < 15 := hi
      rcases (by omega : i = 0 ∨ i = 1 ∨ i = 2 ∨ i = 3 ∨ i = 4 ∨ i = 5 ∨ i = 6 ∨ i = 7 ∨ i = 8 ∨ i = 9 ∨ i = 10 ∨ i = 11 ∨ i = 12 ∨ i = 13 ∨ i = 14) with rfl | rfl | rfl | rfl | rfl | rfl | rfl | rfl | rfl | rfl | rfl | rfl | rfl | rfl | rfl
      · exact ⟨p1, _, false, (Option.some.inj hx).symm, f_p1, by decide, fun z => absurd z (by decide)⟩
      · exact ⟨p2, _, false, (Option.some.inj hx).symm, f_p2, by decide, fun z => absurd z (by decide)⟩
      · exact ⟨p3, _, true, (Option.some.inj hx).symm, f_p3, by decide, fun z => rfl⟩
      · exact ⟨p4, _, false, (Option.some.inj hx).symm, f_p4, by decide, fun z => absurd z (by decide)⟩
      · exact ⟨p5, _, false, (Option.some.inj hx).symm, f_p5, by decide, fun z => absurd z (by decide)⟩
      · exact ⟨p6, _, false, (Option.some.inj hx).symm, f_p6, by decide, fun z => absurd z (by decide)⟩
      · exact ⟨p7, _, false, (Option.some.inj hx).symm, f_p7, by decide, fun z => absurd z (by decide)⟩
      · exact ⟨p8, _, false, (Option.some.inj hx).symm, f_p8, by decide, fun z => absurd z (by decide)⟩
      · exact ⟨p9, _, false, (Option.some.inj hx).symm, f_p9, by decide, fun z => absurd z (by decide)⟩
      · exact ⟨p10, _, false, (Option.some.inj hx).symm, f_p10, by decide, fun z => absurd z (by decide)⟩
      · exact ⟨p11, _, false, (Option.some.inj hx).symm, f_p11, by decide, fun z => absurd z (by decide)⟩
      · exact ⟨p12, _, false, (Option.some.inj hx).symm, f_p12, by decide, fun z => absurd z (by decide)⟩
      · exact ⟨p13, _, false, (Option.some.inj hx).symm, f_p13, by decide, fun z => absurd z (by decide)⟩
      · exact ⟨p14, _, (!true), (Option.some.inj hx).symm, f_p14, by decide, fun z => absurd z (by decide)⟩
      · exact ⟨p15, _, (!true), (Option.some.inj hx).symm, f_p15, by decide, fun z => absurd z (by decide)⟩
    exact kinds_lc w0 eL key (show 3 ≤ 15 by decide) q

theorem ok_l_tried {P : Program} {w : World} {K : PySem.W.Frag} {mg : Str → Option Value} {base : Heap} (T : Tx K mg) : Has P w K mg base CX0 9 "_law_tried" ["_law_text"] (sp_l_tried K) := by
  obtain ⟨fdK, FK, kpK, bK, gK⟩ := ok_l_kinds (P := P) (w := w) (base := base) T
  refine T.d_l_tried.has sc_l_tried (fun vs H Q E h => ?_) (fun f cdv A outer s H vs Q E hr h => ?_)
  · obtain ⟨_, rfl, _⟩ := h
    rfl
  · obtain ⟨z, rfl, hz, q0, q1⟩ := h
    refine ⟨_, PSs.nox (pss_cons (ps_try_as3 (X := (cxOf CX0 P w K mg base N_l_tried "_law_tried" (defScope s_l_tried) f cdv A outer s H E).nox) (i := 2) (Wout := fun _ _ _ _ => False) rfl rfl sc_l_tried.nd rfl rfl ⟨by rfl, by decide, .inl (T.kt "BandError" (by decide)).2⟩ (fun u s' x => by obtain ⟨_, _, _, _, _, _, _, _, _, _, _, _, _, _, _, _, _, _, z⟩ := x; exact z.elim) (fun W pn xe tk _ => pss_one (ps_set (i := 1) sc_l_tried.nd rfl (Or.inl rfl) (pe_hasS (X := (cxOf CX0 P w K mg base N_l_tried "_law_tried" (defScope s_l_tried) f cdv A outer s H E).nox.tr pn xe) (has_brought T) (hr.mono (by decide)) (by rfl) (fun σ => pass3At tk σ) (pa_cons (pv 0) pa_nil)))) (fun a oe cls d c pn hz hf hc => pss_one (ps_ret (pe_tup (pa_cons (pe_callK3 (X := (cxOf CX0 P w K mg base N_l_tried "_law_tried" (defScope s_l_tried) f cdv A outer s H E).nox) FK (hr.mono (by decide)) hz hf hc (by rfl) gK kpK bK (pa_cons (pv 2) pa_nil)) (pa_cons pe_non pa_nil)))))) (pss_one (ps_ret (pe_tup (pa_cons pe_non (pa_cons (pv 1) pa_nil)))))), ?_⟩
    refine ⟨_, rfl, z, rfl, hz, fun m hm H' p hl => ?_, fun hn H' s' => ?_⟩
    · refine ⟨_, rfl, (by show 2 ≤ sizeLine; decide), fun p2 n2 => ?_⟩
      exact q1 m hm _ p2 p (SqT.of upd_same) (loomIn_mono (same_new n2) hl)
    · refine ⟨true, T.ez, fun _ a na => ⟨_, rfl, rfl, rfl, rfl, fun H2 v s2 hv => ⟨(by show 2 ≤ sizeLine; decide), fun p2 n2 => ?_⟩⟩, fun z => Bool.noConfusion z⟩
      have s3 := same_new (o := .tup [v, V.non]) n2
      exact q0 hn _ p2 v ((s'.trans s2).trans s3) (SqT.of upd_same) (dp_mono s3 _ _ hv)
    

theorem has__law_tried {P : Program} {w : World} {K : PySem.W.Frag} {mg : Str → Option Value} {base : Heap} (T : Tx K mg) : Has P w K mg base CX0 9 "_law_tried" ["_law_text"] (sp_l_tried K) := ok_l_tried T
theorem ok_law {P : Program} {w : World} {K : PySem.W.Frag} {mg : Str → Option Value} {base : Heap} {f : Addr} {fd : FuncData} (T : Tx K mg) (F : FnP K "law" "law" s_law f fd) : FnOk P w K mg base CX0 10 f fd ["_law_script"] (sp_law K) := by
  refine F.ok sc_law (fun vs H Q E h => ?_) (fun cdv A outer s H vs Q E hr h => ?_)
  · obtain ⟨_, _, rfl, _⟩ := h
    rfl
  · obtain ⟨v, ns, rfl, hs, q⟩ := h
    refine ⟨_, PSs.nox ((pss_cons (ps_set (i := 1) sc_law.nd rfl (Or.inl rfl) (pe_has (has__law_built T) (hr.mono (by decide)) (by rfl) pass0 (pa_cons (pv 0) pa_nil))) (pss_cons (ps_set (i := 2) sc_law.nd rfl (Or.inl rfl) (pe_has (has__law_read T) (hr.mono (by decide)) (by rfl) pass0 (pa_cons (pv 1) pa_nil))) (pss_cons (ps_asg (pe_has (has__law_tried T) (hr.mono (by decide)) (by rfl) pass0 (pa_cons (pv 1) pa_nil)) (pg_tup rfl (pgs_cons (pg_name (i := 3) sc_law.nd rfl (Or.inl rfl)) (pgs_cons (pg_name (i := 4) sc_law.nd rfl (Or.inl rfl)) pgs_nil)))) (pss_cons (ps_if (pt_cmpR op_isN (pv 2) pe_non (nomark _)) (pss_one (ps_ret (pe_has (has__law_same T) (hr.mono (by decide)) (by rfl) pass0 (pa_cons (pv 3) (pa_cons (pe_lst (pa_cons pe_str pa_nil)) pa_nil))))) pss_nil) (pss_cons (ps_if (PW.pt (pw_or (pt_cmpR op_notN (pv 3) pe_non (nomark _)) (pw_or1 (pt_not (pt_val (pe_has (has__law_same T) (hr.mono (by decide)) (by rfl) pass0 (pa_cons (pe_has (has_told T) (hr.mono (by decide)) (by rfl) pass0 (pa_cons (pv 4) pa_nil)) (pa_cons (pv 1) pa_nil)))))))) (pss_one (ps_ret pe_bl)) pss_nil) (pss_one (ps_ret (pe_has (has__law_stands T) (hr.mono (by decide)) (by rfl) pass0 (pa_cons (pv 4) (pa_cons (pe_ix ix_tup (pv 2) pe_int (fun _ _ => rfl)) (pa_cons (pe_ix ix_tup (pv 2) pe_int (fun _ _ => rfl)) (pa_cons (pe_ix ix_tup (pv 2) pe_int (fun _ _ => rfl)) pa_nil))))))))))))), ?_⟩
    refine ⟨_, rfl, v, ns, rfl, hs, fun H1 z s1 hz => ?_⟩
    refine ⟨_, rfl, z, rfl, hz, fun hn H2 s2 => ?_, fun m hm H2 p2 st bd dn s2 sq hst hbd hdn => ?_⟩
    · refine ⟨_, rfl, z, rfl, hz, fun _ H3 p3 x s3 sq3 hx => ?_, fun m hm => by rw [hn] at hm; cases hm⟩
      refine ⟨p3, _, rfl, sq3, rfl, _, _, rfl, _, _, rfl, rfl, ?_⟩
      refine ⟨_, rfl, rfl, _, rfl, iteT ⟨_, rfl, (by show 1 ≤ sizeLine; decide), fun p4 n4 => ?_⟩⟩
      exact ⟨x, .ref p4, .list [.str "BadText"], rfl, dp_mono (same_new n4) _ _ hx, .lst (SqL.of upd_same) (.cons (.str _) .nil), rfl, fun H5 _ => q H5⟩
    · refine ⟨_, rfl, z, rfl, hz, (fun hn => by rw [hn] at hm; cases hm), fun m' hm' H3 p3 q3 sq3 hl => ?_⟩
      rw [hm] at hm'
      cases Option.some.inj hm'
      obtain ⟨l0, rest, sp, r1, dr, r2, mo, ds, k1, k2, k3, k4, k5, k6, rfl, hok, hsp, htl⟩ := readM_some hz hm
      have S3 : Same H2 H3 := by
        obtain ⟨G, _, _, _, _, _, _, hg⟩ := hl
        exact hg.g0.trans hg.g
      have bigp : ((toldL (lmOf dr mo sp ds) (sp.map (·.1))).map Str.length).sum + (toldL (lmOf dr mo sp ds) (sp.map (·.1))).length ≤ 8000000 := by
        rw [htl]
        obtain ⟨f1, f2, f3, f4⟩ := split_nl z
        have jl : (Txt.join "\n" (Txt.split z "\n")).length = z.length := by rw [f2]
        have : ∀ ys : List Str, ys ≠ [] → (ys.map Str.length).sum + ys.length = (Txt.join "\n" ys).length + 1 := by
          intro ys
          induction ys with
          | nil => intro h; exact absurd rfl h
          | cons y ys ih =>
            intro _
            cases ys with
            | nil =>
              rw [TL.len_tl, TL.join_eq, TL.tl_join]
              simp [TL.joinL, TL.len_tl]
            | cons y2 ys =>
              have h := ih (by simp)
              rw [TL.len_tl, TL.join_eq, TL.tl_join] at h ⊢
              have e1 : (TL.tl ("\n" : Str)).length = 1 := by decide +kernel
              have e2 : (TL.joinL (TL.tl "\n") ((y :: y2 :: ys).map TL.tl)).length = (TL.tl y).length + (1 + (TL.joinL (TL.tl "\n") ((y2 :: ys).map TL.tl)).length) := by
                show (TL.tl y ++ (TL.tl ("\n" : Str) ++ TL.joinL _ ((y2 :: ys).map TL.tl))).length = _
                rw [List.length_append, List.length_append, e1]
              rw [e2, List.map_cons, List.sum_cons, List.length_cons, TL.len_tl y]
              omega
        rw [this _ f1, jl]
        omega
      refine ⟨p3, _, rfl, sq3, rfl, _, _, rfl, _, _, rfl, rfl, ?_⟩
      refine ⟨_, rfl, rfl, _, rfl, iteF ⟨_, rfl, rfl, _, rfl, iteF ⟨_, rfl, q3, lmOf dr mo sp ds, H2, rfl, hl, hok, fun ks pk srt => ?_⟩⟩⟩
      have ek : ks = sp.map (·.1) := sorted_eq pk srt hsp.ord
      subst ek
      refine ⟨bigp, fun H4 s4 => ⟨_, rfl, _, _, .str z, rfl, ?_, .str z, rfl, fun H5 s5 => ⟨_, rfl, ?_⟩⟩⟩
      · rw [htl, (split_nl z).2.1]
        exact .str z
      have s25 := (S3.trans s4).trans s5
      refine ⟨_, rfl, _, rfl, p2, _, _, _, rfl, rfl, same_seqT s25 sq, atI_nat (j := 0) (v := st) rfl, _, rfl, p2, _, _, _, rfl, rfl, same_seqT s25 sq, atI_nat (j := 1) (v := bd) rfl, _, rfl, p2, _, _, _, rfl, rfl, same_seqT s25 sq, atI_nat (j := 2) (v := dn) rfl, q3, lmOf dr mo sp ds, H2, st, bd, dn, rfl, loomIn_mono (s4.trans s5) hl, hok, ?_, dp_mono s25 _ _ hbd, dp_mono s25 _ _ hdn, fun H6 _ => q H6⟩
      obtain ⟨a', m1, m2, m3, m4, e, g1, g2, g3, g4, g5⟩ := hst
      exact ⟨a', m1, m2, m3, m4, e, same_seqT s25 g1, dp_mono s25 _ _ g2, dp_mono s25 _ _ g3, dp_mono s25 _ _ g4, s25 _ _ g5⟩

end Wb
namespace Wb
open PySem PySem.Spec PyProof.Rows L2
theorem txOf {K : PySem.W.Frag} {h : Heap} {mg : Str → Option Value} (X : K.In h) (G : h.Ns mainGlobals mg) (c : He.SaysD Hd.fa Hd.fn K) (m : Hd.exB K = true) : Tx K mg := by
  have ba : ∀ {a b : Bool}, (a && b) = true → a = true ∧ b = true := fun h => (Bool.and_eq_true _ _).mp h
  obtain ⟨m1, mez⟩ := ba m
  obtain ⟨mt, m2⟩ := ba m1
  obtain ⟨mi, m3⟩ := ba m2
  obtain ⟨mkv, m4⟩ := ba m3
  obtain ⟨mk, m5⟩ := ba m4
  obtain ⟨mkt, m6⟩ := ba m5
  obtain ⟨m7, my⟩ := ba m6
  obtain ⟨mkb, mx⟩ := ba m7
  obtain ⟨i1, i⟩ := ba mi
  obtain ⟨i2, i⟩ := ba i
  obtain ⟨i3, i⟩ := ba i
  obtain ⟨i4, i⟩ := ba i
  obtain ⟨i5, i⟩ := ba i
  obtain ⟨i6, i7⟩ := ba i
  exact {
    m_len := He.free_ok X G (c.fact 77 (f := .free "len") rfl)
    m_zip := He.free_ok X G (c.fact 78 (f := .free "zip") rfl)
    m_list := He.free_ok X G (c.fact 79 (f := .free "list") rfl)
    m_dict := He.free_ok X G (c.fact 80 (f := .free "dict") rfl)
    m_enumerate := He.free_ok X G (c.fact 81 (f := .free "enumerate") rfl)
    m_abs := He.free_ok X G (c.fact 82 (f := .free "abs") rfl)
    m_max := He.free_ok X G (c.fact 83 (f := .free "max") rfl)
    m_min := He.free_ok X G (c.fact 84 (f := .free "min") rfl)
    m_int := He.free_ok X G (c.fact 85 (f := .free "int") rfl)
    m_str := He.free_ok X G (c.fact 86 (f := .free "str") rfl)
    m_isinstance := He.free_ok X G (c.fact 87 (f := .free "isinstance") rfl)
    m_range := He.free_ok X G (c.fact 88 (f := .free "range") rfl)
    m_sorted := He.free_ok X G (c.fact 89 (f := .free "sorted") rfl)
    m_bool := He.free_ok X G (c.fact 90 (f := .free "bool") rfl)
    m_tuple := He.free_ok X G (c.fact 91 (f := .free "tuple") rfl)
    m_ValueError := He.free_ok X G (c.fact 92 (f := .free "ValueError") rfl)
    g_TURNS := (He.glo_ok X G (c.fact 14 (f := .glo "TURNS") rfl))
    t_TURNS := fun H => He.tupB_ok mt H
    v_COLOURS := He.str_ok X G (c.fact 73 (f := .str "COLOURS" "abcdefghijklmnopqrstuvwxyz") rfl)
    v_FIGURES := He.str_ok X G (c.fact 74 (f := .str "FIGURES" "0123456789") rfl)
    v_MOST_FIGURES := He.int_ok X G (c.fact 75 (f := .int "MOST_FIGURES" 9) rfl)
    v_MOST_CARDS := He.int_ok X G (c.fact 76 (f := .int "MOST_CARDS" 8) rfl)
    d_is_colour := ⟨(c.def_ 0 (d := Hd.d_is_colour) rfl), (He.glo_ok X G (c.fact 15 (f := .glo "is_colour") rfl))⟩
    d_made := ⟨(c.def_ 1 (d := Hd.d_made) rfl), (He.glo_ok X G (c.fact 16 (f := .glo "made") rfl))⟩
    d_top := ⟨(c.def_ 2 (d := Hd.d_top) rfl), (He.glo_ok X G (c.fact 17 (f := .glo "top") rfl))⟩
    d_bottom := ⟨(c.def_ 3 (d := Hd.d_bottom) rfl), (He.glo_ok X G (c.fact 18 (f := .glo "bottom") rfl))⟩
    d_advance := ⟨(c.def_ 4 (d := Hd.d_advance) rfl), (He.glo_ok X G (c.fact 19 (f := .glo "advance") rfl))⟩
    d_twisting := ⟨(c.def_ 5 (d := Hd.d_twisting) rfl), (He.glo_ok X G (c.fact 20 (f := .glo "twisting") rfl))⟩
    d_turned := ⟨(c.def_ 6 (d := Hd.d_turned) rfl), (He.glo_ok X G (c.fact 21 (f := .glo "turned") rfl))⟩
    d_flipped := ⟨(c.def_ 7 (d := Hd.d_flipped) rfl), (He.glo_ok X G (c.fact 22 (f := .glo "flipped") rfl))⟩
    d_slant_of := ⟨(c.def_ 8 (d := Hd.d_slant_of) rfl), (He.glo_ok X G (c.fact 23 (f := .glo "slant_of") rfl))⟩
    d_place_of := ⟨(c.def_ 9 (d := Hd.d_place_of) rfl), (He.glo_ok X G (c.fact 24 (f := .glo "place_of") rfl))⟩
    d_pick_of := ⟨(c.def_ 10 (d := Hd.d_pick_of) rfl), (He.glo_ok X G (c.fact 25 (f := .glo "pick_of") rfl))⟩
    d_fits := ⟨(c.def_ 11 (d := Hd.d_fits) rfl), (He.glo_ok X G (c.fact 26 (f := .glo "fits") rfl))⟩
    d_taken_by := ⟨(c.def_ 12 (d := Hd.d_taken_by) rfl), (He.glo_ok X G (c.fact 27 (f := .glo "taken_by") rfl))⟩
    d_Stage_init := ⟨(c.def_ 13 (d := Hd.d_Stage_init) rfl), He.mkr_ok (c.fact 94 (f := .mkr "Stage") rfl), (He.glo_ok X G (c.fact 28 (f := .glo "Stage") rfl))⟩
    d_first_stage := ⟨(c.def_ 14 (d := Hd.d_first_stage) rfl), (He.glo_ok X G (c.fact 29 (f := .glo "first_stage") rfl))⟩
    d_twisted := ⟨(c.def_ 15 (d := Hd.d_twisted) rfl), (He.glo_ok X G (c.fact 30 (f := .glo "twisted") rfl))⟩
    d_drawn_off := ⟨(c.def_ 16 (d := Hd.d_drawn_off) rfl), (He.glo_ok X G (c.fact 31 (f := .glo "drawn_off") rfl))⟩
    d_stage_behind := ⟨(c.def_ 17 (d := Hd.d_stage_behind) rfl), (He.glo_ok X G (c.fact 32 (f := .glo "stage_behind") rfl))⟩
    d_stage_flipped := ⟨(c.def_ 18 (d := Hd.d_stage_flipped) rfl), (He.glo_ok X G (c.fact 33 (f := .glo "stage_flipped") rfl))⟩
    d_Loom_init := ⟨(c.def_ 19 (d := Hd.d_Loom_init) rfl), He.mkr_ok (c.fact 96 (f := .mkr "Loom") rfl), (He.glo_ok X G (c.fact 34 (f := .glo "Loom") rfl))⟩
    d_Loom_put_deed := ⟨(c.def_ 20 (d := Hd.d_Loom_put_deed) rfl), He.meth_ok (c.fact 107 (f := .meth "Loom" "put_deed") rfl)⟩
    d_Loom_weave := ⟨(c.def_ 21 (d := Hd.d_Loom_weave) rfl), He.meth_ok (c.fact 108 (f := .meth "Loom" "weave") rfl)⟩
    d_Loom_flip := ⟨(c.def_ 22 (d := Hd.d_Loom_flip) rfl), He.meth_ok (c.fact 109 (f := .meth "Loom" "flip") rfl)⟩
    d_Loom_tablets := ⟨(c.def_ 23 (d := Hd.d_Loom_tablets) rfl), He.meth_ok (c.fact 110 (f := .meth "Loom" "tablets") rfl)⟩
    d_Loom_band := ⟨(c.def_ 24 (d := Hd.d_Loom_band) rfl), He.meth_ok (c.fact 111 (f := .meth "Loom" "band") rfl)⟩
    d_Loom_deeds := ⟨(c.def_ 25 (d := Hd.d_Loom_deeds) rfl), He.meth_ok (c.fact 112 (f := .meth "Loom" "deeds") rfl)⟩
    d_Loom_twist := ⟨(c.def_ 26 (d := Hd.d_Loom_twist) rfl), He.meth_ok (c.fact 113 (f := .meth "Loom" "twist") rfl)⟩
    d_Loom_peak := ⟨(c.def_ 27 (d := Hd.d_Loom_peak) rfl), He.meth_ok (c.fact 114 (f := .meth "Loom" "peak") rfl)⟩
    d_Loom_rest := ⟨(c.def_ 28 (d := Hd.d_Loom_rest) rfl), He.meth_ok (c.fact 115 (f := .meth "Loom" "rest") rfl)⟩
    d_told := ⟨(c.def_ 29 (d := Hd.d_told) rfl), (He.glo_ok X G (c.fact 35 (f := .glo "told") rfl))⟩
    d_number_of := ⟨(c.def_ 30 (d := Hd.d_number_of) rfl), (He.glo_ok X G (c.fact 36 (f := .glo "number_of") rfl))⟩
    d_begun := ⟨(c.def_ 31 (d := Hd.d_begun) rfl), (He.glo_ok X G (c.fact 37 (f := .glo "begun") rfl))⟩
    d_read_spools := ⟨(c.def_ 32 (d := Hd.d_read_spools) rfl), (He.glo_ok X G (c.fact 38 (f := .glo "read_spools") rfl))⟩
    d_read_tablet := ⟨(c.def_ 33 (d := Hd.d_read_tablet) rfl), (He.glo_ok X G (c.fact 39 (f := .glo "read_tablet") rfl))⟩
    d_read_draft := ⟨(c.def_ 34 (d := Hd.d_read_draft) rfl), (He.glo_ok X G (c.fact 40 (f := .glo "read_draft") rfl))⟩
    d_do_line := ⟨(c.def_ 35 (d := Hd.d_do_line) rfl), (He.glo_ok X G (c.fact 41 (f := .glo "do_line") rfl))⟩
    d_brought := ⟨(c.def_ 36 (d := Hd.d_brought) rfl), (He.glo_ok X G (c.fact 42 (f := .glo "brought") rfl))⟩
    d_l_row := ⟨(c.def_ 37 (d := Hd.d_l_row) rfl), (He.glo_ok X G (c.fact 43 (f := .glo "_law_row") rfl))⟩
    d_l_holes := ⟨(c.def_ 38 (d := Hd.d_l_holes) rfl), (He.glo_ok X G (c.fact 44 (f := .glo "_law_holes") rfl))⟩
    d_l_card := ⟨(c.def_ 39 (d := Hd.d_l_card) rfl), (He.glo_ok X G (c.fact 45 (f := .glo "_law_card") rfl))⟩
    d_l_at := ⟨(c.def_ 40 (d := Hd.d_l_at) rfl), (He.glo_ok X G (c.fact 46 (f := .glo "_law_at") rfl))⟩
    d_l_draft := ⟨(c.def_ 41 (d := Hd.d_l_draft) rfl), (He.glo_ok X G (c.fact 47 (f := .glo "_law_draft") rfl))⟩
    d_l_spools := ⟨(c.def_ 42 (d := Hd.d_l_spools) rfl), (He.glo_ok X G (c.fact 48 (f := .glo "_law_spools") rfl))⟩
    d_l_most := ⟨(c.def_ 43 (d := Hd.d_l_most) rfl), (He.glo_ok X G (c.fact 49 (f := .glo "_law_most") rfl))⟩
    d_l_begin := ⟨(c.def_ 44 (d := Hd.d_l_begin) rfl), (He.glo_ok X G (c.fact 50 (f := .glo "_law_begin") rfl))⟩
    d_l_loom_parts := ⟨(c.def_ 45 (d := Hd.d_l_loom_parts) rfl), (He.glo_ok X G (c.fact 51 (f := .glo "_law_loom_parts") rfl))⟩
    d_l_turns := ⟨(c.def_ 46 (d := Hd.d_l_turns) rfl), (He.glo_ok X G (c.fact 52 (f := .glo "_law_turns") rfl))⟩
    d_l_sign := ⟨(c.def_ 47 (d := Hd.d_l_sign) rfl), (He.glo_ok X G (c.fact 53 (f := .glo "_law_sign") rfl))⟩
    d_l_spoil := ⟨(c.def_ 48 (d := Hd.d_l_spoil) rfl), (He.glo_ok X G (c.fact 54 (f := .glo "_law_spoil") rfl))⟩
    d_l_rowtext := ⟨(c.def_ 49 (d := Hd.d_l_rowtext) rfl), (He.glo_ok X G (c.fact 55 (f := .glo "_law_rowtext") rfl))⟩
    d_l_go := ⟨(c.def_ 50 (d := Hd.d_l_go) rfl), (He.glo_ok X G (c.fact 56 (f := .glo "_law_go") rfl))⟩
    d_l_behind := ⟨(c.def_ 51 (d := Hd.d_l_behind) rfl), (He.glo_ok X G (c.fact 57 (f := .glo "_law_behind") rfl))⟩
    d_l_twist := ⟨(c.def_ 52 (d := Hd.d_l_twist) rfl), (He.glo_ok X G (c.fact 58 (f := .glo "_law_twist") rfl))⟩
    d_l_after := ⟨(c.def_ 53 (d := Hd.d_l_after) rfl), (He.glo_ok X G (c.fact 59 (f := .glo "_law_after") rfl))⟩
    d_l_turnover := ⟨(c.def_ 54 (d := Hd.d_l_turnover) rfl), (He.glo_ok X G (c.fact 60 (f := .glo "_law_turnover") rfl))⟩
    d_l_pick := ⟨(c.def_ 55 (d := Hd.d_l_pick) rfl), (He.glo_ok X G (c.fact 61 (f := .glo "_law_pick") rfl))⟩
    d_l_same := ⟨(c.def_ 56 (d := Hd.d_l_same) rfl), (He.glo_ok X G (c.fact 62 (f := .glo "_law_same") rfl))⟩
    d_l_stands := ⟨(c.def_ 57 (d := Hd.d_l_stands) rfl), (He.glo_ok X G (c.fact 63 (f := .glo "_law_stands") rfl))⟩
    d_l_lines := ⟨(c.def_ 58 (d := Hd.d_l_lines) rfl), (He.glo_ok X G (c.fact 64 (f := .glo "_law_lines") rfl))⟩
    d_l_kinds := ⟨(c.def_ 59 (d := Hd.d_l_kinds) rfl), (He.glo_ok X G (c.fact 65 (f := .glo "_law_kinds") rfl))⟩
    d_l_number := ⟨(c.def_ 60 (d := Hd.d_l_number) rfl), (He.glo_ok X G (c.fact 66 (f := .glo "_law_number") rfl))⟩
    d_l_head := ⟨(c.def_ 61 (d := Hd.d_l_head) rfl), (He.glo_ok X G (c.fact 67 (f := .glo "_law_head") rfl))⟩
    d_l_line := ⟨(c.def_ 62 (d := Hd.d_l_line) rfl), (He.glo_ok X G (c.fact 68 (f := .glo "_law_line") rfl))⟩
    d_l_read := ⟨(c.def_ 63 (d := Hd.d_l_read) rfl), (He.glo_ok X G (c.fact 69 (f := .glo "_law_read") rfl))⟩
    d_l_built := ⟨(c.def_ 64 (d := Hd.d_l_built) rfl), (He.glo_ok X G (c.fact 70 (f := .glo "_law_built") rfl))⟩
    d_l_tried := ⟨(c.def_ 65 (d := Hd.d_l_tried) rfl), (He.glo_ok X G (c.fact 71 (f := .glo "_law_tried") rfl))⟩
    d_law := ⟨(c.def_ 66 (d := Hd.d_law) rfl), (He.glo_ok X G (c.fact 72 (f := .glo "law") rfl))⟩
    c_Stage := He.cls_ok (c.fact 93 (f := .cls "Stage") rfl)
    a_cards := He.noat_ok (c.fact 97 (f := .noat "Stage" "cards") rfl)
    a_turned_by := He.noat_ok (c.fact 98 (f := .noat "Stage" "turned_by") rfl)
    a_farthest := He.noat_ok (c.fact 99 (f := .noat "Stage" "farthest") rfl)
    a_lengths := He.noat_ok (c.fact 100 (f := .noat "Stage" "lengths") rfl)
    c_Loom := He.cls_ok (c.fact 95 (f := .cls "Loom") rfl)
    a_draft := He.noat_ok (c.fact 101 (f := .noat "Loom" "draft") rfl)
    a_most := He.noat_ok (c.fact 102 (f := .noat "Loom" "most") rfl)
    a_spools := He.noat_ok (c.fact 103 (f := .noat "Loom" "spools") rfl)
    a_stages := He.noat_ok (c.fact 104 (f := .noat "Loom" "stages") rfl)
    a_done := He.noat_ok (c.fact 105 (f := .noat "Loom" "done") rfl)
    a_undone := He.noat_ok (c.fact 106 (f := .noat "Loom" "undone") rfl)
    e_BadTablet := ⟨(He.glo_ok X G (c.fact 1 (f := .glo "BadTablet") rfl)), He.exc_ok (c.fact 116 (f := .exc "BadTablet") rfl)⟩
    e_BadRow := ⟨(He.glo_ok X G (c.fact 2 (f := .glo "BadRow") rfl)), He.exc_ok (c.fact 117 (f := .exc "BadRow") rfl)⟩
    e_BadText := ⟨(He.glo_ok X G (c.fact 3 (f := .glo "BadText") rfl)), He.exc_ok (c.fact 118 (f := .exc "BadText") rfl)⟩
    e_TooTight := ⟨(He.glo_ok X G (c.fact 6 (f := .glo "TooTight") rfl)), He.exc_ok (c.fact 119 (f := .exc "TooTight") rfl)⟩
    e_SpoolDry := ⟨(He.glo_ok X G (c.fact 7 (f := .glo "SpoolDry") rfl)), He.exc_ok (c.fact 120 (f := .exc "SpoolDry") rfl)⟩
    e_NoTablet := ⟨(He.glo_ok X G (c.fact 8 (f := .glo "NoTablet") rfl)), He.exc_ok (c.fact 121 (f := .exc "NoTablet") rfl)⟩
    kt := fun y hy => by
      have kf : ∀ y ∈ (["BadTablet", "BadRow", "BadMark", "TooLong", "TooTight", "SpoolDry", "NoTablet", "NothingLeft", "Unlike", "SeenThread", "NoSuchWay", "Barred"] : List Str), PySem.W.kitOne K (.ref (He.ga K "BadText")) (.ref (He.ga K y)) = some false := fun y hy => of_decide_eq_true (List.all_eq_true.mp mk y hy)
      rcases (show y = "BadTablet" ∨ y = "BadRow" ∨ y = "BadText" ∨ y = "BadMark" ∨ y = "TooLong" ∨ y = "TooTight" ∨ y = "SpoolDry" ∨ y = "NoTablet" ∨ y = "NothingLeft" ∨ y = "Unlike" ∨ y = "SeenThread" ∨ y = "NoSuchWay" ∨ y = "Barred" ∨ y = "BandError" from by simpa [kinds] using hy) with rfl | rfl | rfl | rfl | rfl | rfl | rfl | rfl | rfl | rfl | rfl | rfl | rfl | rfl
      · exact ⟨kf "BadTablet" (by decide), (He.glo_ok X G (c.fact 1 (f := .glo "BadTablet") rfl))⟩
      · exact ⟨kf "BadRow" (by decide), (He.glo_ok X G (c.fact 2 (f := .glo "BadRow") rfl))⟩
      · exact ⟨of_decide_eq_true mkt, (He.glo_ok X G (c.fact 3 (f := .glo "BadText") rfl))⟩
      · exact ⟨kf "BadMark" (by decide), (He.glo_ok X G (c.fact 4 (f := .glo "BadMark") rfl))⟩
      · exact ⟨kf "TooLong" (by decide), (He.glo_ok X G (c.fact 5 (f := .glo "TooLong") rfl))⟩
      · exact ⟨kf "TooTight" (by decide), (He.glo_ok X G (c.fact 6 (f := .glo "TooTight") rfl))⟩
      · exact ⟨kf "SpoolDry" (by decide), (He.glo_ok X G (c.fact 7 (f := .glo "SpoolDry") rfl))⟩
      · exact ⟨kf "NoTablet" (by decide), (He.glo_ok X G (c.fact 8 (f := .glo "NoTablet") rfl))⟩
      · exact ⟨kf "NothingLeft" (by decide), (He.glo_ok X G (c.fact 9 (f := .glo "NothingLeft") rfl))⟩
      · exact ⟨kf "Unlike" (by decide), (He.glo_ok X G (c.fact 13 (f := .glo "Unlike") rfl))⟩
      · exact ⟨kf "SeenThread" (by decide), (He.glo_ok X G (c.fact 10 (f := .glo "SeenThread") rfl))⟩
      · exact ⟨kf "NoSuchWay" (by decide), (He.glo_ok X G (c.fact 11 (f := .glo "NoSuchWay") rfl))⟩
      · exact ⟨kf "Barred" (by decide), (He.glo_ok X G (c.fact 12 (f := .glo "Barred") rfl))⟩
      · exact ⟨of_decide_eq_true mkb, (He.glo_ok X G (c.fact 0 (f := .glo "BandError") rfl))⟩
    kv := of_decide_eq_true mkv
    eb := ⟨He.eqO_ok i1, He.eqO_ok i2, (He.exc_ok (c.fact 118 (f := .exc "BadText") rfl)).2.2.1, i3, He.eqO_ok i4, He.eqO_ok i5, of_decide_eq_true i6, of_decide_eq_true i7⟩
    ex := fun x hx y hy => of_decide_eq_true (List.all_eq_true.mp (List.all_eq_true.mp mx x hx) y hy)
    ey := fun y hy => of_decide_eq_true (List.all_eq_true.mp my y hy)
    ez := of_decide_eq_true mez }
theorem facts {P : Program} {w w' : World} {K : PySem.W.Frag} {h h' : Heap} {mg : Str → Option Value} {f : Addr} (X : K.In h) (G : h.Ns mainGlobals mg) (hfa : mg ("law" : Str) = some (.ref f)) (c : He.SaysX Hd.fa Hd.fn [] [] Hd.exB w' h' K) :
    ∃ fd : FuncData, (∀ (s : Shared) (v : Value), BindsTo s fd ⟨[v], []⟩ [("_law_script", v)]) ∧ ∀ base : Heap, K.In base → base.Ns mainGlobals mg → FnOk P w K mg base CX0 10 f fd ["_law_script"] (sp_law K) := by
  have T := txOf X G c.t.d c.more
  obtain ⟨⟨fd, F⟩, g⟩ := T.d_law
  have e := hfa.symm.trans g
  cases e
  have b := FunD.bindsA (ps := ["_law_script"]) F fun _ _ _ _ _ _ us hl => match us, hl with | [_], _ => rfl
  exact ⟨fd, fun s v => b s [v] rfl, fun base _ _ => ok_law T F⟩
end Wb

theorem PySem.Challenge.cw_wornband_k50_whole_chronicles_read_holds : PySem.Challenge.rw_wornband_k50_whole_chronicles_read.Holds := by
  refine Hd.last fun w mg fa h Y G hmg => ?_
  obtain ⟨K, KX, c⟩ := Y
  obtain ⟨fd, hb, hF⟩ := Wb.facts (P := (PySem.Challenge.rw_wornband_k50_whole_chronicles_read).prog) (w := w) KX G hmg c
  exact ⟨K, fd, Wb.sp_law K, KX, hb, fun H a ns hl _ hS => ⟨.ref a, ns, rfl, ⟨.lst hS Wb.dpA_ofInts, hl⟩, fun _ => rfl⟩, hF⟩
