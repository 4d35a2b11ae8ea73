import PyProof.Rows.All
import Wide.All
import OpenK.AllK
import Wide.FinOn
import KE.KStateDown
import Lean
import HandS.ForMost
import HandS.ForExc
import HandS.Defaults
import HandS.MakeKw
import HandS.Codes
import HandS.Flow
import HandS.Style
import HandS.Wide
import HandS.FStr
import HandS.IsInst
import HandS.StrMore
import HandS.OwnEq
import HandS.TupAny
import HandS.RaiseMore
import HandS.Walk
import PyProof.AutoSeq1
import KE.KCallOwn
import HandS.More
import HandS.Head0
import HandS.Head1
import HandS.Head2
import HandS.HeadEnd
import HandS.HeadHook1
import HandS.HeadHook2
import HandS.HeadHook3
import HandS.HeadHook4
import HandS.HeadWalk
import PySem.Challenge.RW_sievemarks_k32_slips_made
set_option Elab.async false
set_option linter.all false
set_option maxRecDepth 100000
set_option maxHeartbeats 4000000
namespace T
open PySem PySem.Spec PyProof.Rows L2
def top (i : Nat) : Stmt := PySem.Challenge.pw_sievemarks_k32_slips_made.main.body.getD i (.Pass ⟨0, 0, 0, 0⟩)
abbrev s_wall : Stmt := top 0
def d_wall : He.DefD := ⟨("_wall", none), "_wall", "_wall", defArgs s_wall, defBody s_wall, defScope s_wall, [], []⟩
abbrev s_NoLetters_init : Stmt := inClass (top 3) 0
def d_NoLetters_init : He.DefD := ⟨("NoLetters", some "__init__"), "__init__", "NoLetters.__init__", defArgs s_NoLetters_init, defBody s_NoLetters_init, defScope s_NoLetters_init, [], []⟩
abbrev s_NoNumber_init : Stmt := inClass (top 4) 0
def d_NoNumber_init : He.DefD := ⟨("NoNumber", some "__init__"), "__init__", "NoNumber.__init__", defArgs s_NoNumber_init, defBody s_NoNumber_init, defScope s_NoNumber_init, [], []⟩
abbrev s_NoPoints_init : Stmt := inClass (top 5) 0
def d_NoPoints_init : He.DefD := ⟨("NoPoints", some "__init__"), "__init__", "NoPoints.__init__", defArgs s_NoPoints_init, defBody s_NoPoints_init, defScope s_NoPoints_init, [], []⟩
abbrev s_NoMakers_init : Stmt := inClass (top 6) 0
def d_NoMakers_init : He.DefD := ⟨("NoMakers", some "__init__"), "__init__", "NoMakers.__init__", defArgs s_NoMakers_init, defBody s_NoMakers_init, defScope s_NoMakers_init, [], []⟩
abbrev s_NoMaker_init : Stmt := inClass (top 7) 0
def d_NoMaker_init : He.DefD := ⟨("NoMaker", some "__init__"), "__init__", "NoMaker.__init__", defArgs s_NoMaker_init, defBody s_NoMaker_init, defScope s_NoMaker_init, [], []⟩
abbrev s_NoYear_init : Stmt := inClass (top 8) 0
def d_NoYear_init : He.DefD := ⟨("NoYear", some "__init__"), "__init__", "NoYear.__init__", defArgs s_NoYear_init, defBody s_NoYear_init, defScope s_NoYear_init, [], []⟩
abbrev s_NoCopy_init : Stmt := inClass (top 9) 0
def d_NoCopy_init : He.DefD := ⟨("NoCopy", some "__init__"), "__init__", "NoCopy.__init__", defArgs s_NoCopy_init, defBody s_NoCopy_init, defScope s_NoCopy_init, [], []⟩
abbrev s_NoText_init : Stmt := inClass (top 10) 0
def d_NoText_init : He.DefD := ⟨("NoText", some "__init__"), "__init__", "NoText.__init__", defArgs s_NoText_init, defBody s_NoText_init, defScope s_NoText_init, [], []⟩
abbrev s_NoPlace_init : Stmt := inClass (top 11) 0
def d_NoPlace_init : He.DefD := ⟨("NoPlace", some "__init__"), "__init__", "NoPlace.__init__", defArgs s_NoPlace_init, defBody s_NoPlace_init, defScope s_NoPlace_init, [], []⟩
abbrev s_NoKind_init : Stmt := inClass (top 12) 0
def d_NoKind_init : He.DefD := ⟨("NoKind", some "__init__"), "__init__", "NoKind.__init__", defArgs s_NoKind_init, defBody s_NoKind_init, defScope s_NoKind_init, [], []⟩
abbrev s_is_whole : Stmt := top 18
def d_is_whole : He.DefD := ⟨("is_whole", none), "is_whole", "is_whole", defArgs s_is_whole, defBody s_is_whole, defScope s_is_whole, [.non], []⟩
abbrev s_figures_of : Stmt := top 19
def d_figures_of : He.DefD := ⟨("figures_of", none), "figures_of", "figures_of", defArgs s_figures_of, defBody s_figures_of, defScope s_figures_of, [], []⟩
abbrev s_is_name : Stmt := top 20
def d_is_name : He.DefD := ⟨("is_name", none), "is_name", "is_name", defArgs s_is_name, defBody s_is_name, defScope s_is_name, [], []⟩
abbrev s_is_figures : Stmt := top 21
def d_is_figures : He.DefD := ⟨("is_figures", none), "is_figures", "is_figures", defArgs s_is_figures, defBody s_is_figures, defScope s_is_figures, [], []⟩
abbrev s_is_points : Stmt := top 22
def d_is_points : He.DefD := ⟨("is_points", none), "is_points", "is_points", defArgs s_is_points, defBody s_is_points, defScope s_is_points, [], []⟩
abbrev s_is_maker : Stmt := top 23
def d_is_maker : He.DefD := ⟨("is_maker", none), "is_maker", "is_maker", defArgs s_is_maker, defBody s_is_maker, defScope s_is_maker, [], []⟩
abbrev s_is_letters : Stmt := top 24
def d_is_letters : He.DefD := ⟨("is_letters", none), "is_letters", "is_letters", defArgs s_is_letters, defBody s_is_letters, defScope s_is_letters, [], []⟩
abbrev s_need_year : Stmt := top 30
def d_need_year : He.DefD := ⟨("need_year", none), "need_year", "need_year", defArgs s_need_year, defBody s_need_year, defScope s_need_year, [], []⟩
abbrev s_need_copy : Stmt := top 31
def d_need_copy : He.DefD := ⟨("need_copy", none), "need_copy", "need_copy", defArgs s_need_copy, defBody s_need_copy, defScope s_need_copy, [], []⟩
abbrev s_makers_in : Stmt := top 32
def d_makers_in : He.DefD := ⟨("makers_in", none), "makers_in", "makers_in", defArgs s_makers_in, defBody s_makers_in, defScope s_makers_in, [], []⟩
abbrev s_Mark_init : Stmt := inClass (top 33) 0
def d_Mark_init : He.DefD := ⟨("Mark", some "__init__"), "__init__", "Mark.__init__", defArgs s_Mark_init, defBody s_Mark_init, defScope s_Mark_init, [.str "", .non, .non, .non], []⟩
abbrev s_Mark_text_of : Stmt := inClass (top 33) 1
def d_Mark_text_of : He.DefD := ⟨("Mark", some "text_of"), "text_of", "Mark.text_of", defArgs s_Mark_text_of, defBody s_Mark_text_of, defScope s_Mark_text_of, [], []⟩
abbrev s_Mark_eq : Stmt := inClass (top 33) 2
def d_Mark_eq : He.DefD := ⟨("Mark", some "__eq__"), "__eq__", "Mark.__eq__", defArgs s_Mark_eq, defBody s_Mark_eq, defScope s_Mark_eq, [], []⟩
abbrev s_Mark_str : Stmt := inClass (top 33) 3
def d_Mark_str : He.DefD := ⟨("Mark", some "__str__"), "__str__", "Mark.__str__", defArgs s_Mark_str, defBody s_Mark_str, defScope s_Mark_str, [], []⟩
abbrev s_Mark_repr : Stmt := inClass (top 33) 4
def d_Mark_repr : He.DefD := ⟨("Mark", some "__repr__"), "__repr__", "Mark.__repr__", defArgs s_Mark_repr, defBody s_Mark_repr, defScope s_Mark_repr, [], []⟩
abbrev s_Mark_len : Stmt := inClass (top 33) 5
def d_Mark_len : He.DefD := ⟨("Mark", some "__len__"), "__len__", "Mark.__len__", defArgs s_Mark_len, defBody s_Mark_len, defScope s_Mark_len, [], []⟩
abbrev s_Mark_letters : Stmt := inClass (top 33) 6
def d_Mark_letters : He.DefD := ⟨("Mark", some "letters"), "letters", "Mark.letters", defArgs s_Mark_letters, defBody s_Mark_letters, defScope s_Mark_letters, [], []⟩
abbrev s_Mark_number : Stmt := inClass (top 33) 7
def d_Mark_number : He.DefD := ⟨("Mark", some "number"), "number", "Mark.number", defArgs s_Mark_number, defBody s_Mark_number, defScope s_Mark_number, [], []⟩
abbrev s_Mark_points : Stmt := inClass (top 33) 8
def d_Mark_points : He.DefD := ⟨("Mark", some "points"), "points", "Mark.points", defArgs s_Mark_points, defBody s_Mark_points, defScope s_Mark_points, [], []⟩
abbrev s_Mark_makers : Stmt := inClass (top 33) 9
def d_Mark_makers : He.DefD := ⟨("Mark", some "makers"), "makers", "Mark.makers", defArgs s_Mark_makers, defBody s_Mark_makers, defScope s_Mark_makers, [], []⟩
abbrev s_Mark_year : Stmt := inClass (top 33) 10
def d_Mark_year : He.DefD := ⟨("Mark", some "year"), "year", "Mark.year", defArgs s_Mark_year, defBody s_Mark_year, defScope s_Mark_year, [], []⟩
abbrev s_Mark_parts : Stmt := inClass (top 33) 12
def d_Mark_parts : He.DefD := ⟨("Mark", some "parts"), "parts", "Mark.parts", defArgs s_Mark_parts, defBody s_Mark_parts, defScope s_Mark_parts, [], []⟩
abbrev s_step_letters : Stmt := top 35
def d_step_letters : He.DefD := ⟨("step_letters", none), "step_letters", "step_letters", defArgs s_step_letters, defBody s_step_letters, defScope s_step_letters, [], []⟩
abbrev s_step_number : Stmt := top 36
def d_step_number : He.DefD := ⟨("step_number", none), "step_number", "step_number", defArgs s_step_number, defBody s_step_number, defScope s_step_number, [], []⟩
abbrev s_step_points : Stmt := top 37
def d_step_points : He.DefD := ⟨("step_points", none), "step_points", "step_points", defArgs s_step_points, defBody s_step_points, defScope s_step_points, [], []⟩
abbrev s_step_gap : Stmt := top 38
def d_step_gap : He.DefD := ⟨("step_gap", none), "step_gap", "step_gap", defArgs s_step_gap, defBody s_step_gap, defScope s_step_gap, [], []⟩
abbrev s_step_either : Stmt := top 39
def d_step_either : He.DefD := ⟨("step_either", none), "step_either", "step_either", defArgs s_step_either, defBody s_step_either, defScope s_step_either, [], []⟩
abbrev s_step_maker : Stmt := top 40
def d_step_maker : He.DefD := ⟨("step_maker", none), "step_maker", "step_maker", defArgs s_step_maker, defBody s_step_maker, defScope s_step_maker, [], []⟩
abbrev s_step_year : Stmt := top 41
def d_step_year : He.DefD := ⟨("step_year", none), "step_year", "step_year", defArgs s_step_year, defBody s_step_year, defScope s_step_year, [], []⟩
abbrev s_step_last : Stmt := top 42
def d_step_last : He.DefD := ⟨("step_last", none), "step_last", "step_last", defArgs s_step_last, defBody s_step_last, defScope s_step_last, [], []⟩
abbrev s_step_copy : Stmt := top 43
def d_step_copy : He.DefD := ⟨("step_copy", none), "step_copy", "step_copy", defArgs s_step_copy, defBody s_step_copy, defScope s_step_copy, [], []⟩
abbrev s_step_on : Stmt := top 45
def d_step_on : He.DefD := ⟨("step_on", none), "step_on", "step_on", defArgs s_step_on, defBody s_step_on, defScope s_step_on, [], []⟩
abbrev s_may_end : Stmt := top 46
def d_may_end : He.DefD := ⟨("may_end", none), "may_end", "may_end", defArgs s_may_end, defBody s_may_end, defScope s_may_end, [], []⟩
abbrev s_runs_out : Stmt := top 49
def d_runs_out : He.DefD := ⟨("runs_out", none), "runs_out", "runs_out", defArgs s_runs_out, defBody s_runs_out, defScope s_runs_out, [], []⟩
abbrev s_of_other : Stmt := top 50
def d_of_other : He.DefD := ⟨("of_other", none), "of_other", "of_other", defArgs s_of_other, defBody s_of_other, defScope s_of_other, [], []⟩
abbrev s_of_lost : Stmt := top 51
def d_of_lost : He.DefD := ⟨("of_lost", none), "of_lost", "of_lost", defArgs s_of_lost, defBody s_of_lost, defScope s_of_lost, [], []⟩
abbrev s_of_extra : Stmt := top 52
def d_of_extra : He.DefD := ⟨("of_extra", none), "of_extra", "of_extra", defArgs s_of_extra, defBody s_of_extra, defScope s_of_extra, [], []⟩
abbrev s_of_turned : Stmt := top 53
def d_of_turned : He.DefD := ⟨("of_turned", none), "of_turned", "of_turned", defArgs s_of_turned, defBody s_of_turned, defScope s_of_turned, [], []⟩
abbrev s_is_kind : Stmt := top 55
def d_is_kind : He.DefD := ⟨("is_kind", none), "is_kind", "is_kind", defArgs s_is_kind, defBody s_is_kind, defScope s_is_kind, [], []⟩
abbrev s_differ_at : Stmt := top 56
def d_differ_at : He.DefD := ⟨("differ_at", none), "differ_at", "differ_at", defArgs s_differ_at, defBody s_differ_at, defScope s_differ_at, [], []⟩
abbrev s_lacks_one : Stmt := top 57
def d_lacks_one : He.DefD := ⟨("lacks_one", none), "lacks_one", "lacks_one", defArgs s_lacks_one, defBody s_lacks_one, defScope s_lacks_one, [], []⟩
abbrev s_slip_kind : Stmt := top 58
def d_slip_kind : He.DefD := ⟨("slip_kind", none), "slip_kind", "slip_kind", defArgs s_slip_kind, defBody s_slip_kind, defScope s_slip_kind, [], []⟩
abbrev s_last_place : Stmt := top 59
def d_last_place : He.DefD := ⟨("last_place", none), "last_place", "last_place", defArgs s_last_place, defBody s_last_place, defScope s_last_place, [], []⟩
abbrev s_slipped : Stmt := top 60
def d_slipped : He.DefD := ⟨("slipped", none), "slipped", "slipped", defArgs s_slipped, defBody s_slipped, defScope s_slipped, [.str ""], []⟩
abbrev s_law_pool : Stmt := top 62
def d_law_pool : He.DefD := ⟨("_law_pool", none), "_law_pool", "_law_pool", defArgs s_law_pool, defBody s_law_pool, defScope s_law_pool, [], []⟩
abbrev s_law_take : Stmt := top 63
def d_law_take : He.DefD := ⟨("_law_take", none), "_law_take", "_law_take", defArgs s_law_take, defBody s_law_take, defScope s_law_take, [], []⟩
abbrev s_law_figures : Stmt := top 64
def d_law_figures : He.DefD := ⟨("_law_figures", none), "_law_figures", "_law_figures", defArgs s_law_figures, defBody s_law_figures, defScope s_law_figures, [], []⟩
abbrev s_law_maker : Stmt := top 65
def d_law_maker : He.DefD := ⟨("_law_maker", none), "_law_maker", "_law_maker", defArgs s_law_maker, defBody s_law_maker, defScope s_law_maker, [], []⟩
abbrev s_law_parts : Stmt := top 66
def d_law_parts : He.DefD := ⟨("_law_parts", none), "_law_parts", "_law_parts", defArgs s_law_parts, defBody s_law_parts, defScope s_law_parts, [], []⟩
abbrev s_law_near_word : Stmt := top 67
def d_law_near_word : He.DefD := ⟨("_law_near_word", none), "_law_near_word", "_law_near_word", defArgs s_law_near_word, defBody s_law_near_word, defScope s_law_near_word, [], []⟩
abbrev s_law_near_makers : Stmt := top 68
def d_law_near_makers : He.DefD := ⟨("_law_near_makers", none), "_law_near_makers", "_law_near_makers", defArgs s_law_near_makers, defBody s_law_near_makers, defScope s_law_near_makers, [], []⟩
abbrev s_law_near_year : Stmt := top 69
def d_law_near_year : He.DefD := ⟨("_law_near_year", none), "_law_near_year", "_law_near_year", defArgs s_law_near_year, defBody s_law_near_year, defScope s_law_near_year, [], []⟩
abbrev s_law_near_copy : Stmt := top 70
def d_law_near_copy : He.DefD := ⟨("_law_near_copy", none), "_law_near_copy", "_law_near_copy", defArgs s_law_near_copy, defBody s_law_near_copy, defScope s_law_near_copy, [], []⟩
abbrev s_law_near : Stmt := top 71
def d_law_near : He.DefD := ⟨("_law_near", none), "_law_near", "_law_near", defArgs s_law_near, defBody s_law_near, defScope s_law_near, [], []⟩
abbrev s_law_mark : Stmt := top 72
def d_law_mark : He.DefD := ⟨("_law_mark", none), "_law_mark", "_law_mark", defArgs s_law_mark, defBody s_law_mark, defScope s_law_mark, [], []⟩
abbrev s_law_text : Stmt := top 73
def d_law_text : He.DefD := ⟨("_law_text", none), "_law_text", "_law_text", defArgs s_law_text, defBody s_law_text, defScope s_law_text, [], []⟩
abbrev s_law_slip : Stmt := top 74
def d_law_slip : He.DefD := ⟨("_law_slip", none), "_law_slip", "_law_slip", defArgs s_law_slip, defBody s_law_slip, defScope s_law_slip, [], []⟩
abbrev s_law_sign : Stmt := top 75
def d_law_sign : He.DefD := ⟨("_law_sign", none), "_law_sign", "_law_sign", defArgs s_law_sign, defBody s_law_sign, defScope s_law_sign, [], []⟩
abbrev s_law_unlike : Stmt := top 76
def d_law_unlike : He.DefD := ⟨("_law_unlike", none), "_law_unlike", "_law_unlike", defArgs s_law_unlike, defBody s_law_unlike, defScope s_law_unlike, [], []⟩
abbrev s_law_made : Stmt := top 77
def d_law_made : He.DefD := ⟨("_law_made", none), "_law_made", "_law_made", defArgs s_law_made, defBody s_law_made, defScope s_law_made, [], []⟩
abbrev s_law_kind_right : Stmt := top 78
def d_law_kind_right : He.DefD := ⟨("_law_kind_right", none), "_law_kind_right", "_law_kind_right", defArgs s_law_kind_right, defBody s_law_kind_right, defScope s_law_kind_right, [], []⟩
abbrev s_law_right : Stmt := top 79
def d_law_right : He.DefD := ⟨("_law_right", none), "_law_right", "_law_right", defArgs s_law_right, defBody s_law_right, defScope s_law_right, [], []⟩
abbrev s_law : Stmt := top 80
def d_law : He.DefD := ⟨("law", none), "law", "law", defArgs s_law, defBody s_law, defScope s_law, [], []⟩
def fn : List He.DefD := ([d_is_whole, d_figures_of, d_is_name, d_is_figures, d_is_points, d_is_maker, d_is_letters, d_need_year, d_need_copy, d_makers_in, d_Mark_init, d_Mark_text_of, d_Mark_str, d_is_kind, d_differ_at, d_lacks_one, d_slip_kind, d_last_place, d_slipped, d_law_pool] : List He.DefD) ++ ([d_law_take, d_law_figures, d_law_maker, d_law_parts, d_law_near_word, d_law_near_makers, d_law_near_year, d_law_near_copy, d_law_near, d_law_mark, d_law_text, d_law_slip, d_law_sign, d_law_unlike, d_law_made, d_law_kind_right, d_law_right, d_law] : List He.DefD)
def fa : List He.Fa := ([.str "LETTERS" "abcdefghijklmnopqrstuvwxyz", .str "FIGURES" "0123456789", .int "LONGEST" 6, .int "PART" 60, .glo "is_whole", .glo "figures_of", .glo "is_name", .glo "is_figures", .glo "is_points", .glo "is_maker", .glo "is_letters", .int "MOST_MAKERS" 3, .int "FIRST_YEAR" 1000, .int "LAST_YEAR" 2999, .int "GREATEST" 9999, .glo "need_year", .glo "need_copy", .glo "makers_in", .glo "Mark", .cls "Mark"] : List He.Fa) ++ ([.mkr "Mark", .noat "Mark" "kept_copy", .noat "Mark" "kept_letters", .noat "Mark" "kept_makers", .noat "Mark" "kept_number", .noat "Mark" "kept_points", .noat "Mark" "kept_text", .noat "Mark" "kept_year", .meth "Mark" "text_of", .meth "Mark" "__str__", .glo "KINDS", .glo "is_kind", .glo "differ_at", .glo "lacks_one", .glo "slip_kind", .glo "last_place", .glo "slipped", .glo "_law_pool", .glo "_law_take", .glo "_law_figures"] : List He.Fa) ++ ([.glo "_law_maker", .glo "_law_parts", .glo "_law_near_word", .glo "_law_near_makers", .glo "_law_near_year", .glo "_law_near_copy", .glo "_law_near", .glo "_law_mark", .glo "_law_text", .glo "_law_slip", .glo "_law_sign", .glo "_law_unlike", .glo "_law_made", .glo "_law_kind_right", .glo "_law_right", .glo "law", .free "len", .free "isinstance", .free "all", .free "any"] : List He.Fa) ++ ([.free "max", .free "int", .free "str", .free "bool", .free "list", .free "tuple", .free "range", .free "divmod"] : List He.Fa)
abbrev DefP (K : PySem.W.Frag) (d : He.DefD) : Prop := ∃ fd, FunD K d.name d.qual d.params d.body d.scope (d.dvs K) (d.kws K) (He.fAd K d.at_) fd
def ts : List He.Tab := [(fun K => He.ga K "KINDS", ["other", "lost", "extra", "turned"])]
def inB (K : PySem.W.Frag) (x k : PySem.Str) : Bool := match PySem.W.nsIn K (He.ga K x) k with | some (some _) => true | _ => false
theorem inB_ok {K : PySem.W.Frag} {x k : PySem.Str} (h : inB K x k = true) : ∃ v, PySem.W.nsIn K (He.ga K x) k = some (some v) := by
  unfold inB at h
  split at h
  · rename_i v e
    exact ⟨v, e⟩
  · cases h
def keys_KINDS : List PySem.Str := ["other", "lost", "extra", "turned"]
def ex (K : PySem.W.Frag) : Bool := (keys_KINDS.all fun k => inB K "KINDS" k)
structure Txt (K : PySem.W.Frag) (mg : PySem.Str → Option Value) (w : World) : Prop where
  f_is_whole : DefP K d_is_whole
  f_figures_of : DefP K d_figures_of
  f_is_name : DefP K d_is_name
  f_is_figures : DefP K d_is_figures
  f_is_points : DefP K d_is_points
  f_is_maker : DefP K d_is_maker
  f_is_letters : DefP K d_is_letters
  f_need_year : DefP K d_need_year
  f_need_copy : DefP K d_need_copy
  f_makers_in : DefP K d_makers_in
  f_Mark_init : DefP K d_Mark_init
  f_Mark_text_of : DefP K d_Mark_text_of
  f_Mark_str : DefP K d_Mark_str
  f_is_kind : DefP K d_is_kind
  f_differ_at : DefP K d_differ_at
  f_lacks_one : DefP K d_lacks_one
  f_slip_kind : DefP K d_slip_kind
  f_last_place : DefP K d_last_place
  f_slipped : DefP K d_slipped
  f_law_pool : DefP K d_law_pool
  f_law_take : DefP K d_law_take
  f_law_figures : DefP K d_law_figures
  f_law_maker : DefP K d_law_maker
  f_law_parts : DefP K d_law_parts
  f_law_near_word : DefP K d_law_near_word
  f_law_near_makers : DefP K d_law_near_makers
  f_law_near_year : DefP K d_law_near_year
  f_law_near_copy : DefP K d_law_near_copy
  f_law_near : DefP K d_law_near
  f_law_mark : DefP K d_law_mark
  f_law_text : DefP K d_law_text
  f_law_slip : DefP K d_law_slip
  f_law_sign : DefP K d_law_sign
  f_law_unlike : DefP K d_law_unlike
  f_law_made : DefP K d_law_made
  f_law_kind_right : DefP K d_law_kind_right
  f_law_right : DefP K d_law_right
  f_law : DefP K d_law
  k_LETTERS : ∃ t, mg "LETTERS" = some (.str "abcdefghijklmnopqrstuvwxyz" t)
  k_FIGURES : ∃ t, mg "FIGURES" = some (.str "0123456789" t)
  k_LONGEST : ∃ t, mg "LONGEST" = some (.int 6 t)
  k_PART : ∃ t, mg "PART" = some (.int 60 t)
  g_is_whole : mg "is_whole" = some (.ref (He.ga K "is_whole"))
  g_figures_of : mg "figures_of" = some (.ref (He.ga K "figures_of"))
  g_is_name : mg "is_name" = some (.ref (He.ga K "is_name"))
  g_is_figures : mg "is_figures" = some (.ref (He.ga K "is_figures"))
  g_is_points : mg "is_points" = some (.ref (He.ga K "is_points"))
  g_is_maker : mg "is_maker" = some (.ref (He.ga K "is_maker"))
  g_is_letters : mg "is_letters" = some (.ref (He.ga K "is_letters"))
  k_MOST_MAKERS : ∃ t, mg "MOST_MAKERS" = some (.int 3 t)
  k_FIRST_YEAR : ∃ t, mg "FIRST_YEAR" = some (.int 1000 t)
  k_LAST_YEAR : ∃ t, mg "LAST_YEAR" = some (.int 2999 t)
  k_GREATEST : ∃ t, mg "GREATEST" = some (.int 9999 t)
  g_need_year : mg "need_year" = some (.ref (He.ga K "need_year"))
  g_need_copy : mg "need_copy" = some (.ref (He.ga K "need_copy"))
  g_makers_in : mg "makers_in" = some (.ref (He.ga K "makers_in"))
  g_Mark : mg "Mark" = some (.ref (He.ga K "Mark"))
  c_Mark : Cls K (He.ga K "Mark")
  mk_Mark : Mk K (He.ga K "Mark") (He.ma K (He.ga K "Mark") "__init__")
  n_Mark_kept_copy : NoAttr K (He.ga K "Mark") "kept_copy"
  n_Mark_kept_letters : NoAttr K (He.ga K "Mark") "kept_letters"
  n_Mark_kept_makers : NoAttr K (He.ga K "Mark") "kept_makers"
  n_Mark_kept_number : NoAttr K (He.ga K "Mark") "kept_number"
  n_Mark_kept_points : NoAttr K (He.ga K "Mark") "kept_points"
  n_Mark_kept_text : NoAttr K (He.ga K "Mark") "kept_text"
  n_Mark_kept_year : NoAttr K (He.ga K "Mark") "kept_year"
  m_Mark_text_of : Meth K (He.ga K "Mark") "text_of" (He.ma K (He.ga K "Mark") "text_of")
  m_Mark_str : Meth K (He.ga K "Mark") "__str__" (He.ma K (He.ga K "Mark") "__str__")
  g_KINDS : mg "KINDS" = some (.ref (He.ga K "KINDS"))
  g_is_kind : mg "is_kind" = some (.ref (He.ga K "is_kind"))
  g_differ_at : mg "differ_at" = some (.ref (He.ga K "differ_at"))
  g_lacks_one : mg "lacks_one" = some (.ref (He.ga K "lacks_one"))
  g_slip_kind : mg "slip_kind" = some (.ref (He.ga K "slip_kind"))
  g_last_place : mg "last_place" = some (.ref (He.ga K "last_place"))
  g_slipped : mg "slipped" = some (.ref (He.ga K "slipped"))
  g_law_pool : mg "_law_pool" = some (.ref (He.ga K "_law_pool"))
  g_law_take : mg "_law_take" = some (.ref (He.ga K "_law_take"))
  g_law_figures : mg "_law_figures" = some (.ref (He.ga K "_law_figures"))
  g_law_maker : mg "_law_maker" = some (.ref (He.ga K "_law_maker"))
  g_law_parts : mg "_law_parts" = some (.ref (He.ga K "_law_parts"))
  g_law_near_word : mg "_law_near_word" = some (.ref (He.ga K "_law_near_word"))
  g_law_near_makers : mg "_law_near_makers" = some (.ref (He.ga K "_law_near_makers"))
  g_law_near_year : mg "_law_near_year" = some (.ref (He.ga K "_law_near_year"))
  g_law_near_copy : mg "_law_near_copy" = some (.ref (He.ga K "_law_near_copy"))
  g_law_near : mg "_law_near" = some (.ref (He.ga K "_law_near"))
  g_law_mark : mg "_law_mark" = some (.ref (He.ga K "_law_mark"))
  g_law_text : mg "_law_text" = some (.ref (He.ga K "_law_text"))
  g_law_slip : mg "_law_slip" = some (.ref (He.ga K "_law_slip"))
  g_law_sign : mg "_law_sign" = some (.ref (He.ga K "_law_sign"))
  g_law_unlike : mg "_law_unlike" = some (.ref (He.ga K "_law_unlike"))
  g_law_made : mg "_law_made" = some (.ref (He.ga K "_law_made"))
  g_law_kind_right : mg "_law_kind_right" = some (.ref (He.ga K "_law_kind_right"))
  g_law_right : mg "_law_right" = some (.ref (He.ga K "_law_right"))
  g_law : mg "law" = some (.ref (He.ga K "law"))
  b_len : mg "len" = none
  b_isinstance : mg "isinstance" = none
  b_all : mg "all" = none
  b_any : mg "any" = none
  b_max : mg "max" = none
  b_int : mg "int" = none
  b_str : mg "str" = none
  b_bool : mg "bool" = none
  b_list : mg "list" = none
  b_tuple : mg "tuple" = none
  b_range : mg "range" = none
  b_divmod : mg "divmod" = none
  d_KINDS : ∃ es n, KDict K w (He.ga K "KINDS") es n
  i_KINDS : ∀ k ∈ keys_KINDS, ∃ v, PySem.W.nsIn K (He.ga K "KINDS") k = some (some v)
theorem txt_of {K : PySem.W.Frag} {h : Heap} {mg : PySem.Str → Option Value} {w : World} (X : K.In h) (G : h.Ns mainGlobals mg) (e : He.SaysX fa fn ts [] ex w h K) : Txt K mg w := by
  have c := e.t.d
  have z : ex K = true := e.more
  exact {
    f_is_whole := c.def_ 0 (d := d_is_whole) rfl
    f_figures_of := c.def_ 1 (d := d_figures_of) rfl
    f_is_name := c.def_ 2 (d := d_is_name) rfl
    f_is_figures := c.def_ 3 (d := d_is_figures) rfl
    f_is_points := c.def_ 4 (d := d_is_points) rfl
    f_is_maker := c.def_ 5 (d := d_is_maker) rfl
    f_is_letters := c.def_ 6 (d := d_is_letters) rfl
    f_need_year := c.def_ 7 (d := d_need_year) rfl
    f_need_copy := c.def_ 8 (d := d_need_copy) rfl
    f_makers_in := c.def_ 9 (d := d_makers_in) rfl
    f_Mark_init := c.def_ 10 (d := d_Mark_init) rfl
    f_Mark_text_of := c.def_ 11 (d := d_Mark_text_of) rfl
    f_Mark_str := c.def_ 12 (d := d_Mark_str) rfl
    f_is_kind := c.def_ 13 (d := d_is_kind) rfl
    f_differ_at := c.def_ 14 (d := d_differ_at) rfl
    f_lacks_one := c.def_ 15 (d := d_lacks_one) rfl
    f_slip_kind := c.def_ 16 (d := d_slip_kind) rfl
    f_last_place := c.def_ 17 (d := d_last_place) rfl
    f_slipped := c.def_ 18 (d := d_slipped) rfl
    f_law_pool := c.def_ 19 (d := d_law_pool) rfl
    f_law_take := c.def_ 20 (d := d_law_take) rfl
    f_law_figures := c.def_ 21 (d := d_law_figures) rfl
    f_law_maker := c.def_ 22 (d := d_law_maker) rfl
    f_law_parts := c.def_ 23 (d := d_law_parts) rfl
    f_law_near_word := c.def_ 24 (d := d_law_near_word) rfl
    f_law_near_makers := c.def_ 25 (d := d_law_near_makers) rfl
    f_law_near_year := c.def_ 26 (d := d_law_near_year) rfl
    f_law_near_copy := c.def_ 27 (d := d_law_near_copy) rfl
    f_law_near := c.def_ 28 (d := d_law_near) rfl
    f_law_mark := c.def_ 29 (d := d_law_mark) rfl
    f_law_text := c.def_ 30 (d := d_law_text) rfl
    f_law_slip := c.def_ 31 (d := d_law_slip) rfl
    f_law_sign := c.def_ 32 (d := d_law_sign) rfl
    f_law_unlike := c.def_ 33 (d := d_law_unlike) rfl
    f_law_made := c.def_ 34 (d := d_law_made) rfl
    f_law_kind_right := c.def_ 35 (d := d_law_kind_right) rfl
    f_law_right := c.def_ 36 (d := d_law_right) rfl
    f_law := c.def_ 37 (d := d_law) rfl
    k_LETTERS := He.str_ok X G (c.fact 0 (f := .str "LETTERS" "abcdefghijklmnopqrstuvwxyz") rfl)
    k_FIGURES := He.str_ok X G (c.fact 1 (f := .str "FIGURES" "0123456789") rfl)
    k_LONGEST := He.int_ok X G (c.fact 2 (f := .int "LONGEST" 6) rfl)
    k_PART := He.int_ok X G (c.fact 3 (f := .int "PART" 60) rfl)
    g_is_whole := He.glo_ok X G (c.fact 4 (f := .glo "is_whole") rfl)
    g_figures_of := He.glo_ok X G (c.fact 5 (f := .glo "figures_of") rfl)
    g_is_name := He.glo_ok X G (c.fact 6 (f := .glo "is_name") rfl)
    g_is_figures := He.glo_ok X G (c.fact 7 (f := .glo "is_figures") rfl)
    g_is_points := He.glo_ok X G (c.fact 8 (f := .glo "is_points") rfl)
    g_is_maker := He.glo_ok X G (c.fact 9 (f := .glo "is_maker") rfl)
    g_is_letters := He.glo_ok X G (c.fact 10 (f := .glo "is_letters") rfl)
    k_MOST_MAKERS := He.int_ok X G (c.fact 11 (f := .int "MOST_MAKERS" 3) rfl)
    k_FIRST_YEAR := He.int_ok X G (c.fact 12 (f := .int "FIRST_YEAR" 1000) rfl)
    k_LAST_YEAR := He.int_ok X G (c.fact 13 (f := .int "LAST_YEAR" 2999) rfl)
    k_GREATEST := He.int_ok X G (c.fact 14 (f := .int "GREATEST" 9999) rfl)
    g_need_year := He.glo_ok X G (c.fact 15 (f := .glo "need_year") rfl)
    g_need_copy := He.glo_ok X G (c.fact 16 (f := .glo "need_copy") rfl)
    g_makers_in := He.glo_ok X G (c.fact 17 (f := .glo "makers_in") rfl)
    g_Mark := He.glo_ok X G (c.fact 18 (f := .glo "Mark") rfl)
    c_Mark := He.cls_ok (c.fact 19 (f := .cls "Mark") rfl)
    mk_Mark := He.mkr_ok (c.fact 20 (f := .mkr "Mark") rfl)
    n_Mark_kept_copy := He.noat_ok (c.fact 21 (f := .noat "Mark" "kept_copy") rfl)
    n_Mark_kept_letters := He.noat_ok (c.fact 22 (f := .noat "Mark" "kept_letters") rfl)
    n_Mark_kept_makers := He.noat_ok (c.fact 23 (f := .noat "Mark" "kept_makers") rfl)
    n_Mark_kept_number := He.noat_ok (c.fact 24 (f := .noat "Mark" "kept_number") rfl)
    n_Mark_kept_points := He.noat_ok (c.fact 25 (f := .noat "Mark" "kept_points") rfl)
    n_Mark_kept_text := He.noat_ok (c.fact 26 (f := .noat "Mark" "kept_text") rfl)
    n_Mark_kept_year := He.noat_ok (c.fact 27 (f := .noat "Mark" "kept_year") rfl)
    m_Mark_text_of := He.meth_ok (c.fact 28 (f := .meth "Mark" "text_of") rfl)
    m_Mark_str := He.meth_ok (c.fact 29 (f := .meth "Mark" "__str__") rfl)
    g_KINDS := He.glo_ok X G (c.fact 30 (f := .glo "KINDS") rfl)
    g_is_kind := He.glo_ok X G (c.fact 31 (f := .glo "is_kind") rfl)
    g_differ_at := He.glo_ok X G (c.fact 32 (f := .glo "differ_at") rfl)
    g_lacks_one := He.glo_ok X G (c.fact 33 (f := .glo "lacks_one") rfl)
    g_slip_kind := He.glo_ok X G (c.fact 34 (f := .glo "slip_kind") rfl)
    g_last_place := He.glo_ok X G (c.fact 35 (f := .glo "last_place") rfl)
    g_slipped := He.glo_ok X G (c.fact 36 (f := .glo "slipped") rfl)
    g_law_pool := He.glo_ok X G (c.fact 37 (f := .glo "_law_pool") rfl)
    g_law_take := He.glo_ok X G (c.fact 38 (f := .glo "_law_take") rfl)
    g_law_figures := He.glo_ok X G (c.fact 39 (f := .glo "_law_figures") rfl)
    g_law_maker := He.glo_ok X G (c.fact 40 (f := .glo "_law_maker") rfl)
    g_law_parts := He.glo_ok X G (c.fact 41 (f := .glo "_law_parts") rfl)
    g_law_near_word := He.glo_ok X G (c.fact 42 (f := .glo "_law_near_word") rfl)
    g_law_near_makers := He.glo_ok X G (c.fact 43 (f := .glo "_law_near_makers") rfl)
    g_law_near_year := He.glo_ok X G (c.fact 44 (f := .glo "_law_near_year") rfl)
    g_law_near_copy := He.glo_ok X G (c.fact 45 (f := .glo "_law_near_copy") rfl)
    g_law_near := He.glo_ok X G (c.fact 46 (f := .glo "_law_near") rfl)
    g_law_mark := He.glo_ok X G (c.fact 47 (f := .glo "_law_mark") rfl)
    g_law_text := He.glo_ok X G (c.fact 48 (f := .glo "_law_text") rfl)
    g_law_slip := He.glo_ok X G (c.fact 49 (f := .glo "_law_slip") rfl)
    g_law_sign := He.glo_ok X G (c.fact 50 (f := .glo "_law_sign") rfl)
    g_law_unlike := He.glo_ok X G (c.fact 51 (f := .glo "_law_unlike") rfl)
    g_law_made := He.glo_ok X G (c.fact 52 (f := .glo "_law_made") rfl)
    g_law_kind_right := He.glo_ok X G (c.fact 53 (f := .glo "_law_kind_right") rfl)
    g_law_right := He.glo_ok X G (c.fact 54 (f := .glo "_law_right") rfl)
    g_law := He.glo_ok X G (c.fact 55 (f := .glo "law") rfl)
    b_len := He.free_ok X G (c.fact 56 (f := .free "len") rfl)
    b_isinstance := He.free_ok X G (c.fact 57 (f := .free "isinstance") rfl)
    b_all := He.free_ok X G (c.fact 58 (f := .free "all") rfl)
    b_any := He.free_ok X G (c.fact 59 (f := .free "any") rfl)
    b_max := He.free_ok X G (c.fact 60 (f := .free "max") rfl)
    b_int := He.free_ok X G (c.fact 61 (f := .free "int") rfl)
    b_str := He.free_ok X G (c.fact 62 (f := .free "str") rfl)
    b_bool := He.free_ok X G (c.fact 63 (f := .free "bool") rfl)
    b_list := He.free_ok X G (c.fact 64 (f := .free "list") rfl)
    b_tuple := He.free_ok X G (c.fact 65 (f := .free "tuple") rfl)
    b_range := He.free_ok X G (c.fact 66 (f := .free "range") rfl)
    b_divmod := He.free_ok X G (c.fact 67 (f := .free "divmod") rfl)
    d_KINDS := e.t.tab 0 rfl
    i_KINDS := fun k hk => inB_ok (List.all_eq_true.mp z k hk)
  }
set_option maxHeartbeats 0
abbrev R : PySem.W.OpenRow := PySem.W.OpenLaw.row PySem.Challenge.rw_sievemarks_k32_slips_made
abbrev hk : PySem.W.Hook := He.hookX 4 fa fn ts [] ex
def ob (s : PySem.W.SharedT) : He.AlX := He.obsX 4 fa fn ts [] ex (HandSHeadRun.getT s)
theorem ob_eq (s : PySem.W.SharedT) : ob s = hk.obs s.abs := He.obsX_eq (HandSHeadRun.getT_eq s)
def loose : List PySem.Str := (["FIGURES", "FIRST_YEAR", "GREATEST", "KINDS", "LAST_YEAR", "LETTERS", "LONGEST", "MOST_MAKERS", "Mark", "MarkError", "NoCopy", "NoKind", "NoLetters", "NoMaker", "NoMakers", "NoNumber", "NoPlace", "NoPoints", "NoText", "NoYear"] : List PySem.Str) ++ (["PART", "SIGNS", "STEPS", "_law_figures", "_law_kind_right", "_law_made", "_law_maker", "_law_mark", "_law_near", "_law_near_copy", "_law_near_makers", "_law_near_word", "_law_near_year", "_law_parts", "_law_pool", "_law_right", "_law_sign", "_law_slip", "_law_take", "_law_text"] : List PySem.Str) ++ (["_law_unlike", "_wall", "differ_at", "figures_of", "is_figures", "is_kind", "is_letters", "is_maker", "is_name", "is_points", "is_whole", "lacks_one", "last_place", "makers_in", "may_end", "need_copy", "need_year", "of_extra", "of_lost", "of_other"] : List PySem.Str) ++ (["of_turned", "runs_out", "slip_kind", "slipped", "step_copy", "step_either", "step_gap", "step_last", "step_letters", "step_maker", "step_number", "step_on", "step_points", "step_year"] : List PySem.Str)
abbrev RunT (w : World) : Prop := HandSHeadRun.RunEq R (PySem.W.view R.prog [80]) hk ob 6000 loose w
theorem run0 (w : World) : RunT (w.withFollow "special-get-raises" false) := by
  intro os
  kernel_rfl
theorem run1 (w : World) : RunT (w.withFollow "special-get-raises" true) := by
  intro os
  kernel_rfl
theorem run (w : World) : RunT w := PySem.W.byRow2 "special-get-raises" (P := RunT) run0 run1 w
end T

set_option maxHeartbeats 4000000
/-! U: readings that go by themselves. Facts of the heap are classes, a reading's next step is an instance. -/
namespace U
open PySem PySem.Spec PyProof.Rows L2

/-- one step of a reading: G is shown by G' -/
class Go (G : Prop) (G' : outParam Prop) : Prop where
  go : G' → G
/-- H' knows all that H knows -/
class Ex (H : outParam Hp) (H' : Hp) : Prop where
  ex : ∀ a o, H a = some o → H' a = some o
/-- at a a list is to be read -/
class LR (K : PySem.W.Frag) (H : Hp) (a : Addr) (xs : outParam (List V)) : Prop where
  lr : SqL K H a xs
/-- at a a tuple is to be read -/
class TR (K : PySem.W.Frag) (H : Hp) (a : Addr) (xs : outParam (List V)) : Prop where
  tr : SqT K H a xs
/-- at a a list of one's own -/
class LM (H : Hp) (a : Addr) (xs : outParam (List V)) : Prop where
  lm : H a = some (.lst xs)
/-- at a an instance -/
class IR (H : Hp) (a : Addr) (C : outParam Addr) (dx : outParam Addr) (fs : outParam (List (Str × V))) : Prop where
  ir : H a = some (.ins C dx fs)
/-- a was new at H -/
class Nw (H : outParam Hp) (a : Addr) : Prop where
  nw : H a = none
class Ne' (a b : Addr) : Prop where
  ne : a ≠ b
/-- all but the list at p is known on -/
class Mu (H : outParam Hp) (p : outParam Addr) (H' : Hp) : Prop where
  mu : ∀ a o, a ≠ p → H a = some o → H' a = some o
  was : ∃ xs, H p = some (.lst xs)

theorem ex_rd {H H' : Hp} {a : Addr} {u : HO} (e : ∀ a o, H a = some o → H' a = some o) (h : Rd H a u) : Rd H' a u := by
  rcases h with h | ⟨o, h⟩
  · exact .inl (e _ _ h)
  · exact .inr ⟨o, e _ _ h⟩
theorem ex_l {K : PySem.W.Frag} {H H' : Hp} {a : Addr} {xs : List V} (e : ∀ a o, H a = some o → H' a = some o) (h : SqL K H a xs) : SqL K H' a xs := by
  rcases h with h | h
  · exact .inl (ex_rd e h)
  · exact .inr h
theorem ex_t {K : PySem.W.Frag} {H H' : Hp} {a : Addr} {xs : List V} (e : ∀ a o, H a = some o → H' a = some o) (h : SqT K H a xs) : SqT K H' a xs := by
  rcases h with h | h
  · exact .inl (ex_rd e h)
  · exact .inr h
section
variable {K : PySem.W.Frag} {H H' H0 : Hp} {a p : Addr} {xs : List V}
instance [Ex H H'] [LR K H a xs] : LR K H' a xs := ⟨ex_l (Ex.ex (H := H)) LR.lr⟩
instance [Ex H H'] [TR K H a xs] : TR K H' a xs := ⟨ex_t (Ex.ex (H := H)) TR.tr⟩
instance [Ex H H'] [LM H a xs] : LM H' a xs := ⟨Ex.ex _ _ (LM.lm (H := H))⟩
instance {C dx : Addr} {fs : List (Str × V)} [Ex H H'] [IR H a C dx fs] : IR H' a C dx fs := ⟨Ex.ex _ _ (IR.ir (H := H))⟩
instance [LM H a xs] : LR K H a xs := ⟨.inl (.inl LM.lm)⟩
theorem mu_t (m : Mu H p H') (h : SqT K H a xs) : SqT K H' a xs := by
  obtain ⟨zs, hz⟩ := m.was
  rcases h with (h | ⟨o, h⟩) | h
  · exact .inl (.inl (m.mu _ _ (ne_of h hz (by intro z; cases z)) h))
  · exact .inl (.inr ⟨o, m.mu _ _ (ne_of h hz (by intro z; cases z)) h⟩)
  · exact .inr h
instance [m : Mu H p H'] [TR K H a xs] : TR K H' a xs := ⟨mu_t m TR.tr⟩
instance {C dx : Addr} {fs : List (Str × V)} [m : Mu H p H'] [IR H a C dx fs] : IR H' a C dx fs := by
  obtain ⟨zs, hz⟩ := m.was
  have h := IR.ir (H := H) (a := a) (C := C) (dx := dx) (fs := fs)
  exact ⟨m.mu _ _ (ne_of h hz (by intro z; cases z)) h⟩
theorem mu_l (m : Mu H p H') (n : a ≠ p) (h : SqL K H a xs) : SqL K H' a xs := by
  rcases h with (h | ⟨o, h⟩) | h
  · exact .inl (.inl (m.mu _ _ n h))
  · exact .inl (.inr ⟨o, m.mu _ _ n h⟩)
  · exact .inr h
instance [m : Mu H p H'] [n : Ne' a p] [LR K H a xs] : LR K H' a xs := ⟨mu_l m n.ne LR.lr⟩
instance [m : Mu H p H'] [n : Ne' a p] [h : LM H a xs] : LM H' a xs := ⟨m.mu _ _ n.ne h.lm⟩
instance [w : Nw H0 p] [h : LM H0 a xs] : Ne' a p := ⟨ne_of_none h.lm w.nw⟩
instance [w : Nw H0 a] [h : LM H0 p xs] : Ne' a p := ⟨(ne_of_none h.lm w.nw).symm⟩
/-- from H on all is known: chains -/
class Et (H H' : Hp) : Prop where
  et : ∀ a o, H a = some o → H' a = some o
instance (priority := 2000) : Et H H := ⟨fun _ _ h => h⟩
instance {H1 H2 : Hp} [e : Ex H1 H2] [t : Et H H1] : Et H H2 := ⟨fun a o h => e.ex a o (t.et a o h)⟩
instance {H1 H2 H0 : Hp} [m : Mu H1 p H2] [w : Nw H0 p] [t : Et H H0] [u : Et H H1] : Et H H2 := ⟨fun a o h => m.mu a o (ne_of_none (t.et a o h) w.nw) (u.et a o h)⟩
end

/-! ### the frame's values -/
class Nth (σ : List (Option V)) (i : Nat) (v : outParam V) : Prop where
  nth : σ[i]? = some (some v)
instance {v : V} {l : List (Option V)} : Nth (some v :: l) 0 v := ⟨rfl⟩
instance {v : V} {o : Option V} {l : List (Option V)} {i : Nat} [h : Nth l i v] : Nth (o :: l) (i + 1) v := ⟨by have := h.nth; simpa using this⟩
class SetN (σ : List (Option V)) (i : Nat) (v : Option V) (σ' : outParam (List (Option V))) : Prop where
  eq : σ.set i v = σ'
instance {v o : Option V} {l : List (Option V)} : SetN (o :: l) 0 v (v :: l) := ⟨rfl⟩
instance {v o : Option V} {l l' : List (Option V)} {i : Nat} [h : SetN l i v l'] : SetN (o :: l) (i + 1) v (o :: l') := ⟨by have := h.eq; simp [this]⟩

/-! ### steps: structure -/
section
variable {σ σ' : L2.St} {H : Hp} {Q : VK} {i : Nat} {v x y : V} {ta tb tc te : TE} {t u tA tB' : TT} {D : Ends} {ts tw tz : TS} {g : TG} {r : R2} {tl : TA} {K : PySem.W.Frag} {b : Bool} {R : Bool → Hp → Prop} {A B : Prop}
instance [h : Nth σ i v] : Go (tVar i σ H Q) (Q v H) := ⟨fun k => ⟨v, h.nth, k⟩⟩
instance : Go (tC v σ H Q) (Q v H) := ⟨fun k => k⟩
instance : Go (tOp r ta tb σ H Q) (ta σ H fun x H1 => tb σ H1 fun y H2 => r x y H2 Q) := ⟨fun k => k⟩
instance {r : V → Hp → VK → Prop} : Go (tUn r ta σ H Q) (ta σ H fun x H1 => r x H1 Q) := ⟨fun k => k⟩
instance {R : List V → Hp → Prop} : Go (tNil σ H R) (R [] H) := ⟨fun k => k⟩
instance {R : List V → Hp → Prop} : Go (tCons ta tl σ H R) (ta σ H fun x H1 => tl σ H1 fun xs H2 => R (x :: xs) H2) := ⟨fun k => k⟩
/-- written arguments and defaults together -/
class App (xs ys : List V) (zs : outParam (List V)) : Prop where
  eq : xs ++ ys = zs
instance {ys : List V} : App [] ys ys := ⟨rfl⟩
instance {x : V} {xs ys zs : List V} [h : App xs ys zs] : App (x :: xs) ys (x :: zs) := ⟨by rw [List.cons_append, h.eq]⟩
def callG (sp : Sp) (vs dvs : List V) (H : Hp) (Q : VK) (E : XK) : Prop := sp (vs ++ dvs) H Q E
instance {sp : Sp} {dvs : List V} {E : XK} : Go (tCall sp dvs E tl σ H Q) (tl σ H fun vs H1 => callG sp vs dvs H1 Q E) := ⟨fun k => k⟩
instance {sp : Sp} {vs dvs zs : List V} {E : XK} [h : App vs dvs zs] : Go (callG sp vs dvs H Q E) (sp zs H Q E) := ⟨fun k => by unfold callG; rw [h.eq]; exact k⟩
instance {r : List V → Hp → VK → Prop} : Go (tCB r tl σ H Q) (tl σ H fun vs H1 => r vs H1 Q) := ⟨fun k => k⟩
instance : Go (tTup tl σ H Q) (tl σ H fun xs H1 => xs.length ≤ sizeLine ∧ ∀ p, H1 p = none → Q (.ref p) (upd H1 p (.tup xs))) := ⟨fun k => k⟩
instance : Go (tLst tl σ H Q) (tl σ H fun xs H1 => xs.length ≤ sizeLine ∧ ∀ p, H1 p = none → Q (.ref p) (upd H1 p (.lst xs))) := ⟨fun k => k⟩
instance : Go (tIf t ta tb σ H Q) (t σ H fun c H1 => if c = true then ta σ H1 Q else tb σ H1 Q) := ⟨fun k => k⟩
instance : Go (tAnd t u σ H R) (t σ H fun c H1 => if c = true then u σ H1 R else R false H1) := ⟨fun k => k⟩
instance : Go (tOr t u σ H R) (t σ H fun c H1 => if c = true then R true H1 else u σ H1 R) := ⟨fun k => k⟩
instance : Go (tNot t σ H R) (t σ H fun c H1 => R (!c) H1) := ⟨fun k => k⟩
/-- a value that is a truth -/
def isB (x : V) (H : Hp) (R : Bool → Hp → Prop) : Prop := ∃ c, x = .bl c ∧ R c H
instance : Go (isB (.bl b) H R) (R b H) := ⟨fun k => ⟨b, rfl, k⟩⟩
instance : Go (tB te σ H R) (te σ H fun x H1 => isB x H1 R) := ⟨fun k => k⟩
instance : Go (tTest te σ H R) (te σ H fun x H1 => isB x H1 R) := ⟨fun k => k⟩
instance : Go (tAndV ta tb σ H Q) (ta σ H fun x H1 => isB x H1 fun c H2 => if c = true then tb σ H2 Q else Q (.bl false) H2) := ⟨fun k => k⟩
instance : Go (tOrV ta tb σ H Q) (ta σ H fun x H1 => isB x H1 fun c H2 => if c = true then Q (.bl true) H2 else tb σ H2 Q) := ⟨fun k => k⟩
instance : Go (tNotV ta σ H Q) (ta σ H fun x H1 => isB x H1 fun c H2 => Q (.bl (!c)) H2) := ⟨fun k => k⟩
instance : Go (if true = true then A else B) A := ⟨fun k => by rw [if_pos rfl]; exact k⟩
instance : Go (if false = true then A else B) B := ⟨fun k => by rw [if_neg Bool.false_ne_true]; exact k⟩
instance : Go (if (!b) = true then A else B) (if b = true then B else A) := ⟨fun k => by cases b <;> simpa using k⟩
/-! statements -/
instance : Go (tSeq ts tz D σ H) (ts { D with nx := tz D } σ H) := ⟨fun k => k⟩
instance : Go (tNext D σ H) (D.nx σ H) := ⟨fun k => k⟩
instance : Go (tBreak D σ H) (D.bk σ H) := ⟨fun k => k⟩
instance : Go (tCont D σ H) (D.ct σ H) := ⟨fun k => k⟩
instance : Go (tRet te D σ H) (te σ H D.rt) := ⟨fun k => k⟩
instance : Go (tRetN D σ H) (D.rt .non H) := ⟨fun k => k⟩
instance : Go (tDrop te D σ H) (te σ H fun _ H1 => D.nx σ H1) := ⟨fun k => k⟩
instance : Go (tAsg te g D σ H) (te σ H fun x H1 => g x σ H1 D.nx) := ⟨fun k => k⟩
instance : Go (tIfS t ts tw D σ H) (t σ H fun c H1 => if c = true then ts D σ H1 else tw D σ H1) := ⟨fun k => k⟩
instance {R : L2.St → Hp → Prop} [h : SetN σ i (some v) σ'] : Go (gName i v σ H R) (R σ' H) := ⟨fun k => by unfold gName; rw [h.eq]; exact k⟩
instance {ti : TIp} [h : Nth σ i x] : Go (tAug i te ti D σ H) (te σ H fun y H1 => ti x y H1 fun z H2 => gName i z σ H2 D.nx) := ⟨fun k => ⟨x, h.nth, k⟩⟩
variable {n b' c : L2.St → Hp → Prop} {rt : VK}
instance : Go (Ends.nx ⟨n, rt, b', c⟩ σ H) (n σ H) := ⟨fun k => k⟩
instance : Go (Ends.bk ⟨n, rt, b', c⟩ σ H) (b' σ H) := ⟨fun k => k⟩
instance : Go (Ends.ct ⟨n, rt, b', c⟩ σ H) (c σ H) := ⟨fun k => k⟩
instance : Go (Ends.rt ⟨n, rt, b', c⟩ v H) (rt v H) := ⟨fun k => k⟩
end
end U

namespace U
open PySem PySem.Spec PyProof.Rows L2
open SX (S)
/-! ### new objects -/
def newL (xs : List V) (H : Hp) (Q : VK) : Prop := ∀ p, H p = none → Q (.ref p) (upd H p (.lst xs))
def newT (xs : List V) (H : Hp) (Q : VK) : Prop := ∀ p, H p = none → Q (.ref p) (upd H p (.tup xs))
theorem ex_new {H : Hp} {p : Addr} {o : HO} (h : H p = none) : Ex H (upd H p o) := ⟨fun a u e => by
  rw [upd_ne (ne_of_none e h)]
  exact e⟩
theorem al_l {xs : List V} {H : Hp} {Q : VK} (k : ∀ (p : Addr) (H' : Hp), Nw H p → Ex H H' → LM H' p xs → Q (.ref p) H') : newL xs H Q := fun p h => k p _ ⟨h⟩ (ex_new h) ⟨upd_same⟩
theorem al_t {K : PySem.W.Frag} {xs : List V} {H : Hp} {Q : VK} (k : ∀ (p : Addr) (H' : Hp), Nw H p → Ex H H' → TR K H' p xs → Q (.ref p) H') : newT xs H Q := fun p h => k p _ ⟨h⟩ (ex_new h) ⟨.inl (.inl upd_same)⟩
/-- a list of one's own is changed -/
def setL (p : Addr) (xs : List V) (H : Hp) (Q : Hp → Prop) : Prop := Q (upd H p (.lst xs))
theorem mu_l' {p : Addr} {xs ys : List V} {H : Hp} {Q : Hp → Prop} [h : LM H p ys] (k : ∀ H', Mu H p H' → LM H' p xs → Q H') : setL p xs H Q := k _ ⟨fun a o n e => by rw [upd_ne n]; exact e, ⟨ys, h.lm⟩⟩ ⟨upd_same⟩

/-! ### asides -/
def Sd (P G : Prop) : Prop := P ∧ G
theorem Sd.k {P G : Prop} (p : P) (g : G) : Sd P G := ⟨p, g⟩
/-! ### operators -/
section
variable {K : PySem.W.Frag} {H : Hp} {Q : VK} {i j : Int} {a b : List Nat} {p q : Addr} {xs ys : List V} {x y : V} {X : Cx} {k l : Bool} {z u : Str}
def uAdd (K : PySem.W.Frag) : R2 := fun x y H Q => rI0 (fun i j => .int (i + j)) x y H Q ∨ (∃ i j, x = .str i ∧ y = .str j ∧ i.length + j.length ≤ sizeLine ∧ Q (.str (i ++ j)) H) ∨ rCat x y H Q ∨ rCatA K x y H Q
theorem ou_add (hK : X.K = K := by rfl) : OpR X (binaryOp .Add) (uAdd K) := by
  subst hK
  exact op_add.or (op_add_str.or (op_cat.or op_catA))
instance : Go (uAdd K (.int i) (.int j) H Q) (Q (.int (i + j)) H) := ⟨fun h => .inl ⟨i, j, rfl, rfl, h⟩⟩
instance : Go (uAdd K (.str (S a)) (.str (S b)) H Q) (Sd (a.length + b.length ≤ sizeLine) (Q (.str (S (a ++ b))) H)) := ⟨fun h => .inr (.inl ⟨_, _, rfl, rfl, by rw [SX.S_len, SX.S_len]; exact h.1, by rw [SX.S_cat]; exact h.2⟩)⟩
instance [h1 : LM H p xs] [h2 : LM H q ys] : Go (uAdd K (.ref p) (.ref q) H Q) (Sd (xs.length + ys.length ≤ sizeLine) (newL (xs ++ ys) H Q)) := ⟨fun h => .inr (.inr (.inl ⟨p, q, xs, ys, rfl, rfl, h1.lm, h2.lm, h.1, h.2⟩))⟩
def uSub : R2 := rI0 (fun i j => .int (i - j))
theorem ou_sub : OpR X (binaryOp .Sub) uSub := op_sub
instance : Go (uSub (.int i) (.int j) H Q) (Q (.int (i - j)) H) := ⟨fun h => ⟨i, j, rfl, rfl, h⟩⟩
/-- a product of ints: together less than a million bits -/
def uMul (K : PySem.W.Frag) : R2 := fun x y H Q => rI CMulW (fun i j => .int (i * j)) x y H Q ∨ rRep x y H Q
theorem ou_mul (hK : X.K = K := by rfl) : OpR X (binaryOp .Mult) (uMul K) := by
  subst hK
  exact op_mulW.or op_rep
instance : Go (uMul K (.int i) (.int j) H Q) (Sd (CMulW i j) (Q (.int (i * j)) H)) := ⟨fun h => .inl ⟨i, j, rfl, rfl, h⟩⟩
def uFdiv : R2 := rI CDivW (fun i j => .int (i / j))
theorem ou_fdiv : OpR X (binaryOp .FloorDiv) uFdiv := op_fdivW
instance : Go (uFdiv (.int i) (.int j) H Q) (Sd (CDivW i j) (Q (.int (i / j)) H)) := ⟨fun h => ⟨i, j, rfl, rfl, h⟩⟩
def uMod : R2 := rI (fun _ j => 0 < j) (fun i j => .int (i % j))
theorem ou_mod : OpR X (binaryOp .Mod) uMod := op_mod
instance : Go (uMod (.int i) (.int j) H Q) (Sd (0 < j) (Q (.int (i % j)) H)) := ⟨fun h => ⟨i, j, rfl, rfl, h⟩⟩
def uPow : R2 := rI CPow (fun i j => .int (i ^ j.toNat))
theorem ou_pow : OpR X (binaryOp .Pow) uPow := op_pow
instance : Go (uPow (.int i) (.int j) H Q) (Sd (CPow i j) (Q (.int (i ^ j.toNat)) H)) := ⟨fun h => ⟨i, j, rfl, rfl, h⟩⟩
instance : Go (rU (fun i => V.int (-i)) (.int i) H Q) (Q (.int (-i)) H) := ⟨fun h => ⟨i, rfl, h⟩⟩
/-! comparisons -/
def uEq (K : PySem.W.Frag) : R2 := fun x y H Q => rEq x y H Q ∨ rEqD K x y H Q
def uNe (K : PySem.W.Frag) : R2 := fun x y H Q => rNe x y H Q ∨ rNeD K x y H Q
theorem ou_eq (hu : X.A.units + 64 < cLine) (hK : X.K = K := by rfl) : OpR X (compareOp .Eq) (uEq K) := by
  subst hK
  exact op_eq.or (op_eqD hu)
theorem ou_ne (hu : X.A.units + 64 < cLine) (hK : X.K = K := by rfl) : OpR X (compareOp .NotEq) (uNe K) := by
  subst hK
  exact op_ne.or (op_neD hu)
theorem dec_v {p : Prop} {x y : V} [Decidable p] (h : x = y ↔ p) : decide (x = y) = decide p := by simp [h]
instance : Go (uEq K (.int i) (.int j) H Q) (Q (.bl (decide (i = j))) H) := ⟨fun h => .inl ⟨rfl, by rw [dec_v (p := i = j) ⟨fun e => V.int.inj e, fun e => by rw [e]⟩]; exact h⟩⟩
instance : Go (uNe K (.int i) (.int j) H Q) (Q (.bl (!decide (i = j))) H) := ⟨fun h => .inl ⟨rfl, by rw [dec_v (p := i = j) ⟨fun e => V.int.inj e, fun e => by rw [e]⟩]; exact h⟩⟩
instance : Go (uEq K (.str (S a)) (.str (S b)) H Q) (Q (.bl (decide (a = b))) H) := ⟨fun h => .inl ⟨rfl, by rw [dec_v (p := a = b) ⟨fun e => SX.S_inj (V.str.inj e), fun e => by rw [e]⟩]; exact h⟩⟩
instance : Go (uNe K (.str (S a)) (.str (S b)) H Q) (Q (.bl (!decide (a = b))) H) := ⟨fun h => .inl ⟨rfl, by rw [dec_v (p := a = b) ⟨fun e => SX.S_inj (V.str.inj e), fun e => by rw [e]⟩]; exact h⟩⟩
def uLt : R2 := fun x y H Q => rI0 (fun i j => .bl (decide (i < j))) x y H Q ∨ (∃ i j, x = .str i ∧ y = .str j ∧ Q (.bl (decide (i.cps.toList < j.cps.toList))) H)
def uLe : R2 := fun x y H Q => rI0 (fun i j => .bl (decide (i ≤ j))) x y H Q ∨ (∃ i j, x = .str i ∧ y = .str j ∧ Q (.bl (!decide (j.cps.toList < i.cps.toList))) H)
def uGt : R2 := fun x y H Q => rI0 (fun i j => .bl (decide (j < i))) x y H Q ∨ (∃ i j, x = .str i ∧ y = .str j ∧ Q (.bl (decide (j.cps.toList < i.cps.toList))) H)
def uGe : R2 := fun x y H Q => rI0 (fun i j => .bl (decide (j ≤ i))) x y H Q ∨ (∃ i j, x = .str i ∧ y = .str j ∧ Q (.bl (!decide (i.cps.toList < j.cps.toList))) H)
theorem ou_lt : OpR X (compareOp .Lt) uLt := op_lt.or op_lt_str
theorem ou_le : OpR X (compareOp .LtE) uLe := op_le.or op_le_str
theorem ou_gt : OpR X (compareOp .Gt) uGt := op_gt.or op_gt_str
theorem ou_ge : OpR X (compareOp .GtE) uGe := op_ge.or op_ge_str
instance : Go (uLt (.int i) (.int j) H Q) (Q (.bl (decide (i < j))) H) := ⟨fun h => .inl ⟨i, j, rfl, rfl, h⟩⟩
instance : Go (uLe (.int i) (.int j) H Q) (Q (.bl (decide (i ≤ j))) H) := ⟨fun h => .inl ⟨i, j, rfl, rfl, h⟩⟩
instance : Go (uGt (.int i) (.int j) H Q) (Q (.bl (decide (j < i))) H) := ⟨fun h => .inl ⟨i, j, rfl, rfl, h⟩⟩
instance : Go (uGe (.int i) (.int j) H Q) (Q (.bl (decide (j ≤ i))) H) := ⟨fun h => .inl ⟨i, j, rfl, rfl, h⟩⟩
def uIs : R2 := fun x y H Q => (y = .non ∧ Q (.bl (decide (x = .non))) H) ∨ rIsB x y H Q
def uIsN : R2 := fun x y H Q => (y = .non ∧ Q (.bl (!decide (x = .non))) H) ∨ rNotB x y H Q
theorem ou_is : OpR X (compareOp .Is) uIs := op_isN.or op_isBl
theorem ou_isn : OpR X (compareOp .IsNot) uIsN := op_notN.or op_notBl
instance : Go (uIs x .non H Q) (Q (.bl (decide (x = .non))) H) := ⟨fun h => .inl ⟨rfl, h⟩⟩
instance : Go (uIsN x .non H Q) (Q (.bl (!decide (x = .non))) H) := ⟨fun h => .inl ⟨rfl, h⟩⟩
instance : Go (uIs (.bl k) (.bl l) H Q) (Q (.bl (decide (k = l))) H) := ⟨fun h => .inr ⟨k, l, rfl, rfl, h⟩⟩
/-- what is none is told at once -/
instance : Go (if decide (V.non = .non) = true then x = y else x = x) (x = y) := ⟨fun h => by rw [if_pos (by decide)]; exact h⟩
def uIn (K : PySem.W.Frag) : R2 := fun x y H Q => (∃ (c : Nat) (z : Str), x = .str ⟨#[c]⟩ ∧ y = .str z ∧ Q (.bl (decide (c ∈ z.cps.toList))) H) ∨ rIn K false x y H Q
def uNi (K : PySem.W.Frag) : R2 := fun x y H Q => (∃ (c : Nat) (z : Str), x = .str ⟨#[c]⟩ ∧ y = .str z ∧ Q (.bl (!decide (c ∈ z.cps.toList))) H) ∨ rIn K true x y H Q
theorem ou_in (hK : X.K = K := by rfl) : OpR X (compareOp .In) (uIn K) := by
  subst hK
  exact op_in_sign.or op_in_seq
theorem ou_ni (hK : X.K = K := by rfl) : OpR X (compareOp .NotIn) (uNi K) := by
  subst hK
  exact op_notIn_sign.or op_notIn_seq
variable {c : Nat}
instance : Go (uIn K (.str (S [c])) (.str (S a)) H Q) (Q (.bl (decide (c ∈ a))) H) := ⟨fun h => .inl ⟨c, S a, rfl, rfl, h⟩⟩
instance : Go (uNi K (.str (S [c])) (.str (S a)) H Q) (Q (.bl (!decide (c ∈ a))) H) := ⟨fun h => .inl ⟨c, S a, rfl, rfl, h⟩⟩
/-! items -/
def uIx (K : PySem.W.Frag) : R2 := rIx K
theorem xu (hK : X.K = K := by rfl) : IxR X (uIx K) := by
  subst hK
  exact ix_seq
def ixG (xs : List V) (i : Int) (H : Hp) (Q : VK) : Prop := ∃ v, atI xs i = some v ∧ Q v H
def ixS (a : List Nat) (i : Int) (H : Hp) (Q : VK) : Prop := a.length ≤ sizeLine ∧ ∃ c, atI a i = some c ∧ Q (.str (S [c])) H
instance (priority := 1100) [h1 : LR K H p xs] : Go (uIx K (.ref p) (.int i) H Q) (ixG xs i H Q) := ⟨fun ⟨v, e, h⟩ => .inl ⟨p, xs, i, v, rfl, rfl, h1.lr, e, h⟩⟩
instance [h1 : TR K H p xs] : Go (uIx K (.ref p) (.int i) H Q) (ixG xs i H Q) := ⟨fun ⟨v, e, h⟩ => .inr (.inl ⟨p, xs, i, v, rfl, rfl, h1.tr, e, h⟩)⟩
instance : Go (uIx K (.str (S a)) (.int i) H Q) (ixS a i H Q) := ⟨fun ⟨z, c, e, h⟩ => .inr (.inr ⟨S a, i, c, rfl, rfl, by rw [SX.S_len]; exact z, e, h⟩)⟩
theorem ix_is {v : V} (e : atI xs i = some v) (h : Q v H) : ixG xs i H Q := ⟨v, e, h⟩
theorem ix_sg (z : a.length ≤ sizeLine) (e : atI a i = some c) (h : Q (.str (S [c])) H) : ixS a i H Q := ⟨z, c, e, h⟩
/-! slices -/
def uSl (K : PySem.W.Frag) : V → Option Int → Option Int → Hp → VK → Prop := fun x lo hi H Q => rSlL K x lo hi H Q ∨ C8.rSlX x lo hi H Q ∨ rSlA K x lo hi H Q
theorem su (hK : X.K = K := by rfl) : SlR X (uSl K) := by
  subst hK
  exact sl_list.or (C8.sl_txt.or sl_tupA)
variable {lo hi : Option Int}
instance (priority := 1100) [h1 : LR K H p xs] : Go (uSl K (.ref p) lo hi H Q) (newL (cutV xs lo hi) H Q) := ⟨fun h => .inl ⟨p, xs, rfl, h1.lr, h⟩⟩
def slS (a : List Nat) (lo hi : Option Int) (H : Hp) (Q : VK) : Prop := a.length ≤ sizeLine ∧ ∃ b, Txt.slice (S a) lo hi = S b ∧ Q (.str (S b)) H
instance : Go (uSl K (.str (S a)) lo hi H Q) (slS a lo hi H Q) := ⟨fun ⟨z, b, e, h⟩ => .inr (.inl ⟨S a, rfl, by rw [SX.S_len]; exact z, by rw [e]; exact h⟩)⟩
theorem sl_to (z : a.length ≤ sizeLine) (h0 : 0 ≤ i) (h : Q (.str (S (a.take i.toNat))) H) : slS a none (some i) H Q := ⟨z, _, SX.slice_to h0, h⟩
theorem sl_fr (z : a.length ≤ sizeLine) (h0 : 0 ≤ i) (h : Q (.str (S (a.drop i.toNat))) H) : slS a (some i) none H Q := ⟨z, _, SX.slice_from h0, h⟩
variable {σ : L2.St} {te : TE} {tl th : TO} {R : Option Int → Hp → Prop}
instance {r : V → Option Int → Option Int → Hp → VK → Prop} : Go (tSl r te tl th σ H Q) (te σ H fun x H1 => tl σ H1 fun l H2 => th σ H2 fun u H3 => r x l u H3 Q) := ⟨fun h => h⟩
instance : Go (tNoPart σ H R) (R none H) := ⟨fun h => h⟩
def isI (x : V) (H : Hp) (R : Option Int → Hp → Prop) : Prop := ∃ i, x = .int i ∧ R (some i) H
instance : Go (tPart te σ H R) (te σ H fun x H1 => isI x H1 R) := ⟨fun h => h⟩
instance : Go (isI (.int i) H R) (R (some i) H) := ⟨fun h => ⟨i, rfl, h⟩⟩
end
end U

namespace U
open PySem PySem.Spec PyProof.Rows L2
open SX (S)
/-! ### names, texts -/
section
variable {X : Cx} {x : Str} {pos : Pos}
theorem pe_gi {n : Int} (hg : Gl X x) (h : ∃ t, X.mg x = some (.int n t)) (hd : (x == ("__debug__" : Str)) = false := by decide) : PE X (.Name x pos) (tC (.int n)) := by
  obtain ⟨t, h⟩ := h
  exact pe_glob hg h ⟨t, rfl⟩ hd
theorem pe_gs {z : Str} {l : List Nat} (hg : Gl X x) (h : ∃ t, X.mg x = some (.str z t)) (hz : z = S l := by decide +kernel) (hd : (x == ("__debug__" : Str)) = false := by decide) : PE X (.Name x pos) (tC (.str (S l))) := by
  obtain ⟨t, h⟩ := h
  subst hz
  exact pe_glob hg h ⟨t, rfl⟩ hd
theorem pe_ty {n : String} (hg : Gl X x) (hm : X.mg x = none) (hv : bootBuiltins x = some (.type n)) (hn : x ≠ "__name__" := by decide) (hd : (x == ("__debug__" : Str)) = false := by decide) : PE X (.Name x pos) (tC (.ty n)) := pe_bltn hg hm hv rfl hn hd
theorem pe_s {z : Str} {j : Nat} (l : List Nat) (h : z = S l := by decide +kernel) : PE X (.Constant (.str z) j pos) (tC (.str (S l))) := by
  subst h
  exact pe_str
end
/-! ### asides: a side condition, then on -/
theorem z24 : sizeLine = 16777216 := rfl
section
variable {K : PySem.W.Frag} {σ σ' : L2.St} {H H1 : Hp} {Q : VK} {i j : Int} {a b : List Nat} {p q : Addr} {xs ys : List V} {x y v : V} {X : Cx} {k l : Bool} {z u : Str} {A B : Prop} {P G : Prop} {n m : Nat}
/-- what is none, told at once -/
instance : Go (if decide (V.non = V.non) = true then A else B) A := ⟨fun h => by rw [if_pos (by decide)]; exact h⟩
instance : Go (if decide (V.int i = V.non) = true then A else B) B := ⟨fun h => by rw [if_neg (by simp)]; exact h⟩
instance : Go (if decide (V.str z = V.non) = true then A else B) B := ⟨fun h => by rw [if_neg (by simp)]; exact h⟩
instance : Go (if decide (V.ref p = V.non) = true then A else B) B := ⟨fun h => by rw [if_neg (by simp)]; exact h⟩
instance : Go (if decide (V.bl k = V.non) = true then A else B) B := ⟨fun h => by rw [if_neg (by simp)]; exact h⟩
/-- branches by a proposition -/
theorem brT {p : Prop} [Decidable p] (h : p) (k : A) : if decide p = true then A else B := by rw [if_pos (decide_eq_true h)]; exact k
theorem brF {p : Prop} [Decidable p] (h : ¬ p) (k : B) : if decide p = true then A else B := by rw [if_neg (by simp [h])]; exact k
theorem br2 {p : Prop} [Decidable p] (h : p → A) (h' : ¬ p → B) : if decide p = true then A else B := by
  by_cases e : p
  · exact brT e (h e)
  · exact brF e (h' e)
theorem brb {c : Bool} (h : c = true → A) (h' : c = false → B) : if c = true then A else B := by
  cases c
  · exact h' rfl
  · exact h rfl
theorem pi_list' {tg l : Expr} {tl : TE} (hl : PE X l tl) (hK : X.K = K := by rfl) : PI X tg l (iList K tl) := by
  subst hK
  exact pi_list hl
theorem pi_tup' {tg l : Expr} {tl : TE} (hl : PE X l tl) (hK : X.K = K := by rfl) : PI X tg l (iTup K tl) := by
  subst hK
  exact pi_tup hl
theorem pe_fld' {e : Expr} {f : Str} {pos : Pos} {ta : TE} (he : PE X e ta) (hb : attributeBase e f X.env (eval e X.env) = eval e X.env) (hK : X.K = K := by rfl) : PE X (.Attribute e f pos) (tFld K ta f) := by
  subst hK
  exact pe_fld he hb
instance {r r' : R2} {ta tb tc : TE} : Go (tChain r r' ta tb tc σ H Q) (ta σ H fun x H1 => tb σ H1 fun y H2 => r x y H2 fun z H3 => isB z H3 fun k H4 => if k = true then tc σ H4 fun w H5 => r' y w H5 Q else Q (.bl false) H4) := ⟨fun k => k⟩
/-! ### builtin calls -/
def uLen (K : PySem.W.Frag) : List V → Hp → VK → Prop := fun xs H Q => ∃ x n, xs = [x] ∧ LenV K x H n ∧ Q (.int n) H
theorem cu_len (hK : X.K = K := by rfl) : CallR X (.builtin "len") (uLen K) := by
  subst hK
  exact call_len
instance (priority := 1100) [h : LR K H p xs] : Go (uLen K [.ref p] H Q) (Q (.int xs.length) H) := ⟨fun k => ⟨_, _, rfl, .inl ⟨xs, h.lr, rfl⟩, k⟩⟩
instance [h : TR K H p xs] : Go (uLen K [.ref p] H Q) (Q (.int xs.length) H) := ⟨fun k => ⟨_, _, rfl, .inr ⟨xs, h.tr, rfl⟩, k⟩⟩
instance : Go (uLen K [.str (S a)] H Q) (Sd (a.length ≤ sizeLine) (Q (.int a.length) H)) := ⟨fun k => ⟨_, a.length, rfl, ⟨by rw [SX.S_len]; exact k.1, (SX.S_len a).symm⟩, k.2⟩⟩
/-! isinstance -/
def uIsi (K : PySem.W.Frag) : List V → Hp → VK → Prop := fun xs H Q => rIsi K xs H Q ∨ rIsiT K xs H Q
theorem cu_isi (hK : X.K = K := by rfl) : CallR X (.builtin "isinstance") (uIsi K) := by
  subst hK
  exact call_isi.or call_isiT
theorem isi_b {x : V} {T t : String} {b : Bool} (ty : TyX K H x (.type t)) (h : kitB t T = some b) (k : Q (.bl b) H) : uIsi K [x, .ty T] H Q := .inl ⟨x, .ty T, _, _, b, rfl, .ty T, ty, kit_ty h, k⟩
theorem kb_ss : kitB "str" "str" = some true := by decide +kernel
theorem kb_si : kitB "str" "int" = some false := by decide +kernel
theorem kb_sb : kitB "str" "bool" = some false := by decide +kernel
theorem kb_sl : kitB "str" "list" = some false := by decide +kernel
theorem kb_st : kitB "str" "tuple" = some false := by decide +kernel
theorem kb_ii : kitB "int" "int" = some true := by decide +kernel
theorem kb_ib : kitB "int" "bool" = some false := by decide +kernel
theorem kb_is : kitB "int" "str" = some false := by decide +kernel
theorem kb_il : kitB "int" "list" = some false := by decide +kernel
theorem kb_it : kitB "int" "tuple" = some false := by decide +kernel
theorem kb_bi : kitB "bool" "int" = some true := by decide +kernel
theorem kb_bb : kitB "bool" "bool" = some true := by decide +kernel
theorem kb_bs : kitB "bool" "str" = some false := by decide +kernel
theorem kb_bl : kitB "bool" "list" = some false := by decide +kernel
theorem kb_bt : kitB "bool" "tuple" = some false := by decide +kernel
theorem kb_ns : kitB "NoneType" "str" = some false := by decide +kernel
theorem kb_ni : kitB "NoneType" "int" = some false := by decide +kernel
theorem kb_nb : kitB "NoneType" "bool" = some false := by decide +kernel
theorem kb_nl : kitB "NoneType" "list" = some false := by decide +kernel
theorem kb_nt : kitB "NoneType" "tuple" = some false := by decide +kernel
theorem kb_ll : kitB "list" "list" = some true := by decide +kernel
theorem kb_ls : kitB "list" "str" = some false := by decide +kernel
theorem kb_li : kitB "list" "int" = some false := by decide +kernel
theorem kb_lb : kitB "list" "bool" = some false := by decide +kernel
theorem kb_lt : kitB "list" "tuple" = some false := by decide +kernel
theorem kb_tt : kitB "tuple" "tuple" = some true := by decide +kernel
theorem kb_ts : kitB "tuple" "str" = some false := by decide +kernel
theorem kb_ti : kitB "tuple" "int" = some false := by decide +kernel
theorem kb_tb : kitB "tuple" "bool" = some false := by decide +kernel
theorem kb_tl : kitB "tuple" "list" = some false := by decide +kernel
instance : Go (uIsi K [.str z, .ty "str"] H Q) (Q (.bl true) H) := ⟨isi_b (.base (.str z)) kb_ss⟩
instance : Go (uIsi K [.str z, .ty "int"] H Q) (Q (.bl false) H) := ⟨isi_b (.base (.str z)) kb_si⟩
instance : Go (uIsi K [.int i, .ty "int"] H Q) (Q (.bl true) H) := ⟨isi_b (.base (.int i)) kb_ii⟩
instance : Go (uIsi K [.int i, .ty "bool"] H Q) (Q (.bl false) H) := ⟨isi_b (.base (.int i)) kb_ib⟩
instance : Go (uIsi K [.int i, .ty "str"] H Q) (Q (.bl false) H) := ⟨isi_b (.base (.int i)) kb_is⟩
instance : Go (uIsi K [.bl k, .ty "int"] H Q) (Q (.bl true) H) := ⟨isi_b (.base (.bl k)) kb_bi⟩
instance : Go (uIsi K [.bl k, .ty "bool"] H Q) (Q (.bl true) H) := ⟨isi_b (.base (.bl k)) kb_bb⟩
instance : Go (uIsi K [.bl k, .ty "str"] H Q) (Q (.bl false) H) := ⟨isi_b (.base (.bl k)) kb_bs⟩
instance : Go (uIsi K [.non, .ty "str"] H Q) (Q (.bl false) H) := ⟨isi_b (.base .non) kb_ns⟩
instance : Go (uIsi K [.non, .ty "int"] H Q) (Q (.bl false) H) := ⟨isi_b (.base .non) kb_ni⟩
theorem ty_l (h : SqL K H p xs) : TyX K H (.ref p) (.type "list") := by
  rcases h with (h | ⟨o, h⟩) | ⟨o, us, n, h, c, _⟩
  · exact .base (.lst h)
  · exact .base (.frz h)
  · exact .kList h c
theorem ty_t (h : SqT K H p xs) : TyX K H (.ref p) (.type "tuple") := by
  rcases h with (h | ⟨o, h⟩) | ⟨o, us, n, h, c, _⟩
  · exact .base (.tup h)
  · exact .fTuple h
  · exact .kTuple h c
/-- isinstance(x, (list, tuple)) -/
theorem isi_lt {tp : Addr} (hT : H tp = some (.tup [.ty "list", .ty "tuple"])) (h : SqL K H p xs) (k : Q (.bl true) H) : uIsi K [.ref p, .ref tp] H Q :=
  .inr ⟨.ref p, tp, _, _, _, true, rfl, hT, .cons (.ty "list") (.cons (.ty "tuple") .nil), ty_l h, kitAny_cons (kit_ty kb_ll) (fun e => nomatch e) (fun _ => rfl), k⟩
theorem isi_lt_t {tp : Addr} (hT : H tp = some (.tup [.ty "list", .ty "tuple"])) (h : SqT K H p xs) (k : Q (.bl true) H) : uIsi K [.ref p, .ref tp] H Q :=
  .inr ⟨.ref p, tp, _, _, _, true, rfl, hT, .cons (.ty "list") (.cons (.ty "tuple") .nil), ty_t h, kitAny_cons (kit_ty kb_tl) (fun _ => kitAny_cons (kit_ty kb_tt) (fun e => nomatch e) (fun _ => rfl)) (fun e => nomatch e), k⟩
/-! sum, any, all, max, min, list, tuple, int, str -/
theorem all_b {p : Addr} {bs : List Bool} (h : SqL K H p (bs.map V.bl)) (k : Q (.bl (bs.all id)) H) : rAll K [.ref p] H Q := ⟨p, bs, rfl, h, k⟩
theorem any_b {p : Addr} {bs : List Bool} (h : SqL K H p (bs.map V.bl)) (k : Q (.bl (bs.any id)) H) : rAny K [.ref p] H Q := ⟨p, bs, rfl, h, k⟩
theorem sum_i {p : Addr} {ns : List Int} (h : SqL K H p (ns.map V.int)) (k : Q (.int ns.sum) H) : rSum K [.ref p] H Q := ⟨p, ns, rfl, h, k⟩
theorem cu_all (hc : X.calm = true) (hK : X.K = K := by rfl) : CallR X (.builtin "all") (rAll K) := by
  subst hK
  exact cr_all hc
theorem cu_any (hc : X.calm = true) (hK : X.K = K := by rfl) : CallR X (.builtin "any") (rAny K) := by
  subst hK
  exact cr_any hc
theorem cu_sum (hc : X.calm = true) (hK : X.K = K := by rfl) : CallR X (.builtin "sum") (rSum K) := by
  subst hK
  exact cr_sum hc
def uInt : List V → Hp → VK → Prop := fun xs H Q => ((∃ i, xs = [.int i] ∧ Q (.int i) H) ∨ ∃ k, xs = [.bl k] ∧ Q (.int (if k then 1 else 0)) H) ∨ ∃ a n, xs = [.str a] ∧ intText? a = some n ∧ a.length ≤ 640 ∧ Q (.int n) H
theorem cu_int : CallR X (.type "int") uInt := call_int1.or call_int_str
instance : Go (uInt [.int i] H Q) (Q (.int i) H) := ⟨fun h => .inl (.inl ⟨i, rfl, h⟩)⟩
def uStr : List V → Hp → VK → Prop := fun xs H Q => (∃ i, xs = [.int i] ∧ i.natAbs.log2 < 1920 ∧ Q (.str (toString i)) H) ∨ ∃ a, xs = [.str a] ∧ Q (.str a) H
theorem cu_str : CallR X (.type "str") uStr := call_str_int.or SkE.call_str_str
/-- the figures of a whole number that is none below 0 -/
def nm (n : Nat) : List Nat := TL.numL n
theorem ts_nat (n : Nat) : (toString ((n : Nat) : Int) : Str) = S (nm n) := SX.num_S n
instance : Go (uStr [.str z] H Q) (Q (.str z) H) := ⟨fun h => .inr ⟨z, rfl, h⟩⟩
theorem str_n (h : n < 10 ^ 60) (k : Q (.str (S (nm n))) H) : uStr [.int (n : Int)] H Q := .inl ⟨n, rfl, by
  show n.log2 < 1920
  exact Nat.lt_trans (PySem.Flt.log2_lt_of (k := 200) (by decide) (Nat.lt_of_lt_of_le h (by decide))) (by decide), by rw [ts_nat]; exact k⟩
def uLst (K : PySem.W.Frag) : List V → Hp → VK → Prop := fun xs H Q => ∃ p ys, xs = [.ref p] ∧ (SqL K H p ys ∨ SqT K H p ys) ∧ ∀ l, H l = none → Q (.ref l) (upd H l (.lst ys))
theorem cu_lst (hK : X.K = K := by rfl) : CallR X (.type "list") (uLst K) := by
  subst hK
  exact call_list_of
instance (priority := 1100) [h : LR K H p xs] : Go (uLst K [.ref p] H Q) (newL xs H Q) := ⟨fun k => ⟨p, xs, rfl, .inl h.lr, k⟩⟩
instance [h : TR K H p xs] : Go (uLst K [.ref p] H Q) (newL xs H Q) := ⟨fun k => ⟨p, xs, rfl, .inr h.tr, k⟩⟩
def uTup (K : PySem.W.Frag) : List V → Hp → VK → Prop := fun xs H Q => ∃ p ys, xs = [.ref p] ∧ ((SqL K H p ys ∧ ∀ l, H l = none → Q (.ref l) (upd H l (.tup ys))) ∨ (SqT K H p ys ∧ Q (.ref p) H))
theorem cu_tup (hK : X.K = K := by rfl) : CallR X (.type "tuple") (uTup K) := by
  subst hK
  exact call_tuple_of
instance (priority := 1100) [h : LR K H p xs] : Go (uTup K [.ref p] H Q) (newT xs H Q) := ⟨fun k => ⟨p, xs, rfl, .inl ⟨h.lr, k⟩⟩⟩
instance [h : TR K H p xs] : Go (uTup K [.ref p] H Q) (Q (.ref p) H) := ⟨fun k => ⟨p, xs, rfl, .inr ⟨h.tr, k⟩⟩⟩
def uMax : List V → Hp → VK → Prop := fun xs H Q => ∃ i j, xs = [.int i, .int j] ∧ Q (.int (if j > i then j else i)) H
theorem cu_max (hc : X.calm = true) : CallR X (.builtin "max") uMax := call_max2 hc
instance : Go (uMax [.int i, .int j] H Q) (Q (.int (max i j)) H) := ⟨fun h => ⟨i, j, rfl, by
  rw [show (if j > i then j else i) = max i j by omega]
  exact h⟩⟩
def uMin : List V → Hp → VK → Prop := fun xs H Q => ∃ i j, xs = [.int i, .int j] ∧ Q (.int (if j < i then j else i)) H
theorem cu_min (hc : X.calm = true) : CallR X (.builtin "min") uMin := call_min2 hc
instance : Go (uMin [.int i, .int j] H Q) (Q (.int (min i j)) H) := ⟨fun h => ⟨i, j, rfl, by
  rw [show (if j < i then j else i) = min i j by omega]
  exact h⟩⟩
/-! ### lists: a new one, a tuple; methods -/
instance {tl : TA} : Go (tLst tl σ H Q) (tl σ H fun xs H1 => Sd (xs.length ≤ sizeLine) (newL xs H1 Q)) := ⟨fun k => k⟩
instance {tl : TA} : Go (tTup tl σ H Q) (tl σ H fun xs H1 => Sd (xs.length ≤ sizeLine) (newT xs H1 Q)) := ⟨fun k => k⟩
instance {T : String} {r : V → List V → Hp → VK → Prop} {to : TE} {t : TA} : Go (tBM K T r to t σ H Q) (to σ H fun x H1 => tyV K T x H1 ∧ t σ H1 fun xs H2 => r x xs H2 Q) := ⟨fun k => k⟩
instance {T : String} {r : V → List V → Hp → VK → Prop} {to : TE} : Go (tBM0 K T r to σ H Q) (to σ H fun x H1 => tyV K T x H1 ∧ r x [] H1 Q) := ⟨fun k => k⟩
theorem tyl (h : LM H p xs) : tyV K "list" (.ref p) H := by
  exact .inl ⟨rfl, xs, .inl (.inl h.lm)⟩
instance [h : LM H p xs] : Go (tyV K "list" (.ref p) H ∧ G) G := ⟨fun k => ⟨tyl h, k⟩⟩
instance [h : LM H p xs] : Go (rAppend (.ref p) [y] H Q) (Sd (xs.length < sizeLine) (setL p (xs ++ [y]) H fun H' => Q .non H')) := ⟨fun k => ⟨p, xs, y, rfl, rfl, h.lm, k.1, k.2⟩⟩
/-! ### to the end of a def; names for the steps -/
theorem cal_n {P : Program} {w : World} {K : PySem.W.Frag} {mg : PySem.Str → Option Value} {base : Heap} {k : Nat} {x qual : PySem.Str} {params : Arguments} {body : List Stmt} {scope : Scope} {f : Addr} {fd : FuncData} {ps : List PySem.Str} {sp : Sp}
    (F : FunD K x qual params body scope [] [] f fd) (g : mg x = some (.ref f)) (b : Binds K fd ps []) (ok : FnOk P w K mg base C8.CX0 k f fd ps sp) : C8.Cal P w K mg base k x sp [] := ⟨f, fd, ps, [], ok, g, F.kp, b, .nil⟩
theorem cal_d {P : Program} {w : World} {K : PySem.W.Frag} {mg : PySem.Str → Option Value} {base : Heap} {k : Nat} {x qual : PySem.Str} {params : Arguments} {body : List Stmt} {scope : Scope} {f : Addr} {fd : FuncData} {ps : List PySem.Str} {sp : Sp} {dvs dv : List V}
    (F : FunD K x qual params body scope dvs [] f fd) (g : mg x = some (.ref f)) (b : ∃ ds, Vals dv ds ∧ Binds K fd ps ds) (ok : FnOk P w K mg base C8.CX0 k f fd ps sp) : C8.Cal P w K mg base k x sp dv := by
  obtain ⟨ds, r, b⟩ := b
  exact ⟨f, fd, ps, ds, ok, g, F.kp, b, r⟩
theorem cx_K {CX : CXT} {P : Program} {w : World} {K : PySem.W.Frag} {mg : Str → Option Value} {base : Heap} {N : List Str} {qual : Str} {scope : Scope} {f : Addr} {cd : Value} {A : Around} {outer : List Env} {s : Shared} {H : Hp} {E : XK} : (cxOf CX P w K mg base N qual scope f cd A outer s H E).nox.K = K := rfl
theorem cx_K0 {CX : CXT} {P : Program} {w : World} {K : PySem.W.Frag} {mg : Str → Option Value} {base : Heap} {N : List Str} {qual : Str} {scope : Scope} {f : Addr} {cd : Value} {A : Around} {outer : List Env} {s : Shared} {H : Hp} {E : XK} : (cxOf CX P w K mg base N qual scope f cd A outer s H E).K = K := rfl
theorem cx_prog {CX : CXT} {P : Program} {w : World} {K : PySem.W.Frag} {mg : Str → Option Value} {base : Heap} {N : List Str} {qual : Str} {scope : Scope} {f : Addr} {cd : Value} {A : Around} {outer : List Env} {s : Shared} {H : Hp} {E : XK} : (cxOf CX P w K mg base N qual scope f cd A outer s H E).nox.prog = P := rfl
theorem cx_w {CX : CXT} {P : Program} {w : World} {K : PySem.W.Frag} {mg : Str → Option Value} {base : Heap} {N : List Str} {qual : Str} {scope : Scope} {f : Addr} {cd : Value} {A : Around} {outer : List Env} {s : Shared} {H : Hp} {E : XK} : (cxOf CX P w K mg base N qual scope f cd A outer s H E).nox.w = w := rfl
theorem qb {a b : Bool} (k : Q (.bl a) H) (e : a = b) : Q (.bl b) H := e ▸ k
theorem qv {x y : V} (k : Q x H) (e : x = y) : Q y H := e ▸ k
end
end U

namespace U
open PySem PySem.Spec PyProof.Rows L2
open SX (S)
/-! ### walks -/
def forG (J : It) (g : TG) (tb : TS) (D : Ends) (σ : L2.St) (H1 : Hp) : Prop := ∃ W : Nat → Nat → L2.St → Hp → Prop, (∃ m, W 0 m σ H1) ∧ ∀ i m σ H, W i m σ H →
  (J.stop i H ∧ D.nx σ H) ∨ (J.go i H ∧ ∃ N : L2.St → Hp → Prop, (∀ σ' H', N σ' H' → ∃ m', m' < m ∧ W (i + 1) m' σ' H') ∧ ∀ x H', J.yld i H x H' → g x σ H' fun σ2 H2 => tb { D with nx := N, ct := N, bk := D.nx } σ2 H2)
def lcG (J : It) (g : TG) (tt : TT) (te : TE) (vs : List Nat) (σ : L2.St) (H1 : Hp) (Q : VK) : Prop := ∀ D, H1 D = none → ∃ W : Nat → Nat → Hp → Prop, (∃ m, W 0 m (upd H1 D (.lst []))) ∧ ∀ i m H, W i m H →
  (J.stop i H ∧ Q (.ref D) H) ∨ (J.go i H ∧ ∃ Nx : Hp → Prop, (∀ H', Nx H' → ∃ m', m' < m ∧ W (i + 1) m' H') ∧ ∀ x H', J.yld i H x H' → g x (wipe σ vs) H' fun σ2 H2 => wipe σ2 vs = wipe σ vs ∧ tt σ2 H2 fun b H3 =>
    if b = true then te σ2 H3 fun y H4 => ∃ acc, H4 D = some (.lst acc) ∧ acc.length < sizeLine ∧ Nx (upd H4 D (.lst (acc ++ [y]))) else Nx H3)
section
variable {K : PySem.W.Frag} {σ σ' : L2.St} {H H1 : Hp} {Q : VK} {i j : Int} {a b : List Nat} {p q : Addr} {xs ys : List V} {x y v : V} {g : TG} {tb : TS} {D : Ends} {tt : TT} {te : TE} {vs : List Nat} {R : It → Hp → Prop} {wi : TI} {ta : TA}
instance : Go (tFor wi g tb D σ H) (wi σ H fun J H1 => forG J g tb D σ H1) := ⟨fun k => k⟩
instance : Go (tLc wi g tt te vs σ H Q) (wi σ H fun J H1 => lcG J g tt te vs σ H1 Q) := ⟨fun k => k⟩
def iL (K : PySem.W.Frag) (x : V) (H : Hp) (R : It → Hp → Prop) : Prop := ∃ a, x = .ref a ∧ (∃ xs, SqL K H a xs) ∧ R (Itl K a) H
def iT (K : PySem.W.Frag) (x : V) (H : Hp) (R : It → Hp → Prop) : Prop := ∃ a, x = .ref a ∧ (∃ xs, SqT K H a xs) ∧ R (Itt K a) H
def iS (x : V) (H : Hp) (R : It → Hp → Prop) : Prop := ∃ z, x = .str z ∧ R (Its z) H
instance : Go (iList K te σ H R) (te σ H fun x H1 => iL K x H1 R) := ⟨fun k => k⟩
instance : Go (iTup K te σ H R) (te σ H fun x H1 => iT K x H1 R) := ⟨fun k => k⟩
instance : Go (iStr te σ H R) (te σ H fun x H1 => iS x H1 R) := ⟨fun k => k⟩
instance [h : LR K H p xs] : Go (iL K (.ref p) H R) (R (Itl K p) H) := ⟨fun k => ⟨p, rfl, ⟨xs, h.lr⟩, k⟩⟩
instance [h : TR K H p xs] : Go (iT K (.ref p) H R) (R (Itt K p) H) := ⟨fun k => ⟨p, rfl, ⟨xs, h.tr⟩, k⟩⟩
instance {z : Str} : Go (iS (.str z) H R) (R (Its z) H) := ⟨fun k => ⟨z, rfl, k⟩⟩
def iR1 (vs : List V) (H : Hp) (R : It → Hp → Prop) : Prop := ∃ j : Int, vs = [.int j] ∧ -(2 ^ 62) ≤ j ∧ j < 2 ^ 62 ∧ R (Itr 0 j.toNat) H
def iR2 (vs : List V) (H : Hp) (R : It → Hp → Prop) : Prop := ∃ i j : Int, vs = [.int i, .int j] ∧ (-(2 ^ 62) ≤ i ∧ i < 2 ^ 62 ∧ -(2 ^ 62) ≤ j ∧ j < 2 ^ 62) ∧ R (Itr i (j - i).toNat) H
instance : Go (iRng1 ta σ H R) (ta σ H fun vs H1 => iR1 vs H1 R) := ⟨fun k => k⟩
instance : Go (iRng2 ta σ H R) (ta σ H fun vs H1 => iR2 vs H1 R) := ⟨fun k => k⟩
instance : Go (iR1 [.int i] H R) (Sd (-(2 ^ 62) ≤ i ∧ i < 2 ^ 62) (R (Itr 0 i.toNat) H)) := ⟨fun k => ⟨i, rfl, k.1.1, k.1.2, k.2⟩⟩
instance : Go (iR2 [.int i, .int j] H R) (Sd (-(2 ^ 62) ≤ i ∧ i < 2 ^ 62 ∧ -(2 ^ 62) ≤ j ∧ j < 2 ^ 62) (R (Itr i (j - i).toNat) H)) := ⟨fun k => ⟨i, j, rfl, k.1, k.2⟩⟩
/-! for -/
variable {n : Nat} {G : Hp → Prop} {Y : Nat → Hp → V → Hp → Prop} {J : It}
theorem for_w (w : Walk J n G Y) (Pv : Nat → L2.St → Hp → Prop) (h0 : Pv 0 σ H) (hG : ∀ i σ H, i ≤ n → Pv i σ H → G H)
    (hs : ∀ i x σ H H', i < n → Pv i σ H → Y i H x H' → g x σ H' fun σ2 H2 => tb { D with nx := Pv (i + 1), ct := Pv (i + 1), bk := D.nx } σ2 H2) (hd : ∀ σ H, Pv n σ H → D.nx σ H) : forG J g tb D σ H := for_it w Pv h0 hG hs hd
/-- over range -/
theorem for_r (Pv : Nat → L2.St → Hp → Prop) (h0 : Pv 0 σ H) (hs : ∀ k σ H, k < n → Pv k σ H → g (.int (i + (k : Nat))) σ H fun σ2 H2 => tb { D with nx := Pv (k + 1), ct := Pv (k + 1), bk := D.nx } σ2 H2) (hd : ∀ σ H, Pv n σ H → D.nx σ H) : forG (Itr i n) g tb D σ H :=
  for_w walk_range Pv h0 (fun _ _ _ _ _ => trivial) (fun k x σ H H' hk p y => by
    obtain ⟨rfl, rfl⟩ := y
    exact hs k σ _ hk p) hd
/-- over a list -/
theorem for_l (Pv : Nat → L2.St → Hp → Prop) (h0 : Pv 0 σ H) (hG : ∀ i σ H, i ≤ xs.length → Pv i σ H → SqL K H p xs) (hs : ∀ k x σ H, k < xs.length → xs[k]? = some x → Pv k σ H → g x σ H fun σ2 H2 => tb { D with nx := Pv (k + 1), ct := Pv (k + 1), bk := D.nx } σ2 H2) (hd : ∀ σ H, Pv xs.length σ H → D.nx σ H) : forG (Itl K p) g tb D σ H :=
  for_w (walk_list (xs := xs)) Pv h0 hG (fun k x σ H H' hk p y => by
    obtain ⟨rfl, e⟩ := y
    exact hs k x σ _ hk e p) hd
theorem for_t (Pv : Nat → L2.St → Hp → Prop) (h0 : Pv 0 σ H) (hG : ∀ i σ H, i ≤ xs.length → Pv i σ H → SqT K H p xs) (hs : ∀ k x σ H, k < xs.length → xs[k]? = some x → Pv k σ H → g x σ H fun σ2 H2 => tb { D with nx := Pv (k + 1), ct := Pv (k + 1), bk := D.nx } σ2 H2) (hd : ∀ σ H, Pv xs.length σ H → D.nx σ H) : forG (Itt K p) g tb D σ H :=
  for_w (walk_tup (xs := xs)) Pv h0 hG (fun k x σ H H' hk p y => by
    obtain ⟨rfl, e⟩ := y
    exact hs k x σ _ hk e p) hd
theorem for_s (Pv : Nat → L2.St → Hp → Prop) (h0 : Pv 0 σ H) (hs : ∀ k c σ H, k < a.length → a[k]? = some c → Pv k σ H → g (.str (S [c])) σ H fun σ2 H2 => tb { D with nx := Pv (k + 1), ct := Pv (k + 1), bk := D.nx } σ2 H2) (hd : ∀ σ H, Pv a.length σ H → D.nx σ H) : forG (Its (S a)) g tb D σ H :=
  for_w (walk_str (z := S a)) Pv h0 (fun _ _ _ _ _ => trivial) (fun k x σ H H' hk p y => by
    obtain ⟨rfl, c, e, rfl⟩ := y
    exact hs k c σ _ (by simpa [S] using hk) (by simpa [S] using e) p) (fun σ H p => hd σ H (by simpa [S] using p))
/-! comprehensions that leave the heap as it is: what is made of each -/
theorem fm_take {α β : Type} (r : α → Option β) (l : List α) {k : Nat} {x : α} (e : l[k]? = some x) : (l.take (k + 1)).filterMap r = (l.take k).filterMap r ++ (r x).toList := by
  rw [List.take_succ, e, List.filterMap_append]
  cases h : r x <;> simp [h]
/-- one turn of a comprehension, ends put in -/
def turn (g : TG) (tt : TT) (te : TE) (vs : List Nat) (σw : L2.St) (x : V) (H : Hp) (A : V → Hp → Prop) (B : Hp → Prop) : Prop := g x σw H fun σ2 H2 => wipe σ2 vs = σw ∧ tt σ2 H2 fun b H3 => if b = true then te σ2 H3 A else B H3
theorem ex_up {H H' : Hp} {D : Addr} {o : HO} (nw : H D = none) (e : ∀ a o, H a = some o → H' a = some o) : ∀ a u, H a = some u → (upd H' D o) a = some u := fun a u h => by
  rw [upd_ne (ne_of_none h nw)]
  exact e a u h
theorem lc_core0 {α : Type} {l : List α} (w : Walk J l.length G Y) (f : α → V) (r : α → Option V) {σw : L2.St} (hw : wipe σ vs = σw) (hl : l.length ≤ sizeLine) (hG : ∀ H', Ex H H' → G H')
    (hy : ∀ i H x H', i < l.length → Y i H x H' → H' = H ∧ ∃ z, l[i]? = some z ∧ x = f z)
    (ht : ∀ z H' A B, z ∈ l → Ex H H' → (∀ y, r z = some y → A y H') → (r z = none → B H') → turn g tt te vs σw (f z) H' A B)
    (k : ∀ D H', Nw H D → Ex H H' → LM H' D (l.filterMap r) → Q (.ref D) H') : lcG J g tt te vs σ H Q := by
  intro D hD
  refine lc_it w (fun i H' => (∀ a o, H a = some o → H' a = some o) ∧ H' D = some (.lst ((l.take i).filterMap r))) ⟨ex_up hD (fun _ _ h => h), by rw [upd_same]; rfl⟩ (fun i H' _ p => hG H' ⟨p.1⟩) (fun i x H1 H2 hi p y => ?_) (fun H' p => k D H' ⟨hD⟩ ⟨p.1⟩ ⟨by have := p.2; rwa [List.take_length] at this⟩)
  obtain ⟨rfl, z, hz, rfl⟩ := hy i H1 x H2 hi y
  rw [hw]
  refine ht z _ _ _ (List.mem_of_getElem? hz) ⟨p.1⟩ (fun y hr => ⟨_, p.2, ?_, ex_up hD p.1, ?_⟩) (fun hr => ⟨p.1, ?_⟩)
  · have h1 := List.length_filterMap_le r (l.take i)
    have h2 : (l.take i).length ≤ i := List.length_take_le i l
    omega
  · rw [upd_same, fm_take r l hz, hr]; rfl
  · rw [p.2, fm_take r l hz, hr]; simp
/-- over a text -/
theorem lc_s {σw : L2.St} (hw : wipe σ vs = σw) (r : Nat → Option V) (hl : a.length ≤ sizeLine) (ht : ∀ c H' A B, c ∈ a → Ex H H' → (∀ y, r c = some y → A y H') → (r c = none → B H') → turn g tt te vs σw (.str (S [c])) H' A B)
    (k : ∀ D H', Nw H D → Ex H H' → LM H' D (a.filterMap r) → Q (.ref D) H') : lcG (Its (S a)) g tt te vs σ H Q :=
  lc_core0 (l := a) (G := fun _ => True) (Y := fun i H v H' => H' = H ∧ ∃ c, a[i]? = some c ∧ v = .str (S [c])) (by
    have w := walk_str (z := S a)
    refine ⟨fun i H hi h => w.goes i H (by simpa [S] using hi) trivial, fun H h => ?_, fun i H x H' hi h y => ?_⟩
    · have := w.stops H trivial
      simpa [S] using this
    · obtain ⟨e, c, ec, ex⟩ := w.yields i H x H' (by simpa [S] using hi) trivial y
      exact ⟨e, c, by simpa [S] using ec, ex⟩) (fun c => .str (S [c])) r hw hl (fun _ _ => trivial) (fun i H x H' hi y => y) ht k
/-- over a range -/
theorem lc_r {m : Nat} {σw : L2.St} (hw : wipe σ vs = σw) (r : Nat → Option V) (hl : m ≤ sizeLine) (ht : ∀ z H' A B, z < m → Ex H H' → (∀ y, r z = some y → A y H') → (r z = none → B H') → turn g tt te vs σw (.int (i + (z : Nat))) H' A B)
    (k : ∀ D H', Nw H D → Ex H H' → LM H' D ((List.range m).filterMap r) → Q (.ref D) H') : lcG (Itr i m) g tt te vs σ H Q :=
  lc_core0 (l := List.range m) (G := fun _ => True) (Y := YFn fun z => .int (i + (z : Nat))) (by rw [List.length_range]; exact walk_range) (fun z : Nat => .int (i + (z : Nat))) r hw (by simpa using hl) (fun _ _ => trivial)
    (fun j H x H' hj y => ⟨y.1, j, List.getElem?_range (by simpa using hj), y.2⟩) (fun z H' A B hz => ht z H' A B (by simpa using hz)) k
/-- over a list -/
theorem lc_l {σw : L2.St} [hx : LR K H p xs] (hw : wipe σ vs = σw) (r : V → Option V) (hl : xs.length ≤ sizeLine) (ht : ∀ z H' A B, z ∈ xs → Ex H H' → (∀ y, r z = some y → A y H') → (r z = none → B H') → turn g tt te vs σw z H' A B)
    (k : ∀ D H', Nw H D → Ex H H' → LM H' D (xs.filterMap r) → Q (.ref D) H') : lcG (Itl K p) g tt te vs σ H Q :=
  lc_core0 (l := xs) (walk_list (xs := xs)) id r hw hl (fun H' e => ex_l e.ex hx.lr) (fun j H x H' hj y => ⟨y.1, x, y.2, rfl⟩) ht k
theorem lc_t {σw : L2.St} [hx : TR K H p xs] (hw : wipe σ vs = σw) (r : V → Option V) (hl : xs.length ≤ sizeLine) (ht : ∀ z H' A B, z ∈ xs → Ex H H' → (∀ y, r z = some y → A y H') → (r z = none → B H') → turn g tt te vs σw z H' A B)
    (k : ∀ D H', Nw H D → Ex H H' → LM H' D (xs.filterMap r) → Q (.ref D) H') : lcG (Itt K p) g tt te vs σ H Q :=
  lc_core0 (l := xs) (walk_tup (xs := xs)) id r hw hl (fun H' e => ex_t e.ex hx.tr) (fun j H x H' hj y => ⟨y.1, x, y.2, rfl⟩) ht k
variable {A : V → Hp → Prop} {B : Hp → Prop} {σw : L2.St}
instance : Go (turn g tYes te vs σw x H A B) (g x σw H fun σ2 H2 => Sd (wipe σ2 vs = σw) (te σ2 H2 A)) := ⟨fun k => by
  unfold turn tYes
  simp only [if_true]
  exact k⟩
theorem turn_tt (k : g x σw H fun σ2 H2 => Sd (wipe σ2 vs = σw) (tt σ2 H2 fun b H3 => if b = true then te σ2 H3 A else B H3)) : turn g tt te vs σw x H A B := k
end
end U

namespace PySem.AutoSeq1
open PySem
theorem ext_tup (l : Addr) (items : Array Value) (n : Nat) (b : Addr) (items2 : Array Value) (n2 : Nat) (d0 : Option Addr) (sl : Array (Option Value)) (hs0 : ¬(!items.isEmpty && Builtin.List.listTooLong (items.size + items2.size)) = true) (hs1 : items.size ≤ sizeLine) (hs2 : items.size + items2.size ≤ sizeLine + 1) :
    Meets (Builtin.«list.extend» ⟨[.ref l, .ref b], []⟩) (fun _ R s => s.heap.get? l = some { cls := .type "list", dict := none, data := .seq items n, slots := #[] } ∧ s.heap.get? b = some { cls := .type "tuple", dict := d0, data := .seq items2 n2, slots := sl } ∧ R (.ok (.ret Value.none)) { s with heap := s.heap.update l (Obj.mapSeq fun x => x ++ items2), toks := s.toks }) :=
  .of_wp fun prog w A R s h => by
    obtain ⟨hp, g, d, tk, os⟩ := s; obtain ⟨hl, hb, h⟩ := h; have f1 := idx_int; have f2 := sub_tuple_tuple; have f3 := sub_list_list; have f4 := sub_tuple_list; have f5 := sub_list_tuple;
    have hz' : (items ++ items2).size ≤ sizeLine + 1 := by rw [Array.size_append]; exact hs2
    wp_walk using (wpAny_updateSeq hl rfl (hz := hs1) (_hz' := hz')), wpAny_loadPart' hl, wpAny_loadPart' hb; exact ⟨_, rfl, h⟩
end PySem.AutoSeq1
namespace U
open PySem PySem.Spec PyProof.Rows L2
open SX (S)
/-! ### a tuple of one's own -/
class TM (H : Hp) (a : Addr) (xs : outParam (List V)) : Prop where
  tm : H a = some (.tup xs)
section
variable {K : PySem.W.Frag} {H H' H0 : Hp} {a p : Addr} {xs : List V}
instance [TM H a xs] : TR K H a xs := ⟨.inl (.inl TM.tm)⟩
instance [Ex H H'] [TM H a xs] : TM H' a xs := ⟨Ex.ex _ _ (TM.tm (H := H))⟩
instance [m : Mu H p H'] [h : TM H a xs] : TM H' a xs := by
  obtain ⟨zs, hz⟩ := m.was
  exact ⟨m.mu _ _ (ne_of h.tm hz (by intro z; cases z)) h.tm⟩
theorem al_t' {xs : List V} {H : Hp} {Q : VK} (k : ∀ (p : Addr) (H' : Hp), Nw H p → Ex H H' → TM H' p xs → Q (.ref p) H') : newT xs H Q := fun p h => k p _ ⟨h⟩ (ex_new h) ⟨upd_same⟩
end
/-! ### instances change -/
/-- all but the instance at p is known on -/
class Mi (H : outParam Hp) (p : outParam Addr) (H' : Hp) : Prop where
  mi : ∀ a o, a ≠ p → H a = some o → H' a = some o
  was : ∃ C dx fs, H p = some (.ins C dx fs)
section
variable {K : PySem.W.Frag} {H H' H0 : Hp} {a p : Addr} {xs : List V}
theorem mi_t (m : Mi H p H') (h : SqT K H a xs) : SqT K H' a xs := by
  obtain ⟨C, dx, fs, hz⟩ := m.was
  rcases h with (h | ⟨o, h⟩) | h
  · exact .inl (.inl (m.mi _ _ (ne_of h hz (by intro z; cases z)) h))
  · exact .inl (.inr ⟨o, m.mi _ _ (ne_of h hz (by intro z; cases z)) h⟩)
  · exact .inr h
theorem mi_l (m : Mi H p H') (h : SqL K H a xs) : SqL K H' a xs := by
  obtain ⟨C, dx, fs, hz⟩ := m.was
  rcases h with (h | ⟨o, h⟩) | h
  · exact .inl (.inl (m.mi _ _ (ne_of h hz (by intro z; cases z)) h))
  · exact .inl (.inr ⟨o, m.mi _ _ (ne_of h hz (by intro z; cases z)) h⟩)
  · exact .inr h
instance [m : Mi H p H'] [h : TR K H a xs] : TR K H' a xs := ⟨mi_t m h.tr⟩
instance [m : Mi H p H'] [h : LR K H a xs] : LR K H' a xs := ⟨mi_l m h.lr⟩
instance [m : Mi H p H'] [h : LM H a xs] : LM H' a xs := by
  obtain ⟨C, dx, fs, hz⟩ := m.was
  exact ⟨m.mi _ _ (ne_of h.lm hz (by intro z; cases z)) h.lm⟩
instance [m : Mi H p H'] [h : TM H a xs] : TM H' a xs := by
  obtain ⟨C, dx, fs, hz⟩ := m.was
  exact ⟨m.mi _ _ (ne_of h.tm hz (by intro z; cases z)) h.tm⟩
instance {C dx : Addr} {fs : List (Str × V)} [m : Mi H p H'] [n : Ne' a p] [h : IR H a C dx fs] : IR H' a C dx fs := ⟨m.mi _ _ n.ne h.ir⟩
instance {C dx : Addr} {fs : List (Str × V)} [w : Nw H0 p] [h : IR H0 a C dx fs] : Ne' a p := ⟨ne_of_none h.ir w.nw⟩
instance {H1 H2 H0 : Hp} [m : Mi H1 p H2] [w : Nw H0 p] [t : Et H H0] [u : Et H H1] : Et H H2 := ⟨fun a o h => m.mi a o (ne_of_none (t.et a o h) w.nw) (u.et a o h)⟩
/-- a field is set -/
def setI (p C dx : Addr) (fs : List (Str × V)) (H : Hp) (Q : Hp → Prop) : Prop := Q (upd H p (.ins C dx fs))
theorem mi_i {p C dx : Addr} {fs gs : List (Str × V)} {H : Hp} {Q : Hp → Prop} [h : IR H p C dx gs] (k : ∀ H', Mi H p H' → IR H' p C dx fs → Q H') : setI p C dx fs H Q := k _ ⟨fun a o n e => by rw [upd_ne n]; exact e, ⟨C, dx, gs, h.ir⟩⟩ ⟨upd_same⟩
end
/-- a class whose instances have this attribute -/
class CA (K : PySem.W.Frag) (C : Addr) (f : Str) : Prop where
  cls : Cls K C
  na : NoAttr K C f
section
variable {K : PySem.W.Frag} {σ σ' : L2.St} {H H1 : Hp} {Q : VK} {i j : Int} {a b : List Nat} {p q : Addr} {xs ys : List V} {x y v : V} {X : Cx} {k l : Bool} {z u : Str} {A B : Prop} {P G : Prop} {n m : Nat} {te ta tv : TE} {D : Ends} {C dx : Addr} {fs : List (Str × V)} {f : Str}
def fldG (K : PySem.W.Frag) (x : V) (f : Str) (H1 : Hp) (Q : VK) : Prop := ∃ a C dx fs v, x = .ref a ∧ H1 a = some (.ins C dx fs) ∧ Cls K C ∧ NoAttr K C f ∧ fs.lookup f = some v ∧ Q v H1
instance : Go (tFld K ta f σ H Q) (ta σ H fun x H1 => fldG K x f H1 Q) := ⟨fun k => k⟩
theorem fld_of [h : IR H p C dx fs] [c : CA K C f] (k : ∃ v, fs.lookup f = some v ∧ Q v H) : fldG K (.ref p) f H Q := ⟨p, C, dx, fs, k.choose, rfl, h.ir, c.cls, c.na, k.choose_spec.1, k.choose_spec.2⟩
def sfldG (K : PySem.W.Frag) (x y : V) (f : Str) (H : Hp) (R : Hp → Prop) : Prop := ∃ a C dx fs, x = .ref a ∧ H a = some (.ins C dx fs) ∧ Cls K C ∧ NoAttr K C f ∧ fs.length < 1000 ∧ R (upd H a (.ins C dx (putF f y fs)))
instance : Go (sFld K ta tv f D σ H) (tv σ H fun y H1 => ta σ H1 fun x H2 => sfldG K x y f H2 fun H3 => D.nx σ H3) := ⟨fun k => k⟩
theorem sfld_of {gs : List (Str × V)} {R : Hp → Prop} [h : IR H p C dx fs] [c : CA K C f] (hl : fs.length < 1000) (e : putF f y fs = gs) (k : setI p C dx gs H R) : sfldG K (.ref p) y f H R := ⟨p, C, dx, fs, rfl, h.ir, c.cls, c.na, hl, by rw [e]; exact k⟩
/-! ### texts in lists -/
abbrev tx (a : List Nat) : V := .str (S a)
/-- all are texts -/
class TX (xs : List V) (ys : outParam (List (List Nat))) : Prop where
  eq : xs = ys.map tx
instance {ys : List (List Nat)} : TX (ys.map tx) ys := ⟨rfl⟩
instance : TX [] [] := ⟨rfl⟩
instance {ys : List (List Nat)} [h : TX xs ys] : TX (.str (S a) :: xs) (a :: ys) := ⟨by rw [h.eq]; rfl⟩
instance {ys zs : List (List Nat)} [h : TX xs ys] {xt : List V} [g : TX xt zs] : TX (xs ++ xt) (ys ++ zs) := ⟨by rw [h.eq, g.eq, List.map_append]⟩
instance {ys : List (List Nat)} [h : TX xs ys] : TX xs.reverse ys.reverse := ⟨by rw [h.eq, List.map_reverse]⟩
theorem tx_str (ys : List (List Nat)) : (ys.map S).map V.str = ys.map tx := by rw [List.map_map]; rfl
def uJoin (K : PySem.W.Frag) : V → List V → Hp → VK → Prop := fun x xs H Q => ∃ a p, ∃ ys : List Str, x = .str a ∧ xs = [.ref p] ∧ (SqL K H p (ys.map V.str) ∨ SqT K H p (ys.map V.str)) ∧ (ys.map (·.length)).sum + ys.length * a.length ≤ 16777216 ∧ Q (.str (Txt.join a ys)) H
theorem mu_join (hK : X.K = K := by rfl) : MtR X "str.join" (uJoin K) := by
  subst hK
  exact mt_join
theorem jn_len (a : List Nat) (ys : List (List Nat)) : ((ys.map S).map (·.length)).sum + (ys.map S).length * (S a).length = (ys.map (·.length)).sum + ys.length * a.length := by rw [SX.lens, List.length_map, SX.S_len]
instance (priority := 1100) {ys : List (List Nat)} [h : LR K H p xs] [t : TX xs ys] : Go (uJoin K (.str (S a)) [.ref p] H Q) (Sd ((ys.map (·.length)).sum + ys.length * a.length ≤ 16777216) (Q (.str (S (TL.joinL a ys))) H)) :=
  ⟨fun k => ⟨S a, p, ys.map S, rfl, rfl, .inl (by rw [tx_str, ← t.eq]; exact h.lr), by rw [jn_len]; exact k.1, by rw [SX.join_S]; exact k.2⟩⟩
instance {ys : List (List Nat)} [h : TR K H p xs] [t : TX xs ys] : Go (uJoin K (.str (S a)) [.ref p] H Q) (Sd ((ys.map (·.length)).sum + ys.length * a.length ≤ 16777216) (Q (.str (S (TL.joinL a ys))) H)) :=
  ⟨fun k => ⟨S a, p, ys.map S, rfl, rfl, .inr (by rw [tx_str, ← t.eq]; exact h.tr), by rw [jn_len]; exact k.1, by rw [SX.join_S]; exact k.2⟩⟩
/-! methods of texts -/
def tM1G (r : V → List V → Hp → VK → Prop) (x : V) (te : TE) (σ : L2.St) (H1 : Hp) (Q : VK) : Prop := (∃ a, x = .str a) ∧ te σ H1 fun y H2 => r x [y] H2 Q
instance {r : V → List V → Hp → VK → Prop} {to : TE} : Go (tM1 r to te σ H Q) (to σ H fun x H1 => tM1G r x te σ H1 Q) := ⟨fun k => k⟩
instance {r : V → List V → Hp → VK → Prop} : Go (tM1G r (.str z) te σ H Q) (te σ H fun y H2 => r (.str z) [y] H2 Q) := ⟨fun k => ⟨⟨z, rfl⟩, k⟩⟩
theorem rstrip_tl : ∀ l : List Nat, (l.reverse.dropWhile (· == 48)).reverse = (l.reverse.dropWhile (· == 48)).reverse := fun _ => rfl
/-! f-texts -/
def fmtG (x : V) (H1 : Hp) (Q : VK) : Prop := (∃ y : Str, x = .str y ∧ y.length ≤ sizeLine ∧ Q (.str y) H1) ∨ ∃ i : Int, x = .int i ∧ i.natAbs.log2 < 1920 ∧ Q (.str (toString i)) H1
instance : Go (tFmt te σ H Q) (te σ H fun x H1 => fmtG x H1 Q) := ⟨fun k => k⟩
instance : Go (fmtG (.str (S a)) H Q) (Sd (a.length ≤ sizeLine) (Q (.str (S a)) H)) := ⟨fun k => .inl ⟨S a, rfl, by rw [SX.S_len]; exact k.1, k.2⟩⟩
theorem log_n (h : n < 10 ^ 60) : (n : Int).natAbs.log2 < 1920 := by
  show n.log2 < 1920
  exact Nat.lt_trans (PySem.Flt.log2_lt_of (k := 200) (by decide) (Nat.lt_of_lt_of_le h (by decide))) (by decide)
instance : Go (fmtG (.int (n : Int)) H Q) (Sd (n < 10 ^ 60) (Q (.str (S (nm n))) H)) := ⟨fun k => .inr ⟨n, rfl, log_n k.1, by rw [ts_nat]; exact k.2⟩⟩
instance : Go (uStr [.int (n : Int)] H Q) (Sd (n < 10 ^ 60) (Q (.str (S (nm n))) H)) := ⟨fun k => str_n k.1 k.2⟩
def uJs (ts : List TE) : TE := fun σ H Q => tJs ts Str.empty σ H fun out H1 => Q (.str out) H1
theorem pe_joinedU {v1 v2 : Expr} {rest : List Expr} {ts : List TE} {pos : Pos} (h : PJ X (v1 :: v2 :: rest) ts) : PE X (.JoinedStr (v1 :: v2 :: rest) pos) (uJs ts) := pe_joined h
def jsG (x : V) (acc : Str) (ts : List TE) (σ : L2.St) (H : Hp) (R : Str → Hp → Prop) : Prop := ∃ y : Str, x = .str y ∧ (acc ++ y).length ≤ sizeLine ∧ tJs ts (acc ++ y) σ H R
variable {t : TE} {ts : List TE} {R : Str → Hp → Prop}
instance : Go (uJs ts σ H Q) (tJs ts (S []) σ H fun out H1 => Q (.str out) H1) := ⟨fun k => k⟩
instance : Go (tJs (t :: ts) z σ H R) (t σ H fun x H1 => jsG x z ts σ H1 R) := ⟨fun k => k⟩
instance : Go (tJs [] z σ H R) (R z H) := ⟨fun k => k⟩
instance : Go (jsG (.str (S b)) (S a) ts σ H R) (Sd ((a ++ b).length ≤ sizeLine) (tJs ts (S (a ++ b)) σ H R)) := ⟨fun k => ⟨S b, rfl, by rw [SX.S_cat, SX.S_len]; exact k.1, by rw [SX.S_cat]; exact k.2⟩⟩
/-! ### a list or a tuple, walked -/
def iSeq (K : PySem.W.Frag) (tl : TE) : TI := fun σ H R => tl σ H fun x H1 => ∃ a, x = .ref a ∧ (((∃ xs, SqL K H1 a xs) ∧ R (Itl K a) H1) ∨ ((∃ xs, SqT K H1 a xs) ∧ R (Itt K a) H1))
theorem pi_seq {tg l : Expr} {tl : TE} (hl : PE X l tl) (hK : X.K = K := by rfl) : PI X tg l (iSeq K tl) := by
  subst hK
  refine ⟨fun pins s σ H R I h => ?_⟩
  refine thn (hl.run pins s σ H _ I h) fun v s1 ⟨x, H1, I1, r1, q1⟩ => ?_
  obtain ⟨a, e, (⟨⟨xs, hq⟩, q⟩ | ⟨⟨xs, hq⟩, q⟩)⟩ := q1
  · subst e
    cases r1
    obtain ⟨its, rv, p, hz⟩ := I1.list hq
    refine wpAny_pyIter_list p.isList ?_
    refine ⟨s1.heap.objs.size, [s1.heap.objs.size], _, _, H1, rfl, I1.kept (t' := s1.toks) fun b o e => Heap.get?_push_of_some _ e, turn_list a _, ⟨_, Heap.get?_push_size _ rfl, rfl, rfl⟩, fun b hb => ?_, q⟩
    have e : b = s1.heap.objs.size := by simpa using hb
    subst e
    exact I1.fpOk (Nat.le_refl _) (I1.hok.fresh (Nat.le_refl _))
  · subst e
    cases r1
    obtain ⟨its, rv, p, hz⟩ := I1.tuple hq
    refine wpAny_pyIter_tuple (show s1.heap.IsTuple a its.toArray from p) ?_
    refine ⟨s1.heap.objs.size, [s1.heap.objs.size], _, _, H1, rfl, I1.kept (t' := s1.toks) fun b o e => Heap.get?_push_of_some _ e, turn_tuple a _, ⟨_, Heap.get?_push_size _ rfl, rfl, rfl⟩, fun b hb => ?_, q⟩
    have e : b = s1.heap.objs.size := by simpa using hb
    subst e
    exact I1.fpOk (Nat.le_refl _) (I1.hok.fresh (Nat.le_refl _))
def iQ (K : PySem.W.Frag) (x : V) (H1 : Hp) (R : It → Hp → Prop) : Prop := ∃ a, x = .ref a ∧ (((∃ xs, SqL K H1 a xs) ∧ R (Itl K a) H1) ∨ ((∃ xs, SqT K H1 a xs) ∧ R (Itt K a) H1))
instance {R : It → Hp → Prop} : Go (iSeq K te σ H R) (te σ H fun x H1 => iQ K x H1 R) := ⟨fun k => k⟩
instance (priority := 1100) {R : It → Hp → Prop} [h : LR K H p xs] : Go (iQ K (.ref p) H R) (R (Itl K p) H) := ⟨fun k => ⟨p, rfl, .inl ⟨⟨xs, h.lr⟩, k⟩⟩⟩
instance {R : It → Hp → Prop} [h : TR K H p xs] : Go (iQ K (.ref p) H R) (R (Itt K p) H) := ⟨fun k => ⟨p, rfl, .inr ⟨⟨xs, h.tr⟩, k⟩⟩⟩
instance [hT : TM H q [.ty "list", .ty "tuple"]] [h : LR K H p xs] : Go (uIsi K [.ref p, .ref q] H Q) (Q (.bl true) H) := ⟨isi_lt hT.tm h.lr⟩
instance [hT : TM H q [.ty "list", .ty "tuple"]] [h : TR K H p xs] : Go (uIsi K [.ref p, .ref q] H Q) (Q (.bl true) H) := ⟨isi_lt_t hT.tm h.tr⟩
/-! ### extend -/
def uExt (K : PySem.W.Frag) : V → List V → Hp → VK → Prop := fun x vs H Q => ∃ l b xs zs, x = .ref l ∧ vs = [.ref b] ∧ H l = some (.lst xs) ∧ (H b = some (.lst zs) ∨ SqT K H b zs) ∧ xs.length + zs.length ≤ sizeLine ∧ Q .non (upd H l (.lst (xs ++ zs)))
theorem mt_ext (hK : X.K = K := by rfl) : MtM X "list.extend" (uExt K) := by
  subst hK
  intro pins s σ H x vs v us Q I rx rv h
  obtain ⟨l, b, xs, zs, rfl, rfl, hH, hB, hz, q⟩ := h
  rcases hB with hB | hB
  · exact mt_extend pins s σ H _ _ v us Q I rx rv ⟨l, b, xs, zs, rfl, rfl, hH, hB, hz, q⟩
  cases rx
  obtain ⟨u, rfl, ru⟩ := rv.one
  cases ru
  obtain ⟨z, its, n, r, hl, e⟩ := I.lstM hH
  obtain ⟨its2, r2, p2, hz2⟩ := I.tuple hB
  have hl2 := r2.length
  have hsz : its.toArray.size + its2.toArray.size ≤ sizeLine := by rw [List.size_toArray, List.size_toArray]; omega
  have hlong : ¬ (!its.toArray.isEmpty && Builtin.List.listTooLong (its.toArray.size + its2.toArray.size)) = true := by
    rw [notLongL hsz, Bool.and_false]
    exact Bool.false_ne_true
  obtain ⟨o, e2, c2, n2, d2⟩ := p2
  obtain ⟨oc, od, dt, osl⟩ := o
  simp only at c2 d2
  subst c2 d2
  refine call_meets F.slot_list_extend ⟨_, e, rfl⟩ F.entry_list_extend (F.args_list_extend_2 _ _)
    (AutoSeq1.ext_tup l its.toArray n b its2.toArray n2 od osl hlong (by rw [List.size_toArray]; omega) (by omega)) ⟨e, e2, ?_⟩
  refine ⟨.non, _, I.lset (its' := its ++ its2) hH e (by simp) (r.append r2) ?_, rfl, q⟩
  rw [List.length_append]
  omega
instance [h : LM H p xs] [g : LM H q ys] : Go (uExt K (.ref p) [.ref q] H Q) (Sd (xs.length + ys.length ≤ sizeLine) (setL p (xs ++ ys) H fun H' => Q .non H')) := ⟨fun k => ⟨p, q, xs, ys, rfl, rfl, h.lm, .inl g.lm, k.1, k.2⟩⟩
instance [h : LM H p xs] [g : TR K H q ys] : Go (uExt K (.ref p) [.ref q] H Q) (Sd (xs.length + ys.length ≤ sizeLine) (setL p (xs ++ ys) H fun H' => Q .non H')) := ⟨fun k => ⟨p, q, xs, ys, rfl, rfl, h.lm, .inr g.tr, k.1, k.2⟩⟩
/-! ### += -/
def uIAdd : TIp := fun x y H Q => (∃ i j, x = .int i ∧ y = .int j ∧ Q (.int (i + j)) H) ∨ (∃ i j, x = .str i ∧ y = .str j ∧ i.length + j.length ≤ sizeLine ∧ Q (.str (i ++ j)) H) ∨ rExt2 x y H Q
theorem ip_add' : PIp X .Add uIAdd := by
  intro pins s σ H x y v u Q I r1 r2 h
  rcases h with h | ⟨i, j, rfl, rfl, hz, q⟩ | h
  · exact ip_add pins s σ H x y v u Q I r1 r2 h
  · exact iop_add_str pins s σ H _ _ v u Q I r1 r2 ⟨i, j, rfl, rfl, hz, q⟩
  · exact iop_ext pins s σ H x y v u Q I r1 r2 h
instance : Go (uIAdd (.int i) (.int j) H Q) (Q (.int (i + j)) H) := ⟨fun k => .inl ⟨i, j, rfl, rfl, k⟩⟩
instance : Go (uIAdd (.str (S a)) (.str (S b)) H Q) (Sd (a.length + b.length ≤ sizeLine) (Q (.str (S (a ++ b))) H)) := ⟨fun k => .inr (.inl ⟨S a, S b, rfl, rfl, by rw [SX.S_len, SX.S_len]; exact k.1, by rw [SX.S_cat]; exact k.2⟩)⟩
instance : Go (ipI (fun i j => i - j) (.int i) (.int j) H Q) (Q (.int (i - j)) H) := ⟨fun k => ⟨i, j, rfl, rfl, k⟩⟩
/-- xs[i], the value alone -/
def gL (K : PySem.W.Frag) : V → V → Hp → VK → Prop := fun x y H Q => ∃ p xs i v, x = .ref p ∧ y = .int i ∧ SqL K H p xs ∧ 0 ≤ i ∧ i < 2 ^ 63 ∧ xs[i.toNat]? = some v ∧ Q v H
theorem pg_list (hK : X.K = K := by rfl) : PGet X (gL K) := by
  subst hK
  intro pins s σ H o i ov iv Q I r1 r2 h
  obtain ⟨p, xs, k, v, rfl, rfl, hq, h0, h1, he, q⟩ := h
  cases r1
  obtain ⟨t, rfl⟩ := r2
  obtain ⟨its, r, pl, hz⟩ := I.list hq
  obtain ⟨w, ew, rw'⟩ := r.get he
  exact getItem_listL pl.isList h0 h1 ew ⟨v, H, I, rw', q⟩
theorem ps_augL {o i e : Expr} {to ti te : TE} {tip : TIp} {op : Operator} {tpos pos : Pos} (ho : PE X o to) (hi : PE X i ti) (he : PE X e te) (hp : PIp X op tip) (hK : X.K = K := by rfl)
    (ha : ∀ ov iv new, augStore i ov iv new = (do holding [new, ov, iv] (setItem ov iv new); release [new, ov, iv] []; pure .next) := by intros; rfl) : PS X (.AugAssign (.Subscript o i tpos) op e pos) (tAugS to ti te (gL K) tip rSetL) :=
  ps_augS ho hi (pg_list hK) he hp set_list ha
instance {to ti te : TE} {tget : V → V → Hp → VK → Prop} {tip : TIp} {tset : TSet} : Go (tAugS to ti te tget tip tset D σ H) (to σ H fun o H1 => ti σ H1 fun i H2 => tget o i H2 fun x H3 => te σ H3 fun y H4 => tip x y H4 fun z H5 => tset o i z H5 fun H6 => D.nx σ H6) := ⟨fun k => k⟩
theorem gl_of [h : LR K H p xs] (h0 : 0 ≤ i) (h1 : i < 2 ^ 63) (e : xs[i.toNat]? = some v) (k : Q v H) : gL K (.ref p) (.int i) H Q := ⟨p, xs, i, v, rfl, rfl, h.lr, h0, h1, e, k⟩
theorem cm {i j : Int} (hi : i.natAbs < 2 ^ 1000) (hj : j.natAbs < 2 ^ 1000) : CMulW i j := wide_mul hi hj (by decide) (by decide) (by decide)
theorem cm64 {i j : Int} (hi : i.natAbs < 2 ^ 64) (hj : j.natAbs < 2 ^ 64) : CMulW i j := wide_mul hi hj (by decide) (by decide) (by decide)
theorem cd64 {i j : Int} (h : 0 < j) (hj : j.natAbs < 2 ^ 64) : CDivW i j := wide_div h hj (by decide) (by decide)
theorem cd {i j : Int} (h : 0 < j) (hj : j.natAbs < 2 ^ 1000) : CDivW i j := wide_div h hj (by decide) (by decide)
theorem sl_of {R : Hp → Prop} [h : LM H p xs] {j : Nat} {zs : List V} (e : ixN xs.length i = some j) (ez : xs.set j v = zs) (k : setL p zs H R) : rSetL (.ref p) (.int i) v H R := ⟨p, xs, i, j, rfl, rfl, h.lm, e, by rw [ez]; exact k⟩
instance {to ti : TE} {t : TSet} {R : L2.St → Hp → Prop} : Go (gSub to ti t v σ H R) (to σ H fun o H1 => ti σ H1 fun i H2 => t o i v H2 fun H3 => R σ H3) := ⟨fun k => k⟩ -- gSubG
/-! ### backwards -/
def revG (K : PySem.W.Frag) (x : V) (H : Hp) (Q : VK) : Prop := (∃ a xs, x = .ref a ∧ SqL K H a xs ∧ newL xs.reverse H Q) ∨ ∃ z : List Nat, x = .str (S z) ∧ z.length ≤ sizeLine ∧ Q (.str (S z.reverse)) H
def tRev (K : PySem.W.Frag) (te : TE) : TE := fun σ H Q => te σ H fun x H1 => revG K x H1 Q
theorem rev_idx (n : Nat) : Builtin.Str.strSliceIndices none none (-1) n = (List.range n).reverse := by
  show sliceRange ((n : Int) - 1) (-1) (-1) = _
  rw [PySem.W.krv_sliceRange, PySem.W.krv_range]
theorem pe_rev {e : Expr} {te : TE} {k : Nat} {p1 p2 p3 pos : Pos} (he : PE X e te) (hK : X.K = K := by rfl) : PE X (.Subscript e (.Slice none none (some (.UnaryOp .USub (.Constant (.int 1) k p1) p2)) p3) pos) (tRev K te) := by
  subst hK
  refine ⟨fun pins s σ H Q I h => ?_⟩
  refine Subscript_ (thn (he.run pins s σ H _ I h) fun v s1 ⟨x, H1, I1, r1, q1⟩ => ?_)
  have hst : PO X (some (.UnaryOp .USub (.Constant (.int 1) k p1) p2)) (tPart (tUn (rU fun i => .int (-i)) (tC (.int 1)))) := po_some (pe_un un_neg pe_int)
  refine wpAny_Slice (thn (po_none.run pins s1 σ H1 (fun o H2 => o = none ∧ H2 = H1) I1 ⟨rfl, rfl⟩) fun vl s2 ⟨l, H2, I2, pl, el, e2⟩ => ?_)
  subst el e2
  refine thn (po_none.run pins s2 σ H2 (fun o H3 => o = none ∧ H3 = H2) I2 ⟨rfl, rfl⟩) fun vu s3 ⟨u, H3, I3, pu, eu, e3⟩ => ?_
  subst eu e3
  refine thn (hst.run pins s3 σ H3 (fun o H4 => o = some (-1) ∧ H4 = H3) I3 ⟨1, rfl, -1, rfl, rfl, rfl⟩) fun vs s4 ⟨o, H4, I4, ps, eo, e4⟩ => ?_
  subst eo e4
  have I5 : Inv X pins σ H4 { s4 with heap := s4.heap.push { cls := .type "slice", data := .fields #[vl, vu, vs] } } := I4.kept (t' := s4.toks) fun b ob q => Heap.get?_push_of_some _ q
  rcases q1 with ⟨a, xs, ex, hx, q⟩ | ⟨z, ex, hz, q⟩
  · subst ex
    cases r1
    obtain ⟨its, r, ht, hz⟩ := I5.list hx
    have hlen := r.length
    show wpAny (model X.prog X.w) X.A (subscriptTail e (.Slice none none (some (.UnaryOp .USub (.Constant (.int 1) k p1) p2)) p3) (.ref a) (.ref s4.heap.objs.size)) (EP X pins σ Q) X.xe { s4 with heap := s4.heap.push { cls := .type "slice", data := .fields #[vl, vu, vs] } }
    refine tail_any (ops := [.ref a, .ref s4.heap.objs.size]) ht.isList.typeIs (PySem.slot_list_getitem.lookup) ?_ (by with_unfolding_all rfl)
    refine wpAny_getItem_list_slice ht.isList (Heap.IsSliceOf.new _ vl vu vs) pl pu ps (by decide) ?_ (by rw [List.size_toArray]; omega)
    rw [PySem.W.krv_pick]
    refine ⟨.ref _, _, I5.laid (t' := s4.toks) (o := .lst xs.reverse) (fun b ob q => Heap.get?_push_of_some _ q) (Nat.le_refl _) ?_, rfl, q _ (I5.hok.fresh (Nat.le_refl _))⟩
    exact ⟨by rw [List.length_reverse]; exact hz, _, 0, r.reverse, Heap.get?_push_size _ rfl⟩
  · subst ex
    obtain ⟨t, rfl⟩ := r1
    show wpAny (model X.prog X.w) X.A (subscriptTail e (.Slice none none (some (.UnaryOp .USub (.Constant (.int 1) k p1) p2)) p3) (.str (S z) t) (.ref s4.heap.objs.size)) (EP X pins σ Q) X.xe { s4 with heap := s4.heap.push { cls := .type "slice", data := .fields #[vl, vu, vs] } }
    obtain ⟨l', rfl, hl⟩ := IsPart.raw pl
    obtain ⟨u', rfl, hu⟩ := IsPart.raw pu
    obtain ⟨s', rfl, hs⟩ := IsPart.raw ps
    refine tail_any (ops := [.str (S z) t, .ref s4.heap.objs.size]) (typeIs_str _ _ _) F.slot_str_getitem.lookup ?_ (by with_unfolding_all rfl)
    refine wpAny_getItem_str_slice (l := l') (u := u') (st := s') ⟨_, Heap.get?_push_size _ rfl, rfl, rfl⟩ (by rw [hs]; rfl) ?_
    have e1 : sliceMade (S z) t l' u' s' = .str (S z.reverse) := by
      unfold sliceMade slicePicked
      rw [hl, hu, hs]
      show (if ((-1 : Int) == 1 && _) = true then Made.val (.str (S z) t) else Made.str ⟨((Builtin.Str.strSliceIndices none none (-1) (S z).length).filterMap ((S z).cps[·]?)).toArray⟩) = _
      rw [if_neg (by simp), rev_idx, SX.S_len, List.filterMap_reverse]
      have := PySem.W.krv_all z.toArray
      rw [List.size_toArray] at this
      rw [this]
    rw [e1]
    exact ⟨by rw [SX.S_len, List.length_reverse]; exact hz, .str _, H4, I5.tok _, ⟨_, rfl⟩, q⟩
instance : Go (tRev K te σ H Q) (te σ H fun x H1 => revG K x H1 Q) := ⟨fun k => k⟩
instance [h : LR K H p xs] : Go (revG K (.ref p) H Q) (newL xs.reverse H Q) := ⟨fun k => .inl ⟨p, xs, rfl, h.lr, k⟩⟩
instance : Go (revG K (.str (S a)) H Q) (Sd (a.length ≤ sizeLine) (Q (.str (S a.reverse)) H)) := ⟨fun k => .inr ⟨a, rfl, k.1, k.2⟩⟩
end
/-! ### calls with keywords, as promises -/
structure CalK (P : Program) (w : World) (K : PySem.W.Frag) (mg : Str → Option Value) (base : Heap) (k : Nat) (x : Str) (sp : Sp) (n : Nat) (ks : List Str) (gV : List V → List V → List V) : Prop where
  ex : ∃ (f : Addr) (fd : FuncData) (ps : List Str) (g : List Value → List Value → List Value), FnOk P w K mg base C8.CX0 k f fd ps sp ∧ mg x = some (.ref f) ∧ PySem.W.keepIn K (.ref f) = true ∧ KBn K fd ps n ks g gV
structure MakN (P : Program) (w : World) (K : PySem.W.Frag) (mg : Str → Option Value) (base : Heap) (k : Nat) (x : Str) (C : Addr) (sp : Sp) (n : Nat) (ks : List Str) (gV : List V → List V → List V) : Prop where
  ex : ∃ (f : Addr) (fd : FuncData) (ps : List Str) (g : List Value → List Value → List Value), Mk K C f ∧ FnOk P w K mg base C8.CX0 k f fd ps sp ∧ mg x = some (.ref C) ∧ KBn K fd ps (n + 1) ks g gV
section
variable {X : Cx} {k j n : Nat} {C : Addr} {x : Str} {sp : Sp} {p pos : Pos} {e : Expr} {es : List Expr} {kws : List Keyword} {ks : List Str} {t tk : TA} {gV : List V → List V → List V}
theorem pe_ck (c : CalK X.prog X.w X.K X.mg X.base k x sp n ks gV) (hr : Room j X.A) (hk : k ≤ j) (hg : Gl X x) (ha : PA X (e :: es) t) (hkw : PK X kws tk) (hall : (backToKw pos (keywordEach kws X.env)).all (·.1.isSome) = true := by rfl) (hks : (backToKw pos (keywordEach kws X.env)).filterMap (·.1) = ks := by rfl)
    (hdb : (x == ("__debug__" : Str)) = false := by decide) (he : starEach (e :: es) X.env = (false, eval e X.env) :: starEach es X.env := by rfl)
    (hpl : ((backTo pos (starEach (e :: es) X.env)).any (·.1) || (backToKw pos (keywordEach kws X.env)).any (·.1.isNone)) = false := by rfl) : PE X (.Call (.Name x p) (e :: es) kws pos) (tCallN n ks.length sp gV C8.E0 t tk) := by
  obtain ⟨f, fd, ps, g, F, hm, kp, b⟩ := c.ex
  exact pe_callN F (hr.mono hk) hg hm kp b C8.pass0 ha hkw hall hks hdb he hpl
theorem pe_mkk (c : MakN X.prog X.w X.K X.mg X.base k x C sp n ks gV) (hr : Room j X.A) (hk : k + 1 ≤ j) (hg : Gl X x) (ha : PA X (e :: es) t) (hkw : PK X kws tk) (hall : (backToKw pos (keywordEach kws X.env)).all (·.1.isSome) = true := by rfl) (hks : (backToKw pos (keywordEach kws X.env)).filterMap (·.1) = ks := by rfl)
    (hdb : (x == ("__debug__" : Str)) = false := by decide) (he : starEach (e :: es) X.env = (false, eval e X.env) :: starEach es X.env := by rfl)
    (hpl : ((backTo pos (starEach (e :: es) X.env)).any (·.1) || (backToKw pos (keywordEach kws X.env)).any (·.1.isNone)) = false := by rfl) : PE X (.Call (.Name x p) (e :: es) kws pos) (tMakeN C n ks.length sp gV C8.E0 t tk) := by
  obtain ⟨f, fd, ps, g, M, F, hm, b⟩ := c.ex
  exact pe_makeN M F (hr.mono hk) hg hm b C8.pass0 ha hkw hall hks hdb he hpl
/-- written arguments, keywords' values behind them -/
def gCat {α : Type} (us ws : List α) : List α := us ++ ws
variable {σ : L2.St} {H : Hp} {Q : VK} {E : XK} {vs zs ys : List V} {ta : TE} {m : Str} {dvs : List V} {dx : Addr} {a : Addr} {fs : List (Str × V)} {K : PySem.W.Frag}
def callNG (n m : Nat) (sp : Sp) (gV : List V → List V → List V) (E : XK) (vs zs : List V) (H2 : Hp) (Q : VK) : Prop := vs.length = n ∧ zs.length = m ∧ sp (gV vs zs) H2 Q E
instance : Go (tCallN n j sp gV E t tk σ H Q) (t σ H fun vs H1 => tk σ H1 fun zs H2 => callNG n j sp gV E vs zs H2 Q) := ⟨fun k => k⟩
instance [h : App vs zs ys] : Go (callNG n j sp gCat E vs zs H Q) (Sd (vs.length = n) (Sd (zs.length = j) (sp ys H Q E))) := ⟨fun k => ⟨k.1, k.2.1, by unfold gCat; rw [h.eq]; exact k.2.2⟩⟩
/-- a new instance, then __init__ -/
def makeG (C : Addr) (sp : Sp) (vs : List V) (H2 : Hp) (Q : VK) (E : XK) : Prop := ∀ x dx, H2 x = none → H2 dx = none → dx ≠ x → sp (.ref x :: vs) (upd (upd H2 dx (.own x)) x (.ins C dx [])) (fun v H3 => v = .non ∧ Q (.ref x) H3) E
def makeNG (C : Addr) (n m : Nat) (sp : Sp) (gV : List V → List V → List V) (E : XK) (vs zs : List V) (H2 : Hp) (Q : VK) : Prop := vs.length = n ∧ zs.length = m ∧
  ∀ x dx, H2 x = none → H2 dx = none → dx ≠ x → sp (gV (.ref x :: vs) zs) (upd (upd H2 dx (.own x)) x (.ins C dx [])) (fun v H3 => v = .non ∧ Q (.ref x) H3) E
instance : Go (tMakeN C n j sp gV E t tk σ H Q) (t σ H fun vs H1 => tk σ H1 fun zs H2 => makeNG C n j sp gV E vs zs H2 Q) := ⟨fun k => k⟩
instance [h : App vs zs ys] : Go (makeNG C n j sp gCat E vs zs H Q) (Sd (vs.length = n) (Sd (zs.length = j) (makeG C sp ys H Q E))) := ⟨fun k => ⟨k.1, k.2.1, fun x dx h1 h2 h3 => by
  have := k.2.2 x dx h1 h2 h3
  rw [← h.eq] at this
  exact this⟩⟩
def makeAG (C : Addr) (sp : Sp) (vs dvs : List V) (H2 : Hp) (Q : VK) (E : XK) : Prop := makeG C sp (vs ++ dvs) H2 Q E
instance : Go (tMake C sp dvs E t σ H Q) (t σ H fun vs H1 => makeAG C sp vs dvs H1 Q E) := ⟨fun k => k⟩
instance [h : App vs dvs ys] : Go (makeAG C sp vs dvs H Q E) (makeG C sp ys H Q E) := ⟨fun k => by unfold makeAG; rw [h.eq]; exact k⟩
theorem mk_i (k : ∀ (x dx : Addr) (H' : Hp), Nw H x → Ex H H' → IR H' x C dx [] → sp (.ref x :: vs) H' (fun v H3 => v = .non ∧ Q (.ref x) H3) E) : makeG C sp vs H Q E := fun x dx h1 h2 h3 => by
  refine k x dx _ ⟨h1⟩ ⟨fun a u e => ?_⟩ ⟨upd_same⟩
  rw [upd_ne (ne_of_none e h1), upd_ne (ne_of_none e h2)]
  exact e
/-! methods -/
def methG (C : Addr) (m : Str) (sp : Sp) (dvs : List V) (E : XK) (t : TA) (σ : L2.St) (x : V) (H1 : Hp) (Q : VK) : Prop := ∃ a dx fs, x = .ref a ∧ H1 a = some (.ins C dx fs) ∧ fs.lookup m = none ∧ t σ H1 fun vs H2 => sp (x :: (vs ++ dvs)) H2 Q E
instance : Go (tMeth C m sp dvs E ta t σ H Q) (ta σ H fun x H1 => methG C m sp dvs E t σ x H1 Q) := ⟨fun k => k⟩
theorem meth_of [h : IR H a C dx fs] (k : fs.lookup m = none ∧ t σ H fun vs H2 => callG sp (.ref a :: vs) dvs H2 Q E) : methG C m sp dvs E t σ (.ref a) H Q := ⟨a, dx, fs, rfl, h.ir, k.1, k.2⟩
end
/-! ### what a reading has come to: all known but p -/
class Mx (H : Hp) (p : Addr) (H' : Hp) : Prop where
  mx : ∀ a o, a ≠ p → H a = some o → H' a = some o
section
variable {H H1 H2 H0 : Hp} {p q : Addr} {C dx : Addr} {fs : List (Str × V)} {xs : List V}
instance (priority := 2000) : Mx H p H := ⟨fun _ _ _ h => h⟩
instance [e : Ex H1 H2] [t : Mx H p H1] : Mx H p H2 := ⟨fun a o n h => e.ex a o (t.mx a o n h)⟩
instance (priority := 1100) [m : Mu H1 p H2] [t : Mx H p H1] : Mx H p H2 := ⟨fun a o n h => m.mu a o n (t.mx a o n h)⟩
instance (priority := 1100) [m : Mi H1 p H2] [t : Mx H p H1] : Mx H p H2 := ⟨fun a o n h => m.mi a o n (t.mx a o n h)⟩
instance [m : Mu H1 q H2] [w : Nw H0 q] [t : Mx H p H0] [u : Mx H p H1] : Mx H p H2 := ⟨fun a o n h => m.mu a o (ne_of_none (t.mx a o n h) w.nw) (u.mx a o n h)⟩
instance [m : Mi H1 q H2] [w : Nw H0 q] [t : Mx H p H0] [u : Mx H p H1] : Mx H p H2 := ⟨fun a o n h => m.mi a o (ne_of_none (t.mx a o n h) w.nw) (u.mx a o n h)⟩
theorem mu_of [l : LM H p xs] [m : Mx H p H1] : Mu H p H1 := ⟨m.mx, xs, l.lm⟩
theorem mi_of [l : IR H p C dx fs] [m : Mx H p H1] : Mi H p H1 := ⟨m.mx, C, dx, fs, l.ir⟩
end
section
variable {σ : L2.St} {H : Hp} {D : Ends} {c : TT} {tb : TS}
/-- while: the invariant with its measure -/
theorem wh (W : Nat → L2.St → Hp → Prop) (m : Nat) (h0 : W m σ H) (h : ∀ m σ H, W m σ H → c σ H fun b H1 => if b = true then (∃ N : L2.St → Hp → Prop, (∀ σ' H', N σ' H' → ∃ m', m' < m ∧ W m' σ' H') ∧ tb { D with nx := N, ct := N, bk := D.nx } σ H1) else D.nx σ H1) : tWhile c tb D σ H := ⟨W, ⟨m, h0⟩, h⟩
end
theorem sfld_p {K : PySem.W.Frag} {x y : V} {f : Str} {H : Hp} {R : Hp → Prop} (h : sfldG K x y f H R) : sfldG K x y f H R := h
end U
namespace U
open PySem PySem.Spec PyProof.Rows L2
open SX (S)
section
variable {X : Cx} {C : Addr} {m : Str} {sp : Sp} {k j : Nat} {K : PySem.W.Frag} {H : Hp} {Q : VK} {p dx : Addr} {fs : List (Str × V)}
/-- str(x) of an instance whose class has a def __str__ -/
def uStrO (C : Addr) (sp : Sp) : List V → Hp → VK → Prop := fun xs H Q => ∃ a dx fs, xs = [V.ref a] ∧ H a = some (.ins C dx fs) ∧ sp [.ref a] H (fun z H' => ∃ y, z = .str y ∧ Q z H') C8.E0
theorem cu_strO (c : C8.Met X.prog X.w X.K X.mg X.base k C "__str__" sp []) (hr : Room j X.A) (hk : k + 2 ≤ j) : CallR X (.type "str") (uStrO C sp) := by
  obtain ⟨f, fd, ps, ds, hc, hm, F, b, d⟩ := c.ex
  cases d
  intro pins s σ H xs us Q I r h
  obtain ⟨a, dx, fs, rfl, ea, q⟩ := h
  obtain ⟨u, rfl, ru⟩ := r.one
  cases (show u = Value.ref a from ru)
  obtain ⟨mA, O, _⟩ := ins_get I.hok ea
  obtain ⟨od, J, _⟩ := O.look
  have hr2 : Room k X.A.in1.in1 := (show Room (k + 1) X.A.in1 from (show Room (k + 1 + 1) X.A from hr.mono hk).in1).in1
  have r2 : Vals [V.ref a] ([Value.ref a] ++ []) := .cons rfl .nil
  have hl : ([Value.ref a] ++ []).length = ps.length := by rw [← r2.length]; exact F.len _ _ _ _ q
  refine PySem.W.kso_call hr2.units0 I.kIn J hm.at_ hm.fn ?_
  refine wpAny_call (codeAny_mono (F.run X.A.in1.in1 X.stack s H ⟨[.ref a], []⟩ _ _ _ C8.E0 hr2 I.env0.in1.in1 (b s _ I.kIn hl) r2 q) fun r s' hq => ?_)
  cases r with
  | error e => exact C8.pass0 (E := C8.E0) pins σ H s e s' I hq
  | ok fl =>
    cases fl with
    | ret u =>
      obtain ⟨z, H', I', rz, y, ey, qz⟩ := I.after hq
      subst ey
      obtain ⟨t, rfl⟩ := rz
      exact ⟨.str y, H', I', ⟨t, rfl⟩, qz⟩
    | next => exact False.elim hq
    | brk => exact False.elim hq
    | cont => exact False.elim hq
def strOG (Q : VK) : VK := fun z H' => ∃ y, z = .str y ∧ Q z H'
instance {z : Str} : Go (strOG Q (.str z) H) (Q (.str z) H) := ⟨fun h => ⟨z, rfl, h⟩⟩
instance [h : IR H p C dx fs] : Go (uStrO C sp [.ref p] H Q) (sp [.ref p] H (strOG Q) C8.E0) := ⟨fun k => ⟨p, dx, fs, rfl, h.ir, k⟩⟩
/-- in a dict of the top -/
def uKd (K : PySem.W.Frag) (d : Addr) : R2 := fun x y H Q => ∃ (z : Str) (r : Option Value), x = .str z ∧ y = .ref d ∧ PySem.W.nsIn K d z = some r ∧ Q (.bl r.isSome) H
theorem ou_in_kd {d : Addr} (D : ∃ es n, KDict X.K X.w d es n) (hK : X.K = K := by rfl) : OpR X (compareOp .In) (uKd K d) := by
  subst hK
  obtain ⟨es, n, D⟩ := D
  exact op_in_kd D
theorem kd_in {d : Addr} {z : Str} (h : ∃ v, PySem.W.nsIn K d z = some (some v)) (k : Q (.bl true) H) : uKd K d (.str z) (.ref d) H Q := by
  obtain ⟨v, h⟩ := h
  exact ⟨z, some v, rfl, rfl, h, k⟩
theorem sl_mid {a : List Nat} {i j : Int} (z : a.length ≤ sizeLine) (h0 : 0 ≤ i) (h1 : i ≤ j) (h2 : j ≤ a.length) (h : Q (.str (S ((a.drop i.toNat).take (j - i).toNat))) H) : slS a (some i) (some j) H Q :=
  ⟨z, _, beq_iff_eq.mp (PyProof.Rows.slice_closesL (x := S a) h0 h1 (by rw [SX.S_len]; exact h2)), h⟩
theorem cut_ {t u : TS} {D : Ends} {σ : L2.St} {H : Hp} (Mid : L2.St → Hp → Prop) (h1 : t { D with nx := Mid } σ H) (h2 : ∀ σ' H', Mid σ' H' → u D σ' H') : C8.tCut t u D σ H := ⟨Mid, h1, h2⟩
theorem pick {xs : List V} {r : Nat} (h : r < xs.length) : ∃ v ∈ xs, atI xs (r : Int) = some v := ⟨xs[r], List.getElem_mem h, atI_nat (List.getElem?_eq_getElem h)⟩
variable {σ : L2.St} {ta tb : TE} {a : List Nat}
theorem pe_orT' {e b : Expr} {rest : List Expr} {pos : Pos} (ha : PE X e ta) (hb : PE X (.BoolOp .Or (b :: rest) pos) tb) (hK : X.K = K := by rfl) : PE X (.BoolOp .Or (e :: b :: rest) pos) (tOrT K ta tb) := by
  subst hK
  exact pe_orT ha hb
def torG (K : PySem.W.Frag) (x : V) (tb : TE) (σ : L2.St) (H1 : Hp) (Q : VK) : Prop := ∃ k, TruV K x H1 k ∧ if k = true then Q x H1 else tb σ H1 Q
instance : Go (tOrT K ta tb σ H Q) (ta σ H fun x H1 => torG K x tb σ H1 Q) := ⟨fun k => k⟩
instance : Go (torG K (.str (S a)) tb σ H Q) (Sd (a.length ≤ sizeLine) (if decide (a = []) = true then tb σ H Q else Q (.str (S a)) H)) := ⟨fun k => by
  refine ⟨!decide (a = []), ⟨by rw [SX.S_len]; exact k.1, ?_⟩, ?_⟩
  · rw [SX.S_len]
    cases a <;> simp
    omega
  · have := k.2
    by_cases h : a = []
    · simpa [h] using this
    · simpa [h] using this⟩
theorem some_S (z : Str) : ∃ a, z = S a ∧ a.length = z.length := ⟨z.cps.toList, (SX.S_tl z).symm, by simp [Str.length]⟩
def uRst : V → List V → Hp → VK → Prop := fun x xs H Q => ∃ a b, x = .str a ∧ xs = [.str b] ∧ a.length ≤ sizeLine ∧ Q (.str (Txt.rstripChars a b)) H
theorem mu_rst : MtR X "str.rstrip" uRst := mt_rstripChars
def rstG (a b : List Nat) (H : Hp) (Q : VK) : Prop := Q (.str (Txt.rstripChars (S a) (S b))) H
instance {b : List Nat} : Go (uRst (.str (S a)) [.str (S b)] H Q) (Sd (a.length ≤ sizeLine) (rstG a b H Q)) := ⟨fun k => ⟨S a, S b, rfl, rfl, by rw [SX.S_len]; exact k.1, k.2⟩⟩
theorem rst_le {b : List Nat} (k : ∀ c : List Nat, c.length ≤ a.length → Q (.str (S c)) H) : rstG a b H Q := by
  obtain ⟨c, e, l⟩ := some_S (Txt.rstripChars (S a) (S b))
  have h2 := PyProof.Rows.len_rstripChars (S a) (S b)
  have h3 := SX.S_len a
  unfold rstG
  rw [e]
  exact k c (by omega)
/-! taking apart -/
theorem pg_tup' {es : List Expr} {k : Nat} {t : TGs} {n : Nat} {pos : Pos} (hc : X.calm = true) (h : PGs X es t) (hK : X.K = K := by rfl) (hn : (assignEach es X.env).length = n := by rfl) (hst : (assignEach es X.env).findIdx? (·.1) = none := by rfl) : PG X (.Tuple es k pos) (gTup K n t) := by
  subst hK
  exact pg_tup hc h hn hst
variable {g : TG} {gs : TGs} {n : Nat} {x v : V} {xs ys : List V} {R : L2.St → Hp → Prop} {q : Addr}
def tupG (K : PySem.W.Frag) (n : Nat) (gs : TGs) (v : V) (σ : L2.St) (H : Hp) (R : L2.St → Hp → Prop) : Prop := ∃ a xs, v = .ref a ∧ SqT K H a xs ∧ xs.length = n ∧ gs xs σ H R
instance : Go (gTup K n gs v σ H R) (tupG K n gs v σ H R) := ⟨fun k => k⟩
instance [h : TR K H q xs] : Go (tupG K n gs (.ref q) σ H R) (Sd (xs.length = n) (gs xs σ H R)) := ⟨fun k => ⟨q, xs, rfl, h.tr, k.1, k.2⟩⟩
instance : Go (gNil [] σ H R) (R σ H) := ⟨fun k => ⟨rfl, k⟩⟩
instance : Go (gCons g gs (x :: xs) σ H R) (g x σ H fun σ' H' => gs xs σ' H' R) := ⟨fun k => ⟨x, xs, rfl, k⟩⟩
/-! a comprehension whose turns make new objects -/
theorem lc_l1 {σw : L2.St} {tt : TT} {te : TE} {vs : List Nat} [hx : LR K H p xs] (hw : wipe σ vs = σw) (r : V → V) (hl : xs.length ≤ sizeLine) (ht : ∀ z H' A, z ∈ xs → Ex H H' → (∀ H3, Ex H' H3 → A (r z) H3) → turn g tYes te vs σw z H' A (fun _ => False))
    (k : ∀ D H', Nw H D → Ex H H' → LM H' D (xs.map r) → Q (.ref D) H') : lcG (Itl K p) g tYes te vs σ H Q := by
  intro D hD
  refine lc_it (walk_list (xs := xs)) (fun i H' => (∀ a o, H a = some o → H' a = some o) ∧ H' D = some (.lst ((xs.take i).map r))) ⟨ex_up hD (fun _ _ h => h), by rw [upd_same]; rfl⟩ (fun i H' _ p => ex_l p.1 hx.lr) (fun i x H1 H2 hi p y => ?_) (fun H' p => k D H' ⟨hD⟩ ⟨p.1⟩ ⟨by have := p.2; rwa [List.take_length] at this⟩)
  obtain ⟨rfl, e⟩ := y
  rw [hw]
  have := ht x H2 (fun y H4 => ∃ acc, H4 D = some (.lst acc) ∧ acc.length < sizeLine ∧ (∀ a o, H a = some o → (upd H4 D (.lst (acc ++ [y]))) a = some o) ∧ (upd H4 D (.lst (acc ++ [y]))) D = some (.lst ((xs.take (i + 1)).map r))) (List.mem_of_getElem? e) ⟨p.1⟩ (fun H3 e3 => ⟨_, e3.ex _ _ p.2, by rw [List.length_map, List.length_take]; omega, ex_up hD fun a o h => e3.ex _ _ (p.1 _ _ h), by rw [upd_same, List.take_succ, e, List.map_append]; rfl⟩)
  exact this
end
end U

namespace U
open PySem PySem.Spec PyProof.Rows L2
open SX (S)
class Wp (σ : L2.St) (vs : List Nat) (σw : outParam L2.St) : Prop where
  eq : wipe σ vs = σw
instance {σ : L2.St} : Wp σ [] σ := ⟨rfl⟩
instance {σ s1 s2 : L2.St} {v : Nat} {vs : List Nat} [h : Wp σ vs s1] [g : SetN s1 v none s2] : Wp σ (v :: vs) s2 := ⟨by
  show (wipe σ vs).set v none = s2
  rw [h.eq, g.eq]⟩
section
variable {K : PySem.W.Frag} {σ σw : L2.St} {H : Hp} {Q : VK} {p : Addr} {xs : List V} {a : List Nat} {g : TG} {tt : TT} {te : TE} {vs : List Nat} {i : Int}
theorem lc_s' [hw : Wp σ vs σw] (r : Nat → Option V) (hl : a.length ≤ sizeLine) (ht : ∀ c H' A B, c ∈ a → Ex H H' → (∀ y, r c = some y → A y H') → (r c = none → B H') → turn g tt te vs σw (.str (S [c])) H' A B)
    (k : ∀ D H', Nw H D → Ex H H' → LM H' D (a.filterMap r) → Q (.ref D) H') : lcG (Its (S a)) g tt te vs σ H Q := lc_s hw.eq r hl ht k
theorem lc_r' {m : Nat} [hw : Wp σ vs σw] (r : Nat → Option V) (hl : m ≤ sizeLine) (ht : ∀ z H' A B, z < m → Ex H H' → (∀ y, r z = some y → A y H') → (r z = none → B H') → turn g tt te vs σw (.int (i + (z : Nat))) H' A B)
    (k : ∀ D H', Nw H D → Ex H H' → LM H' D ((List.range m).filterMap r) → Q (.ref D) H') : lcG (Itr i m) g tt te vs σ H Q := lc_r hw.eq r hl ht k
theorem lc_l' [hx : LR K H p xs] [hw : Wp σ vs σw] (r : V → Option V) (hl : xs.length ≤ sizeLine) (ht : ∀ z H' A B, z ∈ xs → Ex H H' → (∀ y, r z = some y → A y H') → (r z = none → B H') → turn g tt te vs σw z H' A B)
    (k : ∀ D H', Nw H D → Ex H H' → LM H' D (xs.filterMap r) → Q (.ref D) H') : lcG (Itl K p) g tt te vs σ H Q := lc_l hw.eq r hl ht k
theorem lc_l1' [hx : LR K H p xs] [hw : Wp σ vs σw] (r : V → V) (hl : xs.length ≤ sizeLine) (ht : ∀ z H' A, z ∈ xs → Ex H H' → (∀ H3, Ex H' H3 → A (r z) H3) → turn g tYes te vs σw z H' A (fun _ => False))
    (k : ∀ D H', Nw H D → Ex H H' → LM H' D (xs.map r) → Q (.ref D) H') : lcG (Itl K p) g tYes te vs σ H Q := lc_l1 (tt := tYes) hw.eq r hl ht k
end
end U

local macro_rules | `(tactic| walk_at "usd") => `(tactic| first | with_reducible assumption | omega | (simp only [U.z24, List.length_cons, List.length_nil, List.length_append, List.length_map]; omega) | rfl | (constructor <;> omega))
local macro_rules | `(tactic| walk_at "ugo") => `(tactic| repeat (first | with_reducible refine U.Go.go ?_ | ((with_reducible refine U.Sd.k ?_ ?_); focus walk_at "usd") | ((with_reducible refine U.fld_of ?_); refine ⟨_, rfl, ?_⟩) | ((with_reducible refine U.meth_of ?_); refine ⟨rfl, ?_⟩) | ((with_reducible refine U.sfld_p ?_); first | (refine U.sfld_of (gs := [_]) (by simp only [List.length_cons, List.length_nil]; omega) rfl ?_) | (refine U.sfld_of (gs := [_, _]) (by simp only [List.length_cons, List.length_nil]; omega) rfl ?_) | (refine U.sfld_of (gs := [_, _, _]) (by simp only [List.length_cons, List.length_nil]; omega) rfl ?_) | (refine U.sfld_of (gs := [_, _, _, _]) (by simp only [List.length_cons, List.length_nil]; omega) rfl ?_) | (refine U.sfld_of (gs := [_, _, _, _, _]) (by simp only [List.length_cons, List.length_nil]; omega) rfl ?_) | (refine U.sfld_of (gs := [_, _, _, _, _, _]) (by simp only [List.length_cons, List.length_nil]; omega) rfl ?_) | (refine U.sfld_of (gs := [_, _, _, _, _, _, _]) (by simp only [List.length_cons, List.length_nil]; omega) rfl ?_) | (refine U.sfld_of (gs := [_, _, _, _, _, _, _, _]) (by simp only [List.length_cons, List.length_nil]; omega) rfl ?_) | (refine U.sfld_of (gs := [_, _, _, _, _, _, _, _, _]) (by simp only [List.length_cons, List.length_nil]; omega) rfl ?_))))
local macro_rules | `(tactic| walk_at "uwalk") => `(tactic| (walk_at "ugo"; try (refine U.br2 (fun _ => ?_) (fun _ => ?_) <;> walk_at "uwalk")))
local macro_rules | `(tactic| walk_at "ust0") => `(tactic| simp only [U.cx_K, U.cx_K0, U.cx_prog, U.cx_w, L2.start, List.map_cons, List.map_nil, List.length_cons, List.length_nil, List.replicate, List.cons_append, List.nil_append, Nat.reduceAdd, Nat.reduceSub])
local macro_rules | `(tactic| walk_at "ubo") => `(tactic| (rw [Bool.eq_iff_iff]; simp only [Bool.and_eq_true, Bool.or_eq_true, Bool.not_eq_true', decide_eq_true_eq, decide_eq_false_iff_not, Bool.false_eq_true, iff_true, iff_false, true_iff, false_iff, not_true_eq_false, not_false_eq_true, and_true, true_and, and_false, false_and, or_true, true_or, or_false, false_or]; omega))

namespace T
open PySem PySem.Spec PyProof.Rows L2 U
open SX (S)
/-! ### the signs -/
def letters : List Nat := (List.range 26).map (· + 97)
def figs : List Nat := (List.range 10).map (· + 48)
abbrev Lt (c : Nat) : Prop := 97 ≤ c ∧ c ≤ 122
abbrev Fg (c : Nat) : Prop := 48 ≤ c ∧ c ≤ 57
theorem mem_letters {c : Nat} : c ∈ ([97, 98, 99, 100, 101, 102, 103, 104, 105, 106, 107, 108, 109, 110, 111, 112, 113, 114, 115, 116, 117, 118, 119, 120, 121, 122] : List Nat) ↔ Lt c := by
  simp only [List.mem_cons, List.not_mem_nil, or_false, Lt]; omega
theorem mem_figs {c : Nat} : c ∈ ([48, 49, 50, 51, 52, 53, 54, 55, 56, 57] : List Nat) ↔ Fg c := by
  simp only [List.mem_cons, List.not_mem_nil, or_false, Fg]; omega
/-- figures, at least one, the last one no 0 -/
structure Figs (a : List Nat) : Prop where
  all : ∀ c ∈ a, Fg c
  last : ∃ c, atI a (-1) = some c ∧ c ≠ 48
structure Name (a : List Nat) : Prop where
  len : 1 ≤ a.length ∧ a.length ≤ 3
  all : ∀ c ∈ a, Lt c
structure Maker (a : List Nat) : Prop where
  ex : ∃ c t, a = c :: t ∧ Lt c ∧ Figs t
section
variable {P : Program} {w : World} {K : PySem.W.Frag} {mg : PySem.Str → Option Value} {base : Heap}
/-! is_whole -/
def hiOk (i : Int) : V → Bool | .int h => decide (i ≤ h) | _ => true
def sp_is_whole : Sp := fun vs H Q _ => ∃ (i lo : Int) (hi : V), vs = [.int i, .int lo, hi] ∧ (hi = .non ∨ ∃ h, hi = .int h) ∧ Q (.bl (decide (lo ≤ i) && hiOk i hi)) H
theorem ok_is_whole (T : Txt K mg w) : ∃ fd, FunD K d_is_whole.name d_is_whole.qual d_is_whole.params d_is_whole.body d_is_whole.scope (d_is_whole.dvs K) (d_is_whole.kws K) (He.fAd K d_is_whole.at_) fd ∧ FnOk P w K mg base C8.CX0 1 (He.fAd K d_is_whole.at_) fd ["thing", "low", "high"] sp_is_whole := by
  obtain ⟨fd, F⟩ := T.f_is_whole
  refine ⟨fd, F, ?_⟩
  have sc := (show FnScope ["thing", "low", "high"] ["thing", "low", "high"] (defScope s_is_whole) from ⟨rfl, rfl, rfl, by decide +kernel, rfl, by decide +kernel, by decide +kernel⟩)
  refine F.ok sc (fun vs H Q E h => ?_) (fun cdv A outer s H vs Q E hr h => ?_)
  · obtain ⟨i, lo, hi, rfl, hh, k⟩ := h; rfl
  obtain ⟨i, lo, hi, rfl, hh, k⟩ := h
  have hu := hr.units
  refine ⟨_, PSs.nox (pss_cons (ps_if (PW.pt (pw_or (pt_not (pt_val (pe_callB (U.cu_isi (K := K)) (by rfl) T.b_isinstance (by decide +kernel) (pa_cons (pv 0) (pa_cons (U.pe_ty (n := "int") rfl T.b_int (by decide +kernel)) pa_nil))))) (pw_or (pt_val (pe_callB (U.cu_isi (K := K)) (by rfl) T.b_isinstance (by decide +kernel) (pa_cons (pv 0) (pa_cons (U.pe_ty (n := "bool") rfl T.b_bool (by decide +kernel)) pa_nil)))) (pw_or1 (pt_cmpR U.ou_lt (pv 0) (pv 1) (nomark _)))))) (pss_one (ps_ret pe_bl)) pss_nil)
  (pss_one (ps_ret (pe_or (pe_cmpR U.ou_is (pv 2) pe_non (nomark _)) (pe_one (pe_cmpR U.ou_le (pv 0) (pv 2) (nomark _))))))), ?_⟩
  walk_at "ust0"
  rcases hh with rfl | ⟨h, rfl⟩
  · walk_at "uwalk"
    · exact qb k (by simp only [hiOk]; walk_at "ubo")
    · exact qb k (by simp only [hiOk]; walk_at "ubo")
  · walk_at "uwalk"
    · exact qb k (by simp only [hiOk]; walk_at "ubo")
    · exact qb k (by simp only [hiOk]; walk_at "ubo")
theorem c_is_whole (T : Txt K mg w) : C8.Cal P w K mg base 1 "is_whole" sp_is_whole [] := by
  obtain ⟨fd, F, ok⟩ := ok_is_whole (P := P) (w := w) (base := base) T
  exact cal_d F T.g_is_whole (F.binds1 3 1 (by intro z; cases z) rfl fun _ _ _ _ _ _ _ us its hl hl2 => match us, its, hl, hl2 with | [_, _, _], [_], _, _ => ⟨_, rfl, rfl⟩) ok

instance {i lo h : Int} {H : Hp} {Q : VK} {E : XK} : Go (sp_is_whole [.int i, .int lo, .int h] H Q E) (Q (.bl (decide (lo ≤ i ∧ i ≤ h))) H) := ⟨fun k => ⟨i, lo, _, rfl, .inr ⟨h, rfl⟩, qb k (by simp [hiOk])⟩⟩
instance {i lo : Int} {H : Hp} {Q : VK} {E : XK} : Go (sp_is_whole [.int i, .int lo, .non] H Q E) (Q (.bl (decide (lo ≤ i))) H) := ⟨fun k => ⟨i, lo, _, rfl, .inl rfl, qb k (by simp [hiOk])⟩⟩
/-! is_name, of what is one -/
theorem fm_all {α : Type} (l : List α) (f : α → Bool) : l.filterMap (fun c => some (V.bl (f c))) = (l.map f).map V.bl := by
  induction l with
  | nil => rfl
  | cons a l ih => simp [ih]
theorem all_id {α : Type} (l : List α) (f : α → Bool) : (l.map f).all id = l.all f := by
  induction l with
  | nil => rfl
  | cons a l ih => simp [ih]
theorem c_is_whole_2 (T : Txt K mg w) : C8.Cal P w K mg base 1 "is_whole" sp_is_whole [.non] := by
  obtain ⟨fd, F, ok⟩ := ok_is_whole (P := P) (w := w) (base := base) T
  exact cal_d F T.g_is_whole (F.binds1 2 0 (by intro z; cases z) rfl fun _ _ _ _ _ _ _ us its hl hl2 => match us, its, hl, hl2 with | [_, _], [_], _, _ => ⟨_, rfl, rfl⟩) ok
def sp_is_name : Sp := fun vs H Q _ => ∃ (a : List Nat), vs = [.str (S a)] ∧ a.length ≤ 6 ∧ 1 ≤ a.length ∧ (∀ c ∈ a, Lt c) ∧ ∀ H', Ex H H' → Q (.bl true) H'
theorem ok_is_name (T : Txt K mg w) : ∃ fd, FunD K d_is_name.name d_is_name.qual d_is_name.params d_is_name.body d_is_name.scope (d_is_name.dvs K) (d_is_name.kws K) (He.fAd K d_is_name.at_) fd ∧ FnOk P w K mg base C8.CX0 1 (He.fAd K d_is_name.at_) fd ["thing"] sp_is_name := by
  obtain ⟨fd, F⟩ := T.f_is_name
  refine ⟨fd, F, ?_⟩
  have sc := (show FnScope ["thing", "sign"] ["thing"] (defScope s_is_name) from ⟨rfl, rfl, rfl, by decide +kernel, rfl, by decide +kernel, by decide +kernel⟩)
  refine F.ok sc (fun vs H Q E h => ?_) (fun cdv A outer s H vs Q E hr h => ?_)
  · obtain ⟨a, rfl, l1, l2, ha, k⟩ := h; rfl
  obtain ⟨a, rfl, l1, l2, ha, k⟩ := h
  have hu := hr.units
  refine ⟨_, PSs.nox (pss_cons (ps_if (PW.pt (pw_or (pt_not (pt_val (pe_callB (U.cu_isi (K := K)) (by rfl) T.b_isinstance (by decide +kernel) (pa_cons (pv 0) (pa_cons (U.pe_ty (n := "str") rfl T.b_str (by decide +kernel)) pa_nil))))) (pw_or1 (pt_not (pt_chain U.ou_le U.ou_le pe_int (pe_callB (U.cu_len (K := K)) (by rfl) T.b_len (by decide +kernel) (pa_cons (pv 0) pa_nil)) (U.pe_gi rfl T.k_LONGEST)))))) (pss_one (ps_ret pe_bl)) pss_nil)
  (pss_one (ps_ret (pe_callB (U.cu_all (K := K) rfl) (by rfl) T.b_all (by decide +kernel) (pa_cons (pe_lc (own := [("sign", 1)]) (by rfl) sc.nd (pi_str (pv 0)) (blkOk_by (own := [("sign", 1)]) (N := ["thing", "sign"]) (sc := (defScope s_is_name)) (by decide +kernel)) (fun _ _ _ _ _ => (pg_name (i := 1) sc.nd rfl (by first | exact Or.inl rfl | exact Or.inr rfl))) (fun _ _ _ _ _ => pts_nil) (fun _ _ _ _ _ => (pe_cmpR (U.ou_in (K := K)) (pv 1) (U.pe_gs (l := [97, 98, 99, 100, 101, 102, 103, 104, 105, 106, 107, 108, 109, 110, 111, 112, 113, 114, 115, 116, 117, 118, 119, 120, 121, 122]) rfl T.k_LETTERS) rfl))) pa_nil))))), ?_⟩
  walk_at "ust0"
  walk_at "ugo"
  refine brT (by omega) ?_
  walk_at "ugo"
  refine brT (by omega) ?_
  walk_at "ugo"
  refine lc_s (σw := [some (.str (S a)), none]) rfl (fun c => some (.bl (decide (Lt c)))) (by walk_at "usd") (fun c H' A B hc e hA hB => ?_) (fun D H' hD e hL => ?_)
  · walk_at "ugo"
    exact hA _ (by simp only [mem_letters])
  · rw [fm_all] at hL
    walk_at "ugo"
    refine all_b (LR.lr (K := K) (H := H') (a := D)) ?_
    refine qb (k _ e) ?_
    rw [all_id]
    exact (List.all_eq_true.mpr fun c hc => by simpa using ha c hc).symm
theorem c_is_name (T : Txt K mg w) : C8.Cal P w K mg base 1 "is_name" sp_is_name [] := by
  obtain ⟨fd, F, ok⟩ := ok_is_name (P := P) (w := w) (base := base) T
  exact cal_n F T.g_is_name (F.bindsN fun _ _ _ _ _ _ us hl => match us, hl with | [_], _ => rfl) ok
/-! is_figures, is_points, is_maker, is_letters: of what are such -/
def sp_is_figures : Sp := fun vs H Q _ => ∃ (a : List Nat), vs = [.str (S a)] ∧ a.length ≤ 1000 ∧ Figs a ∧ ∀ H', Ex H H' → Q (.bl true) H'
theorem ok_is_figures (T : Txt K mg w) : ∃ fd, FunD K d_is_figures.name d_is_figures.qual d_is_figures.params d_is_figures.body d_is_figures.scope (d_is_figures.dvs K) (d_is_figures.kws K) (He.fAd K d_is_figures.at_) fd ∧ FnOk P w K mg base C8.CX0 1 (He.fAd K d_is_figures.at_) fd ["thing"] sp_is_figures := by
  obtain ⟨fd, F⟩ := T.f_is_figures
  refine ⟨fd, F, ?_⟩
  have sc := (show FnScope ["thing", "sign"] ["thing"] (defScope s_is_figures) from ⟨rfl, rfl, rfl, by decide +kernel, rfl, by decide +kernel, by decide +kernel⟩)
  refine F.ok sc (fun vs H Q E h => ?_) (fun cdv A outer s H vs Q E hr h => ?_)
  · obtain ⟨a, rfl, l1, ha, k⟩ := h; rfl
  obtain ⟨a, rfl, l1, ha, k⟩ := h
  have hu := hr.units
  refine ⟨_, PSs.nox (pss_one (ps_ret (pe_and (pe_cmpR (U.ou_ne (K := K) hu) (pv 0) (U.pe_s (l := []) (by decide +kernel)) (nomark _)) (pe_and (pe_callB (U.cu_all (K := K) rfl) (by rfl) T.b_all (by decide +kernel) (pa_cons (pe_lc (own := [("sign", 1)]) (by rfl) sc.nd (pi_str (pv 0)) (blkOk_by (own := [("sign", 1)]) (N := ["thing", "sign"]) (sc := (defScope s_is_figures)) (by decide +kernel)) (fun _ _ _ _ _ => (pg_name (i := 1) sc.nd rfl (by first | exact Or.inl rfl | exact Or.inr rfl))) (fun _ _ _ _ _ => pts_nil) (fun _ _ _ _ _ => (pe_cmpR (U.ou_in (K := K)) (pv 1) (U.pe_gs (l := [48, 49, 50, 51, 52, 53, 54, 55, 56, 57]) rfl T.k_FIGURES) rfl))) pa_nil)) (pe_one (pe_cmpR (U.ou_ne (K := K) hu) (pe_ix (U.xu (K := K)) (pv 0) (pe_un un_neg pe_int) (fun _ _ => rfl)) (U.pe_s (l := [48]) (by decide +kernel)) (nomark _))))))), ?_⟩
  walk_at "ust0"
  obtain ⟨c, hc, h0⟩ := ha.last
  have hne : a ≠ [] := by rintro rfl; cases hc
  walk_at "ugo"
  rw [decide_eq_false hne]
  walk_at "ugo"
  refine lc_s (σw := [some (.str (S a)), none]) rfl (fun c => some (.bl (decide (Fg c)))) (by walk_at "usd") (fun c H' A B hc e hA hB => ?_) (fun D H' hD e hL => ?_)
  · walk_at "ugo"
    exact hA _ (by simp only [mem_figs])
  · rw [fm_all] at hL
    walk_at "ugo"
    refine all_b (LR.lr (K := K) (H := H') (a := D)) ?_
    rw [all_id, List.all_eq_true.mpr fun c hc => decide_eq_true (ha.all c hc)]
    walk_at "ugo"
    refine ix_sg (by walk_at "usd") hc ?_
    walk_at "ugo"
    exact qb (k _ e) (by simp [h0])
theorem c_is_figures (T : Txt K mg w) : C8.Cal P w K mg base 1 "is_figures" sp_is_figures [] := by
  obtain ⟨fd, F, ok⟩ := ok_is_figures (P := P) (w := w) (base := base) T
  exact cal_n F T.g_is_figures (F.bindsN fun _ _ _ _ _ _ us hl => match us, hl with | [_], _ => rfl) ok
instance {a : List Nat} {H : Hp} {Q : VK} {E : XK} : Go (sp_is_figures [.str (S a)] H Q E) (Sd (a.length ≤ 1000) (Sd (Figs a) (∀ H', Ex H H' → Q (.bl true) H'))) := ⟨fun k => ⟨a, rfl, k.1, k.2.1, k.2.2⟩⟩
def sp_is_points : Sp := fun vs H Q _ => ∃ (a : List Nat), vs = [.str (S a)] ∧ a.length ≤ 1000 ∧ (a = [] ∨ Figs a) ∧ ∀ H', Ex H H' → Q (.bl true) H'
theorem ok_is_points (T : Txt K mg w) : ∃ fd, FunD K d_is_points.name d_is_points.qual d_is_points.params d_is_points.body d_is_points.scope (d_is_points.dvs K) (d_is_points.kws K) (He.fAd K d_is_points.at_) fd ∧ FnOk P w K mg base C8.CX0 2 (He.fAd K d_is_points.at_) fd ["thing"] sp_is_points := by
  obtain ⟨fd, F⟩ := T.f_is_points
  refine ⟨fd, F, ?_⟩
  have sc := (show FnScope ["thing"] ["thing"] (defScope s_is_points) from ⟨rfl, rfl, rfl, by decide +kernel, rfl, by decide +kernel, by decide +kernel⟩)
  refine F.ok sc (fun vs H Q E h => ?_) (fun cdv A outer s H vs Q E hr h => ?_)
  · obtain ⟨a, rfl, l1, ha, k⟩ := h; rfl
  obtain ⟨a, rfl, l1, ha, k⟩ := h
  have hu := hr.units
  refine ⟨_, PSs.nox (pss_one (ps_ret (pe_and (pe_callB (U.cu_isi (K := K)) (by rfl) T.b_isinstance (by decide +kernel) (pa_cons (pv 0) (pa_cons (U.pe_ty (n := "str") rfl T.b_str (by decide +kernel)) pa_nil))) (pe_one (pe_or (pe_cmpR (U.ou_eq (K := K) hu) (pv 0) (U.pe_s (l := []) (by decide +kernel)) (nomark _)) (pe_one (C8.pe_c (c_is_figures T) hr (by decide) rfl (pa_cons (pv 0) pa_nil)))))))), ?_⟩
  walk_at "ust0"
  rcases ha with rfl | ha
  · walk_at "ugo"
    exact k _ ⟨fun _ _ h => h⟩
  · have hne : a ≠ [] := by obtain ⟨c, hc, _⟩ := ha.last; rintro rfl; cases hc
    walk_at "ugo"
    rw [decide_eq_false hne]
    walk_at "ugo"
    exact k
theorem c_is_points (T : Txt K mg w) : C8.Cal P w K mg base 2 "is_points" sp_is_points [] := by
  obtain ⟨fd, F, ok⟩ := ok_is_points (P := P) (w := w) (base := base) T
  exact cal_n F T.g_is_points (F.bindsN fun _ _ _ _ _ _ us hl => match us, hl with | [_], _ => rfl) ok
instance {a : List Nat} {H : Hp} {Q : VK} {E : XK} : Go (sp_is_points [.str (S a)] H Q E) (Sd (a.length ≤ 1000) (Sd (a = [] ∨ Figs a) (∀ H', Ex H H' → Q (.bl true) H'))) := ⟨fun k => ⟨a, rfl, k.1, k.2.1, k.2.2⟩⟩
def sp_is_maker : Sp := fun vs H Q _ => ∃ (a : List Nat), vs = [.str (S a)] ∧ a.length ≤ 1000 ∧ Maker a ∧ ∀ H', Ex H H' → Q (.bl true) H'
theorem ok_is_maker (T : Txt K mg w) : ∃ fd, FunD K d_is_maker.name d_is_maker.qual d_is_maker.params d_is_maker.body d_is_maker.scope (d_is_maker.dvs K) (d_is_maker.kws K) (He.fAd K d_is_maker.at_) fd ∧ FnOk P w K mg base C8.CX0 2 (He.fAd K d_is_maker.at_) fd ["thing"] sp_is_maker := by
  obtain ⟨fd, F⟩ := T.f_is_maker
  refine ⟨fd, F, ?_⟩
  have sc := (show FnScope ["thing"] ["thing"] (defScope s_is_maker) from ⟨rfl, rfl, rfl, by decide +kernel, rfl, by decide +kernel, by decide +kernel⟩)
  refine F.ok sc (fun vs H Q E h => ?_) (fun cdv A outer s H vs Q E hr h => ?_)
  · obtain ⟨a, rfl, l1, ha, k⟩ := h; rfl
  obtain ⟨a, rfl, l1, ha, k⟩ := h
  have hu := hr.units
  refine ⟨_, PSs.nox (pss_cons (ps_if (PW.pt (pw_or (pt_not (pt_val (pe_callB (U.cu_isi (K := K)) (by rfl) T.b_isinstance (by decide +kernel) (pa_cons (pv 0) (pa_cons (U.pe_ty (n := "str") rfl T.b_str (by decide +kernel)) pa_nil))))) (pw_or1 (pt_cmpR (U.ou_eq (K := K) hu) (pv 0) (U.pe_s (l := []) (by decide +kernel)) (nomark _))))) (pss_one (ps_ret pe_bl)) pss_nil)
  (pss_one (ps_ret (pe_and (pe_cmpR (U.ou_in (K := K)) (pe_ix (U.xu (K := K)) (pv 0) pe_int (fun _ _ => rfl)) (U.pe_gs (l := [97, 98, 99, 100, 101, 102, 103, 104, 105, 106, 107, 108, 109, 110, 111, 112, 113, 114, 115, 116, 117, 118, 119, 120, 121, 122]) rfl T.k_LETTERS) rfl) (pe_one (C8.pe_c (c_is_figures T) hr (by decide) rfl (pa_cons (pe_slice (U.su (K := K)) (pv 0) (po_some pe_int) po_none) pa_nil))))))), ?_⟩
  walk_at "ust0"
  obtain ⟨c, t, rfl, hc, ht⟩ := ha.ex
  rw [List.length_cons] at l1
  walk_at "ugo"
  rw [decide_eq_false (List.cons_ne_nil _ _)]
  walk_at "ugo"
  refine ix_sg (by walk_at "usd") (c := c) (by simp [atI, ixN]) ?_
  walk_at "ugo"
  refine brT (mem_letters.mpr hc) ?_
  walk_at "ugo"
  refine sl_fr (by walk_at "usd") (by omega) ?_
  have e : List.drop (Int.toNat 1) (c :: t) = t := rfl
  rw [e]
  walk_at "ugo"
  exact k
theorem c_is_maker (T : Txt K mg w) : C8.Cal P w K mg base 2 "is_maker" sp_is_maker [] := by
  obtain ⟨fd, F, ok⟩ := ok_is_maker (P := P) (w := w) (base := base) T
  exact cal_n F T.g_is_maker (F.bindsN fun _ _ _ _ _ _ us hl => match us, hl with | [_], _ => rfl) ok
instance {a : List Nat} {H : Hp} {Q : VK} {E : XK} : Go (sp_is_maker [.str (S a)] H Q E) (Sd (a.length ≤ 1000) (Sd (Maker a) (∀ H', Ex H H' → Q (.bl true) H'))) := ⟨fun k => ⟨a, rfl, k.1, k.2.1, k.2.2⟩⟩
instance {a : List Nat} {H : Hp} {Q : VK} {E : XK} : Go (sp_is_name [.str (S a)] H Q E) (Sd (a.length ≤ 6) (Sd (1 ≤ a.length) (Sd (∀ c ∈ a, Lt c) (∀ H', Ex H H' → Q (.bl true) H')))) := ⟨fun k => ⟨a, rfl, k.1, k.2.1, k.2.2.1, k.2.2.2⟩⟩
def sp_is_letters : Sp := fun vs H Q _ => ∃ (a : List Nat), vs = [.str (S a)] ∧ Name a ∧ ∀ H', Ex H H' → Q (.bl true) H'
theorem ok_is_letters (T : Txt K mg w) : ∃ fd, FunD K d_is_letters.name d_is_letters.qual d_is_letters.params d_is_letters.body d_is_letters.scope (d_is_letters.dvs K) (d_is_letters.kws K) (He.fAd K d_is_letters.at_) fd ∧ FnOk P w K mg base C8.CX0 2 (He.fAd K d_is_letters.at_) fd ["thing"] sp_is_letters := by
  obtain ⟨fd, F⟩ := T.f_is_letters
  refine ⟨fd, F, ?_⟩
  have sc := (show FnScope ["thing"] ["thing"] (defScope s_is_letters) from ⟨rfl, rfl, rfl, by decide +kernel, rfl, by decide +kernel, by decide +kernel⟩)
  refine F.ok sc (fun vs H Q E h => ?_) (fun cdv A outer s H vs Q E hr h => ?_)
  · obtain ⟨a, rfl, ha, k⟩ := h; rfl
  obtain ⟨a, rfl, ha, k⟩ := h
  have hu := hr.units
  refine ⟨_, PSs.nox (pss_one (ps_ret (pe_and (C8.pe_c (c_is_name T) hr (by decide) rfl (pa_cons (pv 0) pa_nil)) (pe_one (pe_cmpR U.ou_le (pe_callB (U.cu_len (K := K)) (by rfl) T.b_len (by decide +kernel) (pa_cons (pv 0) pa_nil)) pe_int (nomark _)))))), ?_⟩
  walk_at "ust0"
  have l1 := ha.len.1
  have l2 := ha.len.2
  have l3 := ha.all
  walk_at "ugo"
  intro H' e
  walk_at "ugo"
  exact qb (k _ e) (by simp; omega)
theorem c_is_letters (T : Txt K mg w) : C8.Cal P w K mg base 2 "is_letters" sp_is_letters [] := by
  obtain ⟨fd, F, ok⟩ := ok_is_letters (P := P) (w := w) (base := base) T
  exact cal_n F T.g_is_letters (F.bindsN fun _ _ _ _ _ _ us hl => match us, hl with | [_], _ => rfl) ok
instance {a : List Nat} {H : Hp} {Q : VK} {E : XK} : Go (sp_is_letters [.str (S a)] H Q E) (Sd (Name a) (∀ H', Ex H H' → Q (.bl true) H')) := ⟨fun k => ⟨a, rfl, k.1, k.2⟩⟩
/-! need_year, need_copy -/
def sp_need_year : Sp := fun vs H Q _ => ∃ y : V, vs = [y] ∧ (y = .non ∨ ∃ i : Int, y = .int i ∧ 1000 ≤ i ∧ i ≤ 2999) ∧ Q .non H
theorem ok_need_year (T : Txt K mg w) : ∃ fd, FunD K d_need_year.name d_need_year.qual d_need_year.params d_need_year.body d_need_year.scope (d_need_year.dvs K) (d_need_year.kws K) (He.fAd K d_need_year.at_) fd ∧ FnOk P w K mg base C8.CX0 2 (He.fAd K d_need_year.at_) fd ["year"] sp_need_year := by
  obtain ⟨fd, F⟩ := T.f_need_year
  refine ⟨fd, F, ?_⟩
  have sc := (show FnScope ["year"] ["year"] (defScope s_need_year) from ⟨rfl, rfl, rfl, by decide +kernel, rfl, by decide +kernel, by decide +kernel⟩)
  refine F.ok sc (fun vs H Q E h => ?_) (fun cdv A outer s H vs Q E hr h => ?_)
  · obtain ⟨y, rfl, hy, k⟩ := h; rfl
  obtain ⟨y, rfl, hy, k⟩ := h
  have hu := hr.units
  refine ⟨_, PSs.nox (pss_one (ps_if (PW.pt (pw_and (pt_cmpR U.ou_isn (pv 0) pe_non (nomark _)) (pw_and1 (pt_not (pt_val (C8.pe_c (c_is_whole T) hr (by decide) rfl (pa_cons (pv 0) (pa_cons (U.pe_gi rfl T.k_FIRST_YEAR) (pa_cons (U.pe_gi rfl T.k_LAST_YEAR) pa_nil))))))))) (pss_one ps_never) pss_nil)), ?_⟩
  walk_at "ust0"
  rcases hy with rfl | ⟨i, rfl, h1, h2⟩
  · walk_at "ugo"
    exact k
  · walk_at "ugo"
    refine brT ⟨h1, h2⟩ ?_
    walk_at "ugo"
    exact k
theorem c_need_year (T : Txt K mg w) : C8.Cal P w K mg base 2 "need_year" sp_need_year [] := by
  obtain ⟨fd, F, ok⟩ := ok_need_year (P := P) (w := w) (base := base) T
  exact cal_n F T.g_need_year (F.bindsN fun _ _ _ _ _ _ us hl => match us, hl with | [_], _ => rfl) ok
instance {y : V} {H : Hp} {Q : VK} {E : XK} : Go (sp_need_year [y] H Q E) (Sd (y = .non ∨ ∃ i : Int, y = .int i ∧ 1000 ≤ i ∧ i ≤ 2999) (Q .non H)) := ⟨fun k => ⟨y, rfl, k.1, k.2⟩⟩
def sp_need_copy : Sp := fun vs H Q _ => ∃ y : V, vs = [y] ∧ (y = .non ∨ ∃ i : Int, y = .int i ∧ 2 ≤ i) ∧ Q .non H
theorem ok_need_copy (T : Txt K mg w) : ∃ fd, FunD K d_need_copy.name d_need_copy.qual d_need_copy.params d_need_copy.body d_need_copy.scope (d_need_copy.dvs K) (d_need_copy.kws K) (He.fAd K d_need_copy.at_) fd ∧ FnOk P w K mg base C8.CX0 2 (He.fAd K d_need_copy.at_) fd ["copy"] sp_need_copy := by
  obtain ⟨fd, F⟩ := T.f_need_copy
  refine ⟨fd, F, ?_⟩
  have sc := (show FnScope ["copy"] ["copy"] (defScope s_need_copy) from ⟨rfl, rfl, rfl, by decide +kernel, rfl, by decide +kernel, by decide +kernel⟩)
  refine F.ok sc (fun vs H Q E h => ?_) (fun cdv A outer s H vs Q E hr h => ?_)
  · obtain ⟨y, rfl, hy, k⟩ := h; rfl
  obtain ⟨y, rfl, hy, k⟩ := h
  have hu := hr.units
  refine ⟨_, PSs.nox (pss_one (ps_if (PW.pt (pw_and (pt_cmpR U.ou_isn (pv 0) pe_non (nomark _)) (pw_and1 (pt_not (pt_val (C8.pe_c (c_is_whole_2 T) hr (by decide) rfl (pa_cons (pv 0) (pa_cons pe_int pa_nil)))))))) (pss_one ps_never) pss_nil)), ?_⟩
  walk_at "ust0"
  rcases hy with rfl | ⟨i, rfl, h1⟩
  · walk_at "ugo"
    exact k
  · walk_at "ugo"
    refine brT h1 ?_
    walk_at "ugo"
    exact k
theorem c_need_copy (T : Txt K mg w) : C8.Cal P w K mg base 2 "need_copy" sp_need_copy [] := by
  obtain ⟨fd, F, ok⟩ := ok_need_copy (P := P) (w := w) (base := base) T
  exact cal_n F T.g_need_copy (F.bindsN fun _ _ _ _ _ _ us hl => match us, hl with | [_], _ => rfl) ok
instance {y : V} {H : Hp} {Q : VK} {E : XK} : Go (sp_need_copy [y] H Q E) (Sd (y = .non ∨ ∃ i : Int, y = .int i ∧ 2 ≤ i) (Q .non H)) := ⟨fun k => ⟨y, rfl, k.1, k.2⟩⟩
end
end T

namespace T
open PySem PySem.Spec PyProof.Rows L2 U
open SX (S)
section
variable {P : Program} {w : World} {K : PySem.W.Frag} {mg : PySem.Str → Option Value} {base : Heap}
/-! makers_in: a list or a tuple of makers, or none -/
theorem tx_at {ms : List (List Nat)} {k : Nat} {x : V} (h : (ms.map tx)[k]? = some x) : ∃ m, x = tx m ∧ m ∈ ms := by
  rw [List.getElem?_map] at h
  cases e : ms[k]? with
  | none => rw [e] at h; cases h
  | some m => rw [e] at h; cases h; exact ⟨m, rfl, List.mem_of_getElem? e⟩
def sp_makers_in (K : PySem.W.Frag) : Sp := fun vs H Q _ => ∃ (y : V) (ms : List (List Nat)), vs = [y] ∧ ((y = .non ∧ ms = []) ∨ ∃ p, y = .ref p ∧ (SqL K H p (ms.map tx) ∨ SqT K H p (ms.map tx))) ∧ ms.length ≤ 3 ∧ (∀ m ∈ ms, Maker m ∧ m.length ≤ 1000) ∧ ∀ p H', Ex H H' → TR K H' p (ms.map tx) → Q (.ref p) H'
theorem ok_makers_in (T : Txt K mg w) : ∃ fd, FunD K d_makers_in.name d_makers_in.qual d_makers_in.params d_makers_in.body d_makers_in.scope (d_makers_in.dvs K) (d_makers_in.kws K) (He.fAd K d_makers_in.at_) fd ∧ FnOk P w K mg base C8.CX0 3 (He.fAd K d_makers_in.at_) fd ["makers"] (sp_makers_in K) := by
  obtain ⟨fd, F⟩ := T.f_makers_in
  refine ⟨fd, F, ?_⟩
  have sc := (show FnScope ["makers", "maker"] ["makers"] (defScope s_makers_in) from ⟨rfl, rfl, rfl, by decide +kernel, rfl, by decide +kernel, by decide +kernel⟩)
  refine F.ok sc (fun vs H Q E h => ?_) (fun cdv A outer s H vs Q E hr h => ?_)
  · obtain ⟨y, ms, rfl, hy, l3, hm, k⟩ := h; rfl
  obtain ⟨y, ms, rfl, hy, l3, hm, k⟩ := h
  have hu := hr.units
  refine ⟨_, PSs.nox (pss_cons (ps_if (pt_cmpR U.ou_is (pv 0) pe_non (nomark _)) (pss_one (ps_ret (pe_tup pa_nil))) pss_nil)
  (pss_cons (ps_if (PW.pt (pw_or (pt_not (pt_val (pe_callB (U.cu_isi (K := K)) (by rfl) T.b_isinstance (by decide +kernel) (pa_cons (pv 0) (pa_cons (pe_tup (pa_cons (U.pe_ty (n := "list") rfl T.b_list (by decide +kernel)) (pa_cons (U.pe_ty (n := "tuple") rfl T.b_tuple (by decide +kernel)) pa_nil))) pa_nil))))) (pw_or1 (pt_cmpR U.ou_gt (pe_callB (U.cu_len (K := K)) (by rfl) T.b_len (by decide +kernel) (pa_cons (pv 0) pa_nil)) (U.pe_gi rfl T.k_MOST_MAKERS) (nomark _))))) (pss_one ps_never) pss_nil)
  (pss_cons (ps_for PassesOwn.never rfl (U.pi_seq (K := K) (pv 0)) (pg_name (i := 1) sc.nd rfl (by first | exact Or.inl rfl | exact Or.inr rfl)) (pss_one (ps_if (pt_not (pt_val (C8.pe_c (c_is_maker T) hr (by decide) rfl (pa_cons (pv 1) pa_nil)))) (pss_one ps_never) pss_nil)))
  (pss_one (ps_ret (pe_callTy (U.cu_tup (K := K)) (by rfl) T.b_tuple (by decide +kernel) (pa_cons (pv 0) pa_nil))))))), ?_⟩
  walk_at "ust0"
  rcases hy with ⟨rfl, rfl⟩ | ⟨p, rfl, hp⟩
  · walk_at "ugo"
    refine al_t' fun p H' nw ex tm => ?_
    exact k p H' ⟨Et.et⟩ (by simpa using (inferInstance : TR K H' p []))
  · have hl : (ms.map tx).length = ms.length := List.length_map ..
    rcases hp with hp | hp
    · haveI : LR K H p (ms.map tx) := ⟨hp⟩
      walk_at "ugo"
      refine al_t' fun q H' nw ex tm => ?_
      walk_at "ugo"
      refine brF (by omega) ?_
      walk_at "ugo"
      refine for_l (xs := ms.map tx) (fun i σ H2 => (∃ o, σ = [some (.ref p), o]) ∧ Et H' H2) ⟨⟨_, rfl⟩, inferInstance⟩ (fun i σ H2 hi h => ex_l h.2.et (LR.lr (K := K) (H := H') (a := p))) (fun i x σ H2 hi hx h => ?_) (fun σ H2 h => ?_)
      · obtain ⟨⟨o, rfl⟩, e⟩ := h
        obtain ⟨m, rfl, hmm⟩ := tx_at hx
        have h1 := (hm m hmm).1
        have h2 := (hm m hmm).2
        walk_at "ugo"
        intro H3 e3
        walk_at "ugo"
        exact ⟨⟨_, rfl⟩, inferInstance⟩
      · obtain ⟨⟨o, rfl⟩, e⟩ := h
        haveI : Ex H' H2 := ⟨e.et⟩
        walk_at "ugo"
        refine al_t' fun r H3 nw ex tm => ?_
        exact k r H3 ⟨Et.et⟩ inferInstance
    · haveI : TR K H p (ms.map tx) := ⟨hp⟩
      walk_at "ugo"
      refine al_t' fun q H' nw ex tm => ?_
      walk_at "ugo"
      refine brF (by omega) ?_
      walk_at "ugo"
      refine for_t (xs := ms.map tx) (fun i σ H2 => (∃ o, σ = [some (.ref p), o]) ∧ Et H' H2) ⟨⟨_, rfl⟩, inferInstance⟩ (fun i σ H2 hi h => ex_t h.2.et (TR.tr (K := K) (H := H') (a := p))) (fun i x σ H2 hi hx h => ?_) (fun σ H2 h => ?_)
      · obtain ⟨⟨o, rfl⟩, e⟩ := h
        obtain ⟨m, rfl, hmm⟩ := tx_at hx
        have h1 := (hm m hmm).1
        have h2 := (hm m hmm).2
        walk_at "ugo"
        intro H3 e3
        walk_at "ugo"
        exact ⟨⟨_, rfl⟩, inferInstance⟩
      · obtain ⟨⟨o, rfl⟩, e⟩ := h
        haveI : Ex H' H2 := ⟨e.et⟩
        walk_at "ugo"
        exact k p H2 ⟨Et.et⟩ inferInstance
theorem c_makers_in (T : Txt K mg w) : C8.Cal P w K mg base 3 "makers_in" (sp_makers_in K) [] := by
  obtain ⟨fd, F, ok⟩ := ok_makers_in (P := P) (w := w) (base := base) T
  exact cal_n F T.g_makers_in (F.bindsN fun _ _ _ _ _ _ us hl => match us, hl with | [_], _ => rfl) ok
/-! figures_of, of a number below 10^60 -/
def sp_figures_of : Sp := fun vs H Q _ => ∃ n : Nat, vs = [.int (n : Int)] ∧ n < 10 ^ 60 ∧ ∀ H', Ex H H' → Q (.str (S (nm n))) H'
theorem ok_figures_of (T : Txt K mg w) : ∃ fd, FunD K d_figures_of.name d_figures_of.qual d_figures_of.params d_figures_of.body d_figures_of.scope (d_figures_of.dvs K) (d_figures_of.kws K) (He.fAd K d_figures_of.at_) fd ∧ FnOk P w K mg base C8.CX0 1 (He.fAd K d_figures_of.at_) fd ["number"] sp_figures_of := by
  obtain ⟨fd, F⟩ := T.f_figures_of
  refine ⟨fd, F, ?_⟩
  have sc := (show FnScope ["number", "parts", "rest"] ["number"] (defScope s_figures_of) from ⟨rfl, rfl, rfl, by decide +kernel, rfl, by decide +kernel, by decide +kernel⟩)
  refine F.ok sc (fun vs H Q E h => ?_) (fun cdv A outer s H vs Q E hr h => ?_)
  · obtain ⟨n, rfl, hn, k⟩ := h; rfl
  obtain ⟨n, rfl, hn, k⟩ := h
  have hu := hr.units
  refine ⟨_, PSs.nox (pss_cons (ps_set (i := 1) sc.nd rfl (by first | exact Or.inl rfl | exact Or.inr rfl) (pe_lst pa_nil))
  (pss_cons (ps_while PassesOwn.never (pt_cmpR U.ou_ge (pv 0) (pe_op U.ou_pow pe_int pe_int) (nomark _)) (pss_cons (ps_asg (pe_callB call_divmod (by rfl) T.b_divmod (by decide +kernel) (pa_cons (pv 0) (pa_cons (pe_op U.ou_pow pe_int pe_int) pa_nil))) (U.pg_tup' (K := K) (n := 2) rfl (pgs_cons (pg_name (i := 0) sc.nd rfl (by first | exact Or.inl rfl | exact Or.inr rfl)) (pgs_cons (pg_name (i := 2) sc.nd rfl (by first | exact Or.inl rfl | exact Or.inr rfl)) pgs_nil))))
    (pss_one (ps_expr (pe_bm PySem.F.plainAttrs_list PySem.F.slot_list_append PySem.F.type_list_append mt_append (pv 1) (pa_cons (pe_m1 PySem.F.slot_str_zfill PySem.F.type_str_zfill mt_zfill (pe_callTy U.cu_str (by rfl) T.b_str (by decide +kernel) (pa_cons (pv 2) pa_nil)) (U.pe_gi rfl T.k_PART)) pa_nil))))))
  (pss_cons (ps_expr (pe_bm PySem.F.plainAttrs_list PySem.F.slot_list_append PySem.F.type_list_append mt_append (pv 1) (pa_cons (pe_callTy U.cu_str (by rfl) T.b_str (by decide +kernel) (pa_cons (pv 0) pa_nil)) pa_nil)))
  (pss_one (ps_ret (pe_m1 PySem.F.slot_str_join PySem.F.type_str_join (U.mu_join (K := K)) (U.pe_s (l := []) (by decide +kernel)) (U.pe_rev (K := K) (pv 1)))))))), ?_⟩
  walk_at "ust0"
  walk_at "ugo"
  refine al_l fun p H1 nw ex lm => ?_
  walk_at "ugo"
  refine wh (fun m σ H' => σ = [some (.int (n : Int)), some (.ref p), none] ∧ H' = H1) 0 ⟨rfl, rfl⟩ fun m σ H' h => ?_
  obtain ⟨rfl, rfl⟩ := h
  walk_at "ugo"
  refine brF (by show ¬ ((10 : Int) ^ 60 ≤ n); omega) ?_
  walk_at "ugo"
  refine mu_l' fun H2 m2 l2 => ?_
  walk_at "ugo"
  refine al_l fun q H3 nw3 ex3 lm3 => ?_
  have hl := TL.numL_len (k := 60) (by decide) hn
  walk_at "ugo"
  refine Sd.k (by simp only [List.nil_append, List.reverse_cons, List.reverse_nil, List.map_cons, List.map_nil, List.sum_cons, List.sum_nil, List.length_cons, List.length_nil, nm]; omega) ?_
  exact qv (k H3 ⟨Et.et⟩) rfl
theorem c_figures_of (T : Txt K mg w) : C8.Cal P w K mg base 1 "figures_of" sp_figures_of [] := by
  obtain ⟨fd, F, ok⟩ := ok_figures_of (P := P) (w := w) (base := base) T
  exact cal_n F T.g_figures_of (F.bindsN fun _ _ _ _ _ _ us hl => match us, hl with | [_], _ => rfl) ok
/-! ### a mark's parts -/
structure Pt where
  lets : List Nat
  num : Nat
  pts : List Nat
  hands : List (List Nat)
  age : Option Nat
  twin : Option Nat
structure Pt.Ok (m : Pt) : Prop where
  l : Name m.lets
  n : 1 ≤ m.num ∧ m.num ≤ 9999
  p : m.pts = [] ∨ Figs m.pts
  pl : m.pts.length ≤ 1000
  h3 : m.hands.length ≤ 3
  h : ∀ a ∈ m.hands, Maker a ∧ a.length ≤ 1000
  y : ∀ n, m.age = some n → 1000 ≤ n ∧ n ≤ 2999
  c : ∀ n, m.twin = some n → 2 ≤ n ∧ n < 10 ^ 59
def oV : Option Nat → V | none => .non | some n => .int (n : Int)
def Pt.words (m : Pt) : List (List Nat) := [m.lets ++ nm m.num ++ (if m.pts = [] then [] else 46 :: m.pts)] ++ m.hands ++ (m.age.map nm).toList ++ (m.twin.map fun n => 99 :: 46 :: nm n).toList
def Pt.text (m : Pt) : List Nat := TL.joinL [32] m.words
abbrev Pt.f6 (m : Pt) (t : Addr) : List (PySem.Str × V) := [("kept_makers", .ref t), ("kept_letters", tx m.lets), ("kept_number", .int (m.num : Int)), ("kept_points", tx m.pts), ("kept_year", oV m.age), ("kept_copy", oV m.twin)]
abbrev Pt.f7 (m : Pt) (t : Addr) : List (PySem.Str × V) := [("kept_makers", .ref t), ("kept_letters", tx m.lets), ("kept_number", .int (m.num : Int)), ("kept_points", tx m.pts), ("kept_year", oV m.age), ("kept_copy", oV m.twin), ("kept_text", tx m.text)]
theorem sum_le {l : List (List Nat)} {n : Nat} (h : ∀ a ∈ l, a.length ≤ n) : (l.map (·.length)).sum ≤ l.length * n := by
  induction l with
  | nil => simp
  | cons a l ih =>
    have h1 := h a (List.mem_cons_self ..)
    have h2 := ih fun b hb => h b (List.mem_cons_of_mem _ hb)
    simp only [List.map_cons, List.sum_cons, List.length_cons, Nat.succ_mul]
    omega
theorem nm_len {n : Nat} (h : n < 10 ^ 60) : (nm n).length ≤ 60 := TL.numL_len (k := 60) (by decide) h
instance {n : Nat} {H : Hp} {Q : VK} {E : XK} : Go (sp_figures_of [.int (n : Int)] H Q E) (Sd (n < 10 ^ 60) (∀ H', Ex H H' → Q (.str (S (nm n))) H')) := ⟨fun k => ⟨n, rfl, k.1, k.2⟩⟩
/-! text_of -/
def sp_Mark_text_of (K : PySem.W.Frag) : Sp := fun vs H Q _ => ∃ (x dx t : Addr) (m : Pt), vs = [.ref x] ∧ IR H x (He.ga K "Mark") dx (m.f6 t) ∧ TR K H t (m.hands.map tx) ∧ m.Ok ∧ ∀ H', Ex H H' → Q (tx m.text) H'
theorem join_len (ws : List (List Nat)) (n : Nat) (h : ws.length ≤ 6) (h2 : (ws.map (·.length)).sum ≤ 5000) : (ws.map (·.length)).sum + ws.length * ([32] : List Nat).length ≤ 16777216 := by
  rw [List.length_singleton]; omega
theorem ok_Mark_text_of (T : Txt K mg w) : ∃ fd, FunD K d_Mark_text_of.name d_Mark_text_of.qual d_Mark_text_of.params d_Mark_text_of.body d_Mark_text_of.scope (d_Mark_text_of.dvs K) (d_Mark_text_of.kws K) (He.fAd K d_Mark_text_of.at_) fd ∧ FnOk P w K mg base C8.CX0 2 (He.fAd K d_Mark_text_of.at_) fd ["self"] (sp_Mark_text_of K) := by
  obtain ⟨fd, F⟩ := T.f_Mark_text_of
  refine ⟨fd, F, ?_⟩
  have sc := (show FnScope ["self", "words"] ["self"] (defScope s_Mark_text_of) from ⟨rfl, rfl, rfl, by decide +kernel, rfl, by decide +kernel, by decide +kernel⟩)
  refine F.ok sc (fun vs H Q E h => ?_) (fun cdv A outer s H vs Q E hr h => ?_)
  · obtain ⟨x, dx, t, m, rfl, ir, tr, ok, k⟩ := h; rfl
  obtain ⟨x, dx, t, m, rfl, ir, tr, ok, k⟩ := h
  have hu := hr.units
  haveI : CA K (He.ga K "Mark") "kept_copy" := ⟨T.c_Mark, T.n_Mark_kept_copy⟩
  haveI : CA K (He.ga K "Mark") "kept_letters" := ⟨T.c_Mark, T.n_Mark_kept_letters⟩
  haveI : CA K (He.ga K "Mark") "kept_makers" := ⟨T.c_Mark, T.n_Mark_kept_makers⟩
  haveI : CA K (He.ga K "Mark") "kept_number" := ⟨T.c_Mark, T.n_Mark_kept_number⟩
  haveI : CA K (He.ga K "Mark") "kept_points" := ⟨T.c_Mark, T.n_Mark_kept_points⟩
  haveI : CA K (He.ga K "Mark") "kept_year" := ⟨T.c_Mark, T.n_Mark_kept_year⟩
  refine ⟨_, PSs.nox (pss_cons (ps_set (i := 1) sc.nd rfl (by first | exact Or.inl rfl | exact Or.inr rfl) (pe_lst (pa_cons (U.pe_joinedU (.cons (pe_fmt (U.pe_fld' (K := K) (pv 0) rfl)) (.cons (pe_fmt (U.pe_fld' (K := K) (pv 0) rfl)) .nil))) pa_nil)))
  (pss_cons (ps_if (pt_cmpR (U.ou_ne (K := K) hu) (U.pe_fld' (K := K) (pv 0) rfl) (U.pe_s (l := []) (by decide +kernel)) (nomark _)) (pss_one (U.ps_augL (K := K) (pv 1) pe_int (pe_op (U.ou_add (K := K)) (U.pe_s (l := [46]) (by decide +kernel)) (U.pe_fld' (K := K) (pv 0) rfl)) U.ip_add')) pss_nil)
  (pss_cons (ps_expr (pe_bm PySem.F.plainAttrs_list PySem.F.slot_list_extend PySem.F.type_list_extend (U.mt_ext (K := K)) (pv 1) (pa_cons (U.pe_fld' (K := K) (pv 0) rfl) pa_nil)))
  (pss_cons (ps_if (pt_cmpR U.ou_isn (U.pe_fld' (K := K) (pv 0) rfl) pe_non (nomark _)) (pss_one (ps_expr (pe_bm PySem.F.plainAttrs_list PySem.F.slot_list_append PySem.F.type_list_append mt_append (pv 1) (pa_cons (pe_callTy U.cu_str (by rfl) T.b_str (by decide +kernel) (pa_cons (U.pe_fld' (K := K) (pv 0) rfl) pa_nil)) pa_nil)))) pss_nil)
  (pss_cons (ps_if (pt_cmpR U.ou_isn (U.pe_fld' (K := K) (pv 0) rfl) pe_non (nomark _)) (pss_one (ps_expr (pe_bm PySem.F.plainAttrs_list PySem.F.slot_list_append PySem.F.type_list_append mt_append (pv 1) (pa_cons (pe_op (U.ou_add (K := K)) (U.pe_s (l := [99, 46]) (by decide +kernel)) (C8.pe_c (c_figures_of T) hr (by decide) rfl (pa_cons (U.pe_fld' (K := K) (pv 0) rfl) pa_nil))) pa_nil)))) pss_nil)
  (pss_one (ps_ret (pe_m1 PySem.F.slot_str_join PySem.F.type_str_join (U.mu_join (K := K)) (U.pe_s (l := [32]) (by decide +kernel)) (pv 1))))))))), ?_⟩
  walk_at "ust0"
  have b1 := ok.l.len.2
  have b2 := nm_len (n := m.num) (by have := ok.n.2; omega)
  have b3 := ok.pl
  have b4 := ok.h3
  have b5 := sum_le fun a ha => (ok.h a ha).2
  have b6 : m.num < 10 ^ 60 := by have := ok.n.2; omega
  have b7 : (m.hands.map tx).length ≤ 3 := by rw [List.length_map]; omega
  have b8 := ok.y
  have b9 := ok.c
  obtain ⟨lets, num, pts, hands, age, twin⟩ := m
  dsimp only [Pt.f6] at ir tr b1 b2 b3 b4 b5 b6 b7 b8 b9 k
  have leaf : ∀ {Q : VK} {H : Hp} (a b : List Nat), Q (tx a) H → a = b → Q (tx b) H := fun a b k e => e ▸ k
  walk_at "ugo"
  refine al_l fun p H1 nw ex lm => ?_
  walk_at "ugo"
  refine br2 (fun hp => ?_) (fun hp => ?_)
  · subst hp
    walk_at "ugo"
    refine mu_l' fun H2 m2 l2 => ?_
    rcases age with _ | y <;> dsimp only [oV] at ir
    · walk_at "ugo"
      rcases twin with _ | z <;> dsimp only [oV] at ir
      · walk_at "ugo"
        refine Sd.k (by simp only [List.map_cons, List.map_append, List.map_nil, List.sum_cons, List.sum_append, List.sum_nil, List.length_append, List.length_cons, List.length_nil]; omega) ?_
        exact qv (k _ ⟨Et.et⟩) (by simp [Pt.text, Pt.words])
      · have hz := (b9 z rfl).2
        have hl := nm_len (n := z) (by omega)
        walk_at "ugo"
        intro H3 e3
        walk_at "ugo"
        refine mu_l' fun H4 m4 l4 => ?_
        walk_at "ugo"
        refine Sd.k (by simp only [List.map_cons, List.map_append, List.map_nil, List.sum_cons, List.sum_append, List.sum_nil, List.length_append, List.length_cons, List.length_nil]; omega) ?_
        exact qv (k _ ⟨Et.et⟩) (by simp [Pt.text, Pt.words])
    · have hy := (b8 y rfl).2
      have hyl := nm_len (n := y) (by omega)
      walk_at "ugo"
      refine mu_l' fun H5 m5 l5 => ?_
      rcases twin with _ | z <;> dsimp only [oV] at ir
      · walk_at "ugo"
        refine Sd.k (by simp only [List.map_cons, List.map_append, List.map_nil, List.sum_cons, List.sum_append, List.sum_nil, List.length_append, List.length_cons, List.length_nil]; omega) ?_
        exact qv (k _ ⟨Et.et⟩) (by simp [Pt.text, Pt.words])
      · have hz := (b9 z rfl).2
        have hl := nm_len (n := z) (by omega)
        walk_at "ugo"
        intro H3 e3
        walk_at "ugo"
        refine mu_l' fun H4 m4 l4 => ?_
        walk_at "ugo"
        refine Sd.k (by simp only [List.map_cons, List.map_append, List.map_nil, List.sum_cons, List.sum_append, List.sum_nil, List.length_append, List.length_cons, List.length_nil]; omega) ?_
        exact qv (k _ ⟨Et.et⟩) (by simp [Pt.text, Pt.words])
  · walk_at "ugo"
    refine gl_of (by omega) (by omega) rfl ?_
    walk_at "ugo"
    refine sl_of (j := 0) (zs := [_]) (by simp [ixN]) rfl ?_
    refine mu_l' fun H1a m1a l1a => ?_
    walk_at "ugo"
    refine mu_l' fun H2 m2 l2 => ?_
    rcases age with _ | y <;> dsimp only [oV] at ir
    · walk_at "ugo"
      rcases twin with _ | z <;> dsimp only [oV] at ir
      · walk_at "ugo"
        refine Sd.k (by simp only [List.map_cons, List.map_append, List.map_nil, List.sum_cons, List.sum_append, List.sum_nil, List.length_append, List.length_cons, List.length_nil]; omega) ?_
        exact qv (k _ ⟨Et.et⟩) (by simp [Pt.text, Pt.words, hp])
      · have hz := (b9 z rfl).2
        have hl := nm_len (n := z) (by omega)
        walk_at "ugo"
        intro H3 e3
        walk_at "ugo"
        refine mu_l' fun H4 m4 l4 => ?_
        walk_at "ugo"
        refine Sd.k (by simp only [List.map_cons, List.map_append, List.map_nil, List.sum_cons, List.sum_append, List.sum_nil, List.length_append, List.length_cons, List.length_nil]; omega) ?_
        exact qv (k _ ⟨Et.et⟩) (by simp [Pt.text, Pt.words, hp])
    · have hy := (b8 y rfl).2
      have hyl := nm_len (n := y) (by omega)
      walk_at "ugo"
      refine mu_l' fun H5 m5 l5 => ?_
      rcases twin with _ | z <;> dsimp only [oV] at ir
      · walk_at "ugo"
        refine Sd.k (by simp only [List.map_cons, List.map_append, List.map_nil, List.sum_cons, List.sum_append, List.sum_nil, List.length_append, List.length_cons, List.length_nil]; omega) ?_
        exact qv (k _ ⟨Et.et⟩) (by simp [Pt.text, Pt.words, hp])
      · have hz := (b9 z rfl).2
        have hl := nm_len (n := z) (by omega)
        walk_at "ugo"
        intro H3 e3
        walk_at "ugo"
        refine mu_l' fun H4 m4 l4 => ?_
        walk_at "ugo"
        refine Sd.k (by simp only [List.map_cons, List.map_append, List.map_nil, List.sum_cons, List.sum_append, List.sum_nil, List.length_append, List.length_cons, List.length_nil]; omega) ?_
        exact qv (k _ ⟨Et.et⟩) (by simp [Pt.text, Pt.words, hp])
theorem c_m_text_of (T : Txt K mg w) : C8.Met P w K mg base 2 (He.ga K "Mark") "text_of" (sp_Mark_text_of K) [] := by
  obtain ⟨fd, F, ok⟩ := ok_Mark_text_of (P := P) (w := w) (base := base) T
  exact ⟨_, fd, _, [], T.c_Mark, T.m_Mark_text_of, ok, F.bindsN fun _ _ _ _ _ _ us hl => match us, hl with | [_], _ => rfl, .nil⟩
end
end T

namespace T
open PySem PySem.Spec PyProof.Rows L2 U
open SX (S)
section
variable {P : Program} {w : World} {K : PySem.W.Frag} {mg : PySem.Str → Option Value} {base : Heap}
instance {H : Hp} {Q : VK} {E : XK} {p : Addr} {ms : List (List Nat)} [h : LR K H p (ms.map tx)] : Go (sp_makers_in K [.ref p] H Q E) (Sd (ms.length ≤ 3) (Sd (∀ m ∈ ms, Maker m ∧ m.length ≤ 1000) (∀ p H', Ex H H' → TR K H' p (ms.map tx) → Q (.ref p) H'))) := ⟨fun k => ⟨_, ms, rfl, .inr ⟨p, rfl, .inl h.lr⟩, k.1, k.2.1, k.2.2⟩⟩
instance {H : Hp} {Q : VK} {E : XK} {x dx t : Addr} {m : Pt} [ir : IR H x (He.ga K "Mark") dx (m.f6 t)] [tr : TR K H t (m.hands.map tx)] : Go (sp_Mark_text_of K [.ref x] H Q E) (Sd m.Ok (∀ H', Ex H H' → Q (tx m.text) H')) := ⟨fun k => ⟨x, dx, t, m, rfl, ir, tr, k.1, k.2⟩⟩
theorem oV_year {m : Pt} (ok : m.Ok) : oV m.age = .non ∨ ∃ i : Int, oV m.age = .int i ∧ 1000 ≤ i ∧ i ≤ 2999 := by
  cases h : m.age with
  | none => exact .inl rfl
  | some y => have := ok.y y h; exact .inr ⟨y, rfl, by omega, by omega⟩
theorem oV_copy {m : Pt} (ok : m.Ok) : oV m.twin = .non ∨ ∃ i : Int, oV m.twin = .int i ∧ 2 ≤ i := by
  cases h : m.twin with
  | none => exact .inl rfl
  | some y => have := ok.c y h; exact .inr ⟨y, rfl, by omega⟩
/-! Mark(..) of good parts, the makers a list -/
def sp_Mark_init (K : PySem.W.Frag) : Sp := fun vs H Q _ => ∃ (x dx p : Addr) (m : Pt), vs = [.ref x, tx m.lets, .int (m.num : Int), tx m.pts, .ref p, oV m.age, oV m.twin] ∧ IR H x (He.ga K "Mark") dx [] ∧ LR K H p (m.hands.map tx) ∧ m.Ok ∧ ∀ t H', Mi H x H' → IR H' x (He.ga K "Mark") dx (m.f7 t) → TR K H' t (m.hands.map tx) → Q .non H'
theorem ok_Mark_init (T : Txt K mg w) : ∃ fd, FunD K d_Mark_init.name d_Mark_init.qual d_Mark_init.params d_Mark_init.body d_Mark_init.scope (d_Mark_init.dvs K) (d_Mark_init.kws K) (He.fAd K d_Mark_init.at_) fd ∧ FnOk P w K mg base C8.CX0 4 (He.fAd K d_Mark_init.at_) fd ["self", "letters", "number", "points", "makers", "year", "copy"] (sp_Mark_init K) := by
  obtain ⟨fd, F⟩ := T.f_Mark_init
  refine ⟨fd, F, ?_⟩
  have sc := (show FnScope ["self", "letters", "number", "points", "makers", "year", "copy"] ["self", "letters", "number", "points", "makers", "year", "copy"] (defScope s_Mark_init) from ⟨rfl, rfl, rfl, by decide +kernel, rfl, by decide +kernel, by decide +kernel⟩)
  refine F.ok sc (fun vs H Q E h => ?_) (fun cdv A outer s H vs Q E hr h => ?_)
  · obtain ⟨x, dx, p, m, rfl, ir, lr, ok, k⟩ := h; rfl
  obtain ⟨x, dx, p, m, rfl, ir, lr, ok, k⟩ := h
  have hu := hr.units
  haveI : CA K (He.ga K "Mark") "kept_copy" := ⟨T.c_Mark, T.n_Mark_kept_copy⟩
  haveI : CA K (He.ga K "Mark") "kept_letters" := ⟨T.c_Mark, T.n_Mark_kept_letters⟩
  haveI : CA K (He.ga K "Mark") "kept_makers" := ⟨T.c_Mark, T.n_Mark_kept_makers⟩
  haveI : CA K (He.ga K "Mark") "kept_number" := ⟨T.c_Mark, T.n_Mark_kept_number⟩
  haveI : CA K (He.ga K "Mark") "kept_points" := ⟨T.c_Mark, T.n_Mark_kept_points⟩
  haveI : CA K (He.ga K "Mark") "kept_text" := ⟨T.c_Mark, T.n_Mark_kept_text⟩
  haveI : CA K (He.ga K "Mark") "kept_year" := ⟨T.c_Mark, T.n_Mark_kept_year⟩
  refine ⟨_, PSs.nox (pss_cons (ps_if (pt_not (pt_val (C8.pe_c (c_is_letters T) hr (by decide) rfl (pa_cons (pv 1) pa_nil)))) (pss_one ps_never) pss_nil)
  (pss_cons (ps_if (pt_not (pt_val (C8.pe_c (c_is_whole T) hr (by decide) rfl (pa_cons (pv 2) (pa_cons pe_int (pa_cons (U.pe_gi rfl T.k_GREATEST) pa_nil)))))) (pss_one ps_never) pss_nil)
  (pss_cons (ps_if (pt_not (pt_val (C8.pe_c (c_is_points T) hr (by decide) rfl (pa_cons (pv 3) pa_nil)))) (pss_one ps_never) pss_nil)
  (pss_cons (ps_fld (pv 0) (C8.pe_c (c_makers_in T) hr (by decide) rfl (pa_cons (pv 4) pa_nil)) rfl)
  (pss_cons (ps_expr (C8.pe_c (c_need_year T) hr (by decide) rfl (pa_cons (pv 5) pa_nil)))
  (pss_cons (ps_expr (C8.pe_c (c_need_copy T) hr (by decide) rfl (pa_cons (pv 6) pa_nil)))
  (pss_cons (ps_fld (pv 0) (pv 1) rfl)
  (pss_cons (ps_fld (pv 0) (pv 2) rfl)
  (pss_cons (ps_fld (pv 0) (pv 3) rfl)
  (pss_cons (ps_fld (pv 0) (pv 5) rfl)
  (pss_cons (ps_fld (pv 0) (pv 6) rfl)
  (pss_one (ps_fld (pv 0) (C8.pe_mt0 (c_m_text_of T) hr (by decide) (pv 0)) rfl))))))))))))), ?_⟩
  walk_at "ust0"
  have b1 := ok.l
  have b2 := ok.p
  have b3 := ok.pl
  have b4 := ok.h3
  have b5 := ok.h
  have b6 := oV_year ok
  have b7 := oV_copy ok
  have b8 := ok.n
  walk_at "ugo"
  intro H1 e1
  walk_at "ugo"
  refine brT (by omega) ?_
  walk_at "ugo"
  intro H2 e2
  walk_at "ugo"
  intro t H3 e3 t3
  walk_at "ugo"
  refine mi_i fun H4 m4 i4 => ?_
  walk_at "ugo"
  refine mi_i fun H5 m5 i5 => ?_
  walk_at "ugo"
  refine mi_i fun H6 m6 i6 => ?_
  walk_at "ugo"
  refine mi_i fun H7 m7 i7 => ?_
  walk_at "ugo"
  refine mi_i fun H8 m8 i8 => ?_
  walk_at "ugo"
  refine mi_i fun H9 m9 i9 => ?_
  haveI : IR H9 x (He.ga K "Mark") dx (m.f6 t) := i9
  walk_at "ugo"
  intro H10 e10
  walk_at "ugo"
  refine mi_i fun H11 m11 i11 => ?_
  walk_at "ugo"
  exact k t H11 mi_of i11 inferInstance
theorem c_Mark_2_points_makers_year_copy (T : Txt K mg w) : MakN P w K mg base 4 "Mark" (He.ga K "Mark") (sp_Mark_init K) 2 ["points", "makers", "year", "copy"] gCat := by
  obtain ⟨fd, F, ok⟩ := ok_Mark_init (P := P) (w := w) (base := base) T
  obtain ⟨its, b⟩ := (F.kbindsD 3 ["points", "makers", "year", "copy"] (fun us _ ws => gCat us ws) (by intro z; cases z) (fun r _ z => r.append z) fun _ _ _ _ _ _ _ us its ws h1 h2 h3 => match us, its, ws, h1, h2, h3 with | [_, _, _], [_, _, _, _], [_, _, _, _], _, _, _ => ⟨_, rfl, by kernel_rfl⟩)
  exact ⟨_, fd, _, _, T.mk_Mark, ok, T.g_Mark, b⟩
/-! str(mark) -/
def sp_Mark_str (K : PySem.W.Frag) : Sp := fun vs H Q _ => ∃ (x dx t : Addr) (m : Pt), vs = [.ref x] ∧ IR H x (He.ga K "Mark") dx (m.f7 t) ∧ m.text.length ≤ 100000 ∧ Q (tx m.text) H
theorem ok_Mark_str (T : Txt K mg w) : ∃ fd, FunD K d_Mark_str.name d_Mark_str.qual d_Mark_str.params d_Mark_str.body d_Mark_str.scope (d_Mark_str.dvs K) (d_Mark_str.kws K) (He.fAd K d_Mark_str.at_) fd ∧ FnOk P w K mg base C8.CX0 1 (He.fAd K d_Mark_str.at_) fd ["self"] (sp_Mark_str K) := by
  obtain ⟨fd, F⟩ := T.f_Mark_str
  refine ⟨fd, F, ?_⟩
  have sc := (show FnScope ["self"] ["self"] (defScope s_Mark_str) from ⟨rfl, rfl, rfl, by decide +kernel, rfl, by decide +kernel, by decide +kernel⟩)
  refine F.ok sc (fun vs H Q E h => ?_) (fun cdv A outer s H vs Q E hr h => ?_)
  · obtain ⟨x, dx, t, m, rfl, ir, hl, k⟩ := h; rfl
  obtain ⟨x, dx, t, m, rfl, ir, hl, k⟩ := h
  have hu := hr.units
  haveI : CA K (He.ga K "Mark") "kept_text" := ⟨T.c_Mark, T.n_Mark_kept_text⟩
  refine ⟨_, PSs.nox (pss_one (ps_ret (pe_joined1 (pe_fmt (U.pe_fld' (K := K) (pv 0) rfl))))), ?_⟩
  walk_at "ust0"
  walk_at "ugo"
  exact k
end
end T

namespace T
open PySem PySem.Spec PyProof.Rows L2 U
open SX (S)
section
variable {P : Program} {w : World} {K : PySem.W.Frag} {mg : PySem.Str → Option Value} {base : Heap}
/-- a mark object -/
class MkO (K : PySem.W.Frag) (H : Hp) (x : Addr) (m : outParam Pt) : Prop where
  ex : ∃ dx t, IR H x (He.ga K "Mark") dx (m.f7 t) ∧ TR K H t (m.hands.map tx)
instance {H H' : Hp} {x : Addr} {m : Pt} [e : Ex H H'] [h : MkO K H x m] : MkO K H' x m := by
  obtain ⟨dx, t, ir, tr⟩ := h.ex
  exact ⟨dx, t, inferInstance, inferInstance⟩
instance {H H' : Hp} {x p : Addr} {m : Pt} [e : Mu H p H'] [h : MkO K H x m] : MkO K H' x m := by
  obtain ⟨dx, t, ir, tr⟩ := h.ex
  exact ⟨dx, t, inferInstance, inferInstance⟩
instance {H H' : Hp} {x p : Addr} {m : Pt} [e : Mi H p H'] [n : Ne' x p] [h : MkO K H x m] : MkO K H' x m := by
  obtain ⟨dx, t, ir, tr⟩ := h.ex
  exact ⟨dx, t, inferInstance, inferInstance⟩
theorem mko_ne {H H0 : Hp} {x p : Addr} {m : Pt} (w : Nw H0 p) (h : MkO K H0 x m) : Ne' x p := by
  obtain ⟨dx, t, ir, tr⟩ := h.ex
  exact inferInstance
theorem c_m_str (T : Txt K mg w) : C8.Met P w K mg base 1 (He.ga K "Mark") "__str__" (sp_Mark_str K) [] := by
  obtain ⟨fd, F, ok⟩ := ok_Mark_str (P := P) (w := w) (base := base) T
  exact ⟨_, fd, _, [], T.c_Mark, T.m_Mark_str, ok, F.bindsN fun _ _ _ _ _ _ us hl => match us, hl with | [_], _ => rfl, .nil⟩
instance {H : Hp} {Q : VK} {E : XK} {x dx t : Addr} {m : Pt} [ir : IR H x (He.ga K "Mark") dx (m.f7 t)] : Go (sp_Mark_str K [.ref x] H Q E) (Sd (m.text.length ≤ 100000) (Q (tx m.text) H)) := ⟨fun k => ⟨x, dx, t, m, rfl, ir, k.1, k.2⟩⟩
/-! kinds of slips -/
abbrev kOther : List Nat := [111, 116, 104, 101, 114]
abbrev kLost : List Nat := [108, 111, 115, 116]
abbrev kExtra : List Nat := [101, 120, 116, 114, 97]
abbrev kTurned : List Nat := [116, 117, 114, 110, 101, 100]
def Kind (k : List Nat) : Prop := k = kOther ∨ k = kLost ∨ k = kExtra ∨ k = kTurned
theorem kind_key {k : List Nat} (h : Kind k) : S k ∈ keys_KINDS := by
  rcases h with rfl | rfl | rfl | rfl <;> decide +kernel
def sp_is_kind : Sp := fun vs H Q _ => ∃ k : List Nat, vs = [tx k] ∧ Kind k ∧ Q (.bl true) H
theorem ok_is_kind (T : Txt K mg w) : ∃ fd, FunD K d_is_kind.name d_is_kind.qual d_is_kind.params d_is_kind.body d_is_kind.scope (d_is_kind.dvs K) (d_is_kind.kws K) (He.fAd K d_is_kind.at_) fd ∧ FnOk P w K mg base C8.CX0 1 (He.fAd K d_is_kind.at_) fd ["thing"] sp_is_kind := by
  obtain ⟨fd, F⟩ := T.f_is_kind
  refine ⟨fd, F, ?_⟩
  have sc := (show FnScope ["thing"] ["thing"] (defScope s_is_kind) from ⟨rfl, rfl, rfl, by decide +kernel, rfl, by decide +kernel, by decide +kernel⟩)
  refine F.ok sc (fun vs H Q E h => ?_) (fun cdv A outer s H vs Q E hr h => ?_)
  · obtain ⟨z, rfl, hk, k⟩ := h; rfl
  obtain ⟨z, rfl, hk, k⟩ := h
  have hu := hr.units
  refine ⟨_, PSs.nox (pss_one (ps_ret (pe_and (pe_callB (U.cu_isi (K := K)) (by rfl) T.b_isinstance (by decide +kernel) (pa_cons (pv 0) (pa_cons (U.pe_ty (n := "str") rfl T.b_str (by decide +kernel)) pa_nil))) (pe_one (pe_cmpR (U.ou_in_kd (K := K) T.d_KINDS) (pv 0) (pe_glob (v := .ref _) rfl T.g_KINDS rfl) rfl))))), ?_⟩
  walk_at "ust0"
  walk_at "ugo"
  exact kd_in (T.i_KINDS _ (kind_key hk)) k
theorem c_is_kind (T : Txt K mg w) : C8.Cal P w K mg base 1 "is_kind" sp_is_kind [] := by
  obtain ⟨fd, F, ok⟩ := ok_is_kind (P := P) (w := w) (base := base) T
  exact cal_n F T.g_is_kind (F.bindsN fun _ _ _ _ _ _ us hl => match us, hl with | [_], _ => rfl) ok
instance {H : Hp} {Q : VK} {E : XK} {a : List Nat} : Go (sp_is_kind [.str (S a)] H Q E) (Sd (Kind a) (Q (.bl true) H)) := ⟨fun k => ⟨a, rfl, k.1, k.2⟩⟩
/-! last_place -/
def lastP (n : Int) (k : List Nat) : Int := if k = kExtra then n else if k = kTurned then n - 2 else n - 1
def sp_last_place : Sp := fun vs H Q _ => ∃ (n : Int) (k : List Nat), vs = [.int n, tx k] ∧ Q (.int (lastP n k)) H
theorem ok_last_place (T : Txt K mg w) : ∃ fd, FunD K d_last_place.name d_last_place.qual d_last_place.params d_last_place.body d_last_place.scope (d_last_place.dvs K) (d_last_place.kws K) (He.fAd K d_last_place.at_) fd ∧ FnOk P w K mg base C8.CX0 1 (He.fAd K d_last_place.at_) fd ["size", "kind"] sp_last_place := by
  obtain ⟨fd, F⟩ := T.f_last_place
  refine ⟨fd, F, ?_⟩
  have sc := (show FnScope ["size", "kind"] ["size", "kind"] (defScope s_last_place) from ⟨rfl, rfl, rfl, by decide +kernel, rfl, by decide +kernel, by decide +kernel⟩)
  refine F.ok sc (fun vs H Q E h => ?_) (fun cdv A outer s H vs Q E hr h => ?_)
  · obtain ⟨n, z, rfl, k⟩ := h; rfl
  obtain ⟨n, z, rfl, k⟩ := h
  have hu := hr.units
  refine ⟨_, PSs.nox (pss_cons (ps_if (pt_cmpR (U.ou_eq (K := K) hu) (pv 1) (U.pe_s (l := [101, 120, 116, 114, 97]) (by decide +kernel)) (nomark _)) (pss_one (ps_ret (pv 0))) pss_nil)
  (pss_one (ps_ret (pe_ifExp (pt_cmpR (U.ou_eq (K := K) hu) (pv 1) (U.pe_s (l := [116, 117, 114, 110, 101, 100]) (by decide +kernel)) (nomark _)) (pe_op U.ou_sub (pv 0) pe_int) (pe_op U.ou_sub (pv 0) pe_int))))), ?_⟩
  walk_at "ust0"
  walk_at "uwalk"
  · rename_i h
    exact qv k (by simp [lastP, h])
  · rename_i h h2
    exact qv k (by rw [lastP, if_neg h, if_pos h2])
  · rename_i h h2
    exact qv k (by rw [lastP, if_neg h, if_neg h2])
theorem c_last_place (T : Txt K mg w) : C8.Cal P w K mg base 1 "last_place" sp_last_place [] := by
  obtain ⟨fd, F, ok⟩ := ok_last_place (P := P) (w := w) (base := base) T
  exact cal_n F T.g_last_place (F.bindsN fun _ _ _ _ _ _ us hl => match us, hl with | [_, _], _ => rfl) ok
instance {H : Hp} {Q : VK} {E : XK} {n : Int} {a : List Nat} : Go (sp_last_place [.int n, .str (S a)] H Q E) (Q (.int (lastP n a)) H) := ⟨fun k => ⟨n, a, rfl, k⟩⟩
/-! differ_at -/
def places (a b : List Nat) : List Nat := (List.range a.length).filter fun k => decide (a[k]? ≠ b[k]?)
theorem fm_filter {α β : Type} (l : List α) (p : α → Bool) (f : α → β) : l.filterMap (fun k => if p k = true then some (f k) else none) = (l.filter p).map f := by
  induction l with
  | nil => rfl
  | cons k l ih =>
    rw [List.filterMap_cons, List.filter_cons]
    cases h : p k
    · simp only [Bool.false_eq_true, if_false, ih]
    · simp only [if_true, ih, List.map_cons]
def nI (k : Nat) : V := .int (k : Int)
def sp_differ_at (K : PySem.W.Frag) : Sp := fun vs H Q _ => ∃ a b : List Nat, vs = [tx a, tx b] ∧ a.length ≤ 1000000 ∧ a.length = b.length ∧ ∀ p H', Ex H H' → LM H' p ((places a b).map nI) → Q (.ref p) H'
theorem ok_differ_at (T : Txt K mg w) : ∃ fd, FunD K d_differ_at.name d_differ_at.qual d_differ_at.params d_differ_at.body d_differ_at.scope (d_differ_at.dvs K) (d_differ_at.kws K) (He.fAd K d_differ_at.at_) fd ∧ FnOk P w K mg base C8.CX0 1 (He.fAd K d_differ_at.at_) fd ["one", "other"] (sp_differ_at K) := by
  obtain ⟨fd, F⟩ := T.f_differ_at
  refine ⟨fd, F, ?_⟩
  have sc := (show FnScope ["one", "other", "at"] ["one", "other"] (defScope s_differ_at) from ⟨rfl, rfl, rfl, by decide +kernel, rfl, by decide +kernel, by decide +kernel⟩)
  refine F.ok sc (fun vs H Q E h => ?_) (fun cdv A outer s H vs Q E hr h => ?_)
  · obtain ⟨a, b, rfl, hl, he, k⟩ := h; rfl
  obtain ⟨a, b, rfl, hl, he, k⟩ := h
  have hu := hr.units
  refine ⟨_, PSs.nox (pss_one (ps_ret (pe_lc (own := [("at", 2)]) (by rfl) sc.nd (pi_range1 (by rfl) T.b_range (pa_cons (pe_callB (U.cu_len (K := K)) (by rfl) T.b_len (by decide +kernel) (pa_cons (pv 0) pa_nil)) pa_nil)) (blkOk_by (own := [("at", 2)]) (N := ["one", "other", "at"]) (sc := (defScope s_differ_at)) (by decide +kernel)) (fun _ _ _ _ _ => (pg_name (i := 2) sc.nd rfl (by first | exact Or.inl rfl | exact Or.inr rfl))) (fun _ _ _ _ _ => pts_one (pt_cmpR (U.ou_ne (K := K) hu) (pe_ix (U.xu (K := K)) (pv 0) (pv 2) (fun _ _ => rfl)) (pe_ix (U.xu (K := K)) (pv 1) (pv 2) (fun _ _ => rfl)) (nomark _))) (fun _ _ _ _ _ => (pv 2))))), ?_⟩
  walk_at "ust0"
  walk_at "ugo"
  refine lc_r (σw := [some (tx a), some (tx b), none]) rfl (fun k => if decide (a[k]? ≠ b[k]?) = true then some (nI k) else none) (by simp only [Int.toNat_natCast, z24]; omega) (fun z H' A B hz e hA hB => ?_) (fun D H' hD e hL => ?_)
  · have hz1 : z < a.length := by simpa using hz
    have hz2 : z < b.length := by omega
    have e1 : a[z]? = some a[z] := List.getElem?_eq_getElem hz1
    have e2 : b[z]? = some b[z] := List.getElem?_eq_getElem hz2
    refine turn_tt ?_
    walk_at "ugo"
    rw [Int.zero_add]
    refine ix_sg (by walk_at "usd") (atI_nat e1) ?_
    walk_at "ugo"
    refine ix_sg (by walk_at "usd") (atI_nat e2) ?_
    walk_at "ugo"
    refine br2 (fun h => ?_) (fun h => ?_)
    · simp only [List.cons.injEq, and_true] at h
      exact hB (by rw [e1, e2, h]; simp)
    · simp only [List.cons.injEq, and_true] at h
      walk_at "ugo"
      exact hA _ (by rw [e1, e2]; simp [h, nI])
  · rw [fm_filter, Int.toNat_natCast] at hL
    exact k D H' e hL
theorem c_differ_at (T : Txt K mg w) : C8.Cal P w K mg base 1 "differ_at" (sp_differ_at K) [] := by
  obtain ⟨fd, F, ok⟩ := ok_differ_at (P := P) (w := w) (base := base) T
  exact cal_n F T.g_differ_at (F.bindsN fun _ _ _ _ _ _ us hl => match us, hl with | [_, _], _ => rfl) ok
instance {H : Hp} {Q : VK} {E : XK} {a b : List Nat} : Go (sp_differ_at K [.str (S a), .str (S b)] H Q E) (Sd (a.length ≤ 1000000) (Sd (a.length = b.length) (∀ p H', Ex H H' → LM H' p ((places a b).map nI) → Q (.ref p) H'))) := ⟨fun k => ⟨a, b, rfl, k.1, k.2.1, k.2.2⟩⟩
/-! lacks_one -/
def lacksB (l s : List Nat) : Bool := (List.range l.length).any fun k => decide (l.take k ++ l.drop (k + 1) = s)
theorem lacks_of {l s : List Nat} {at_ : Nat} (hl : l.length = s.length + 1) (h1 : at_ ≤ s.length) (h2 : ∀ i, i < at_ → l[i]? = s[i]?) (h3 : at_ = s.length ∨ l[at_]? ≠ s[at_]?) : decide (l.drop (at_ + 1) = s.drop at_) = lacksB l s := by
  unfold lacksB
  rw [Bool.eq_iff_iff, decide_eq_true_eq, List.any_eq_true]
  constructor
  · intro h
    refine ⟨at_, List.mem_range.mpr (by omega), decide_eq_true ?_⟩
    rw [h]
    have e : l.take at_ = s.take at_ := by
      apply List.ext_getElem?
      intro i
      rw [List.getElem?_take, List.getElem?_take]
      by_cases hi : i < at_
      · rw [if_pos hi, if_pos hi, h2 i hi]
      · rw [if_neg hi, if_neg hi]
    rw [e, List.take_append_drop]
  · rintro ⟨k, hk, h⟩
    have hk := List.mem_range.mp hk
    have h := of_decide_eq_true h
    have hg : ∀ i, s[i]? = if i < k then l[i]? else l[i + 1]? := by
      intro i
      rw [← h]
      by_cases hi : i < k
      · rw [if_pos hi, List.getElem?_append_left (by rw [List.length_take]; omega), List.getElem?_take, if_pos hi]
      · rw [if_neg hi, List.getElem?_append_right (by rw [List.length_take]; omega), List.length_take, List.getElem?_drop]
        congr 1
        omega
    have hka : k ≤ at_ := by
      rcases h3 with h3 | h3
      · omega
      · apply Nat.le_of_not_lt
        intro hlt
        apply h3
        rw [hg at_, if_pos hlt]
    apply List.ext_getElem?
    intro i
    rw [List.getElem?_drop, List.getElem?_drop, hg, if_neg (by omega)]
    congr 1
    omega
def sp_lacks_one : Sp := fun vs H Q _ => ∃ l s : List Nat, vs = [tx l, tx s] ∧ l.length ≤ 1000000 ∧ l.length = s.length + 1 ∧ Q (.bl (lacksB l s)) H
theorem ok_lacks_one (T : Txt K mg w) : ∃ fd, FunD K d_lacks_one.name d_lacks_one.qual d_lacks_one.params d_lacks_one.body d_lacks_one.scope (d_lacks_one.dvs K) (d_lacks_one.kws K) (He.fAd K d_lacks_one.at_) fd ∧ FnOk P w K mg base C8.CX0 1 (He.fAd K d_lacks_one.at_) fd ["long", "short"] sp_lacks_one := by
  obtain ⟨fd, F⟩ := T.f_lacks_one
  refine ⟨fd, F, ?_⟩
  have sc := (show FnScope ["long", "short", "at"] ["long", "short"] (defScope s_lacks_one) from ⟨rfl, rfl, rfl, by decide +kernel, rfl, by decide +kernel, by decide +kernel⟩)
  refine F.ok sc (fun vs H Q E h => ?_) (fun cdv A outer s H vs Q E hr h => ?_)
  · obtain ⟨l, s', rfl, hl, he, k⟩ := h; rfl
  obtain ⟨l, s', rfl, hl, he, k⟩ := h
  have hu := hr.units
  refine ⟨_, PSs.nox (pss_cons (ps_set (i := 2) sc.nd rfl (by first | exact Or.inl rfl | exact Or.inr rfl) pe_int)
  (pss_cons (ps_while PassesOwn.never (PW.pt (pw_and (pt_cmpR U.ou_lt (pv 2) (pe_callB (U.cu_len (K := K)) (by rfl) T.b_len (by decide +kernel) (pa_cons (pv 1) pa_nil)) (nomark _)) (pw_and1 (pt_cmpR (U.ou_eq (K := K) hu) (pe_ix (U.xu (K := K)) (pv 0) (pv 2) (fun _ _ => rfl)) (pe_ix (U.xu (K := K)) (pv 1) (pv 2) (fun _ _ => rfl)) (nomark _))))) (pss_one (ps_aug (i := 2) sc.nd rfl (by first | exact Or.inl rfl | exact Or.inr rfl) pe_int U.ip_add')))
  (pss_one (ps_ret (pe_cmpR (U.ou_eq (K := K) hu) (pe_slice (U.su (K := K)) (pv 0) (po_some (pe_op (U.ou_add (K := K)) (pv 2) pe_int)) po_none) (pe_slice (U.su (K := K)) (pv 1) (po_some (pv 2)) po_none) (nomark _)))))), ?_⟩
  walk_at "ust0"
  walk_at "ugo"
  refine wh (fun m σ H' => ∃ a : Nat, σ = [some (tx l), some (tx s'), some (.int (a : Int))] ∧ H' = H ∧ a ≤ s'.length ∧ m = s'.length - a ∧ ∀ i, i < a → l[i]? = s'[i]?) s'.length ⟨0, rfl, rfl, by omega, by omega, fun i hi => by omega⟩ fun m σ H' h => ?_
  obtain ⟨a, rfl, rfl, ha, rfl, hi⟩ := h
  have fin : (a = s'.length ∨ l[a]? ≠ s'[a]?) → Q (.bl (decide (l.drop (a + 1) = s'.drop a))) H' := fun h3 => qb k (lacks_of he ha hi h3).symm
  walk_at "ugo"
  refine br2 (fun h => ?_) (fun h => ?_)
  · have ha2 : a < s'.length := by omega
    have ha1 : a < l.length := by omega
    have e1 : l[a]? = some l[a] := List.getElem?_eq_getElem ha1
    have e2 : s'[a]? = some s'[a] := List.getElem?_eq_getElem ha2
    walk_at "ugo"
    refine ix_sg (by walk_at "usd") (atI_nat e1) ?_
    walk_at "ugo"
    refine ix_sg (by walk_at "usd") (atI_nat e2) ?_
    walk_at "ugo"
    refine br2 (fun h5 => ?_) (fun h5 => ?_)
    · simp only [List.cons.injEq, and_true] at h5
      refine ⟨fun σ H2 => σ = [some (tx l), some (tx s'), some (.int ((a : Int) + 1))] ∧ H2 = H', fun σ H2 h => ?_, ?_⟩
      · obtain ⟨rfl, rfl⟩ := h
        refine ⟨s'.length - (a + 1), by omega, a + 1, by simp, rfl, by omega, rfl, fun i hi2 => ?_⟩
        by_cases e : i = a
        · subst e
          rw [e1, e2, h5]
        · exact hi i (by omega)
      · walk_at "ugo"
        exact ⟨rfl, rfl⟩
    · simp only [List.cons.injEq, and_true] at h5
      walk_at "ugo"
      refine sl_fr (by walk_at "usd") (by omega) ?_
      walk_at "ugo"
      refine sl_fr (by walk_at "usd") (by omega) ?_
      walk_at "ugo"
      exact fin (.inr (by rw [e1, e2]; simpa using h5))
  · walk_at "ugo"
    refine sl_fr (by walk_at "usd") (by omega) ?_
    walk_at "ugo"
    refine sl_fr (by walk_at "usd") (by omega) ?_
    walk_at "ugo"
    exact fin (.inl (by omega))
theorem c_lacks_one (T : Txt K mg w) : C8.Cal P w K mg base 1 "lacks_one" sp_lacks_one [] := by
  obtain ⟨fd, F, ok⟩ := ok_lacks_one (P := P) (w := w) (base := base) T
  exact cal_n F T.g_lacks_one (F.bindsN fun _ _ _ _ _ _ us hl => match us, hl with | [_, _], _ => rfl) ok
end
end T

namespace T
open PySem PySem.Spec PyProof.Rows L2 U
open SX (S)
section
variable {P : Program} {w : World} {K : PySem.W.Frag} {mg : PySem.Str → Option Value} {base : Heap}
instance {H : Hp} {Q : VK} {E : XK} {l s : List Nat} : Go (sp_lacks_one [.str (S l), .str (S s)] H Q E) (Sd (l.length ≤ 1000000) (Sd (l.length = s.length + 1) (Q (.bl (lacksB l s)) H))) := ⟨fun k => ⟨l, s, rfl, k.1, k.2.1, k.2.2⟩⟩
/-! slip_kind -/
def turnedB (a b : List Nat) : List Nat → Bool
  | [p, q] => decide (q = p + 1) && decide ((a.drop p).take 2 = ((b.drop p).take 2).reverse)
  | _ => false
def slipK (a b : List Nat) : Option (List Nat) :=
  if b.length + 1 = a.length then (if lacksB a b = true then some kLost else none)
  else if b.length = a.length + 1 then (if lacksB b a = true then some kExtra else none)
  else if b.length ≠ a.length then none
  else if (places a b).length = 1 then some kOther
  else if turnedB a b (places a b) = true then some kTurned else none
def kV : Option (List Nat) → V | none => .non | some k => tx k
theorem places_lt {a b : List Nat} {k : Nat} (h : k ∈ places a b) : k < a.length := by
  have := (List.mem_filter.mp h).1
  exact List.mem_range.mp this
def sp_slip_kind (K : PySem.W.Frag) : Sp := fun vs H Q _ => ∃ (x : Addr) (m : Pt) (b : List Nat), vs = [.ref x, tx b] ∧ MkO K H x m ∧ m.text.length ≤ 10000 ∧ b.length ≤ 10000 ∧ ∀ H', Ex H H' → Q (kV (slipK m.text b)) H'
theorem ok_slip_kind (T : Txt K mg w) : ∃ fd, FunD K d_slip_kind.name d_slip_kind.qual d_slip_kind.params d_slip_kind.body d_slip_kind.scope (d_slip_kind.dvs K) (d_slip_kind.kws K) (He.fAd K d_slip_kind.at_) fd ∧ FnOk P w K mg base C8.CX0 4 (He.fAd K d_slip_kind.at_) fd ["mark", "text"] (sp_slip_kind K) := by
  obtain ⟨fd, F⟩ := T.f_slip_kind
  refine ⟨fd, F, ?_⟩
  have sc := (show FnScope ["mark", "text", "signs", "places", "at"] ["mark", "text"] (defScope s_slip_kind) from ⟨rfl, rfl, rfl, by decide +kernel, rfl, by decide +kernel, by decide +kernel⟩)
  refine F.ok sc (fun vs H Q E h => ?_) (fun cdv A outer s H vs Q E hr h => ?_)
  · obtain ⟨x, m, b, rfl, mk, l1, l2, k⟩ := h; rfl
  obtain ⟨x, m, b, rfl, mk, l1, l2, k⟩ := h
  have hu := hr.units
  refine ⟨_, PSs.nox (pss_cons (ps_if (pt_not (pt_val (pe_callB (U.cu_isi (K := K)) (by rfl) T.b_isinstance (by decide +kernel) (pa_cons (pv 1) (pa_cons (U.pe_ty (n := "str") rfl T.b_str (by decide +kernel)) pa_nil))))) (pss_one ps_never) pss_nil)
  (pss_cons (ps_set (i := 2) sc.nd rfl (by first | exact Or.inl rfl | exact Or.inr rfl) (pe_callTy (U.cu_strO (c_m_str T) hr (by decide)) (by rfl) T.b_str (by decide +kernel) (pa_cons (pv 0) pa_nil)))
  (pss_cons (ps_if (pt_cmpR (U.ou_eq (K := K) hu) (pe_callB (U.cu_len (K := K)) (by rfl) T.b_len (by decide +kernel) (pa_cons (pv 1) pa_nil)) (pe_op U.ou_sub (pe_callB (U.cu_len (K := K)) (by rfl) T.b_len (by decide +kernel) (pa_cons (pv 2) pa_nil)) pe_int) (nomark _)) (pss_one (ps_ret (pe_ifExp (pt_val (C8.pe_c (c_lacks_one T) hr (by decide) rfl (pa_cons (pv 2) (pa_cons (pv 1) pa_nil)))) (U.pe_s (l := [108, 111, 115, 116]) (by decide +kernel)) pe_non))) pss_nil)
  (pss_cons (ps_if (pt_cmpR (U.ou_eq (K := K) hu) (pe_callB (U.cu_len (K := K)) (by rfl) T.b_len (by decide +kernel) (pa_cons (pv 1) pa_nil)) (pe_op (U.ou_add (K := K)) (pe_callB (U.cu_len (K := K)) (by rfl) T.b_len (by decide +kernel) (pa_cons (pv 2) pa_nil)) pe_int) (nomark _)) (pss_one (ps_ret (pe_ifExp (pt_val (C8.pe_c (c_lacks_one T) hr (by decide) rfl (pa_cons (pv 1) (pa_cons (pv 2) pa_nil)))) (U.pe_s (l := [101, 120, 116, 114, 97]) (by decide +kernel)) pe_non))) pss_nil)
  (pss_cons (ps_if (pt_cmpR (U.ou_ne (K := K) hu) (pe_callB (U.cu_len (K := K)) (by rfl) T.b_len (by decide +kernel) (pa_cons (pv 1) pa_nil)) (pe_callB (U.cu_len (K := K)) (by rfl) T.b_len (by decide +kernel) (pa_cons (pv 2) pa_nil)) (nomark _)) (pss_one (ps_ret pe_non)) pss_nil)
  (pss_cons (ps_set (i := 3) sc.nd rfl (by first | exact Or.inl rfl | exact Or.inr rfl) (C8.pe_c (c_differ_at T) hr (by decide) rfl (pa_cons (pv 2) (pa_cons (pv 1) pa_nil))))
  (pss_cons (ps_if (pt_cmpR (U.ou_eq (K := K) hu) (pe_callB (U.cu_len (K := K)) (by rfl) T.b_len (by decide +kernel) (pa_cons (pv 3) pa_nil)) pe_int (nomark _)) (pss_one (ps_ret (U.pe_s (l := [111, 116, 104, 101, 114]) (by decide +kernel)))) pss_nil)
  (pss_cons (ps_if (PW.pt (pw_or (pt_cmpR (U.ou_ne (K := K) hu) (pe_callB (U.cu_len (K := K)) (by rfl) T.b_len (by decide +kernel) (pa_cons (pv 3) pa_nil)) pe_int (nomark _)) (pw_or1 (pt_cmpR (U.ou_ne (K := K) hu) (pe_ix (U.xu (K := K)) (pv 3) pe_int (fun _ _ => rfl)) (pe_op (U.ou_add (K := K)) (pe_ix (U.xu (K := K)) (pv 3) pe_int (fun _ _ => rfl)) pe_int) (nomark _))))) (pss_one (ps_ret pe_non)) pss_nil)
  (pss_cons (ps_set (i := 4) sc.nd rfl (by first | exact Or.inl rfl | exact Or.inr rfl) (pe_ix (U.xu (K := K)) (pv 3) pe_int (fun _ _ => rfl)))
  (pss_one (ps_ret (pe_ifExp (pt_cmpR (U.ou_eq (K := K) hu) (pe_slice (U.su (K := K)) (pv 2) (po_some (pv 4)) (po_some (pe_op (U.ou_add (K := K)) (pv 4) pe_int))) (U.pe_rev (K := K) (pe_slice (U.su (K := K)) (pv 1) (po_some (pv 4)) (po_some (pe_op (U.ou_add (K := K)) (pv 4) pe_int)))) (nomark _)) (U.pe_s (l := [116, 117, 114, 110, 101, 100]) (by decide +kernel)) pe_non)))))))))))), ?_⟩
  walk_at "ust0"
  obtain ⟨dx, t, ir, tr⟩ := mk.ex
  generalize ea : m.text = a at *
  have er : Ex H H := ⟨fun _ _ h => h⟩
  have l3 : m.text.length ≤ 100000 := by rw [ea]; omega
  walk_at "ugo"
  rw [ea]
  walk_at "ugo"
  refine br2 (fun h1 => ?_) (fun h1 => ?_)
  · walk_at "ugo"
    have e : slipK a b = if lacksB a b = true then some kLost else none := if_pos (by omega)
    refine brb (fun h2 => ?_) (fun h2 => ?_)
    · walk_at "ugo"
      exact qv (k H er) (by rw [e, if_pos h2]; rfl)
    · walk_at "ugo"
      exact qv (k H er) (by rw [e, if_neg (by simp [h2])]; rfl)
  walk_at "ugo"
  refine br2 (fun h2 => ?_) (fun h2 => ?_)
  · walk_at "ugo"
    have e : slipK a b = if lacksB b a = true then some kExtra else none := (if_neg (by omega)).trans (if_pos (by omega))
    refine brb (fun h3 => ?_) (fun h3 => ?_)
    · walk_at "ugo"
      exact qv (k H er) (by rw [e, if_pos h3]; rfl)
    · walk_at "ugo"
      exact qv (k H er) (by rw [e, if_neg (by simp [h3])]; rfl)
  walk_at "ugo"
  refine br2 (fun h3 => ?_) (fun h3 => ?_)
  rotate_left
  · walk_at "ugo"
    have e : slipK a b = none := (if_neg (by omega)).trans ((if_neg (by omega)).trans (if_pos (by omega)))
    exact qv (k H er) (by rw [e]; rfl)
  have hab : a.length = b.length := by omega
  have e0 : slipK a b = if (places a b).length = 1 then some kOther else if turnedB a b (places a b) = true then some kTurned else none := (if_neg (by omega)).trans ((if_neg (by omega)).trans (if_neg (by omega)))
  walk_at "ugo"
  intro p H1 e1 lm
  walk_at "ugo"
  have hlm : ((places a b).map nI).length = (places a b).length := List.length_map ..
  refine br2 (fun h4 => ?_) (fun h4 => ?_)
  · walk_at "ugo"
    exact qv (k H1 e1) (by rw [e0, if_pos (by omega)]; rfl)
  rw [if_neg (by omega)] at e0
  walk_at "ugo"
  refine br2 (fun h5 => ?_) (fun h5 => ?_)
  rotate_left
  · walk_at "ugo"
    refine qv (k H1 e1) ?_
    rw [e0]
    have : turnedB a b (places a b) = false := by
      unfold turnedB
      split
      · rename_i p q hp
        rw [hp] at hlm h5
        simp at h5
      · rfl
    rw [this]; rfl
  have h6 : (places a b).length = 2 := by omega
  obtain ⟨u, v, huv⟩ : ∃ u v, places a b = [u, v] := by
    match hh : places a b, h6 with
    | [u, v], _ => exact ⟨u, v, rfl⟩
  have hu1 : u < a.length := places_lt (b := b) (by rw [huv]; simp)
  have hv1 : v < a.length := places_lt (b := b) (by rw [huv]; simp)
  rw [huv] at lm e0
  simp only [List.map_cons, List.map_nil, nI] at lm
  walk_at "ugo"
  refine ix_is (v := .int (v : Int)) (atI_nat (j := 1) rfl) ?_
  walk_at "ugo"
  refine ix_is (v := .int (u : Int)) (atI_nat (j := 0) rfl) ?_
  walk_at "ugo"
  refine br2 (fun h7 => ?_) (fun h7 => ?_)
  rotate_left
  · walk_at "ugo"
    refine qv (k H1 e1) ?_
    rw [e0]
    have : turnedB a b [u, v] = false := by
      show (decide (v = u + 1) && _) = _
      rw [decide_eq_false (by omega)]; rfl
    rw [this]; rfl
  have hv2 : v = u + 1 := by omega
  walk_at "ugo"
  refine ix_is (v := .int (u : Int)) (atI_nat (j := 0) rfl) ?_
  walk_at "ugo"
  refine sl_mid (by walk_at "usd") (by omega) (by omega) (by omega) ?_
  walk_at "ugo"
  refine sl_mid (by walk_at "usd") (by omega) (by omega) (by omega) ?_
  walk_at "ugo"
  refine Sd.k (by rw [z24, List.length_take]; omega) ?_
  walk_at "ugo"
  have e5 : ((u : Int) + 2 - (u : Int)).toNat = 2 := by omega
  rw [e5, Int.toNat_natCast]
  have e6 : turnedB a b [u, v] = decide ((a.drop u).take 2 = ((b.drop u).take 2).reverse) := by
    show (decide (v = u + 1) && _) = _
    rw [decide_eq_true hv2, Bool.true_and]
  rw [e6] at e0
  refine brb (fun h8 => ?_) (fun h8 => ?_)
  · walk_at "ugo"
    exact qv (k H1 e1) (by rw [e0, if_pos h8]; rfl)
  · walk_at "ugo"
    exact qv (k H1 e1) (by rw [e0, if_neg (by rw [h8]; decide)]; rfl)
theorem c_slip_kind (T : Txt K mg w) : C8.Cal P w K mg base 4 "slip_kind" (sp_slip_kind K) [] := by
  obtain ⟨fd, F, ok⟩ := ok_slip_kind (P := P) (w := w) (base := base) T
  exact cal_n F T.g_slip_kind (F.bindsN fun _ _ _ _ _ _ us hl => match us, hl with | [_, _], _ => rfl) ok
instance {H : Hp} {Q : VK} {E : XK} {x : Addr} {m : Pt} {b : List Nat} [h : MkO K H x m] : Go (sp_slip_kind K [.ref x, .str (S b)] H Q E) (Sd (m.text.length ≤ 10000) (Sd (b.length ≤ 10000) (∀ H', Ex H H' → Q (kV (slipK m.text b)) H'))) := ⟨fun k => ⟨x, m, b, rfl, h, k.1, k.2.1, k.2.2⟩⟩
/-! slipped -/
/-- the text that a slip makes -/
def slipT (a k : List Nat) (n : Nat) (g : List Nat) : List Nat :=
  if k = kLost then a.take n ++ a.drop (n + 1)
  else if k = kTurned then a.take n ++ (a[n + 1]?.toList ++ (a[n]?.toList ++ a.drop (n + 2)))
  else if k = kExtra then a.take n ++ (g ++ a.drop n)
  else a.take n ++ (g ++ a.drop (n + 1))
/-- such a slip is one -/
structure SlipOk (a k : List Nat) (n : Nat) (g : V) (s : List Nat) : Prop where
  kd : Kind k
  lost : k = kLost → n < a.length
  turned : k = kTurned → n + 1 < a.length ∧ a[n]? ≠ a[n + 1]?
  extra : k = kExtra → n ≤ a.length ∧ ∃ c, s = [c] ∧ g = tx s
  other : k = kOther → n < a.length ∧ ∃ c, s = [c] ∧ g = tx s ∧ a[n]? ≠ some c
def sp_slipped (K : PySem.W.Frag) : Sp := fun vs H Q _ => ∃ (x : Addr) (m : Pt) (k : List Nat) (n : Nat) (g : V) (s : List Nat), vs = [.ref x, tx k, .int (n : Int), g] ∧ MkO K H x m ∧ m.text.length ≤ 10000 ∧ SlipOk m.text k n g s ∧ Q (tx (slipT m.text k n s)) H
theorem ok_slipped (T : Txt K mg w) : ∃ fd, FunD K d_slipped.name d_slipped.qual d_slipped.params d_slipped.body d_slipped.scope (d_slipped.dvs K) (d_slipped.kws K) (He.fAd K d_slipped.at_) fd ∧ FnOk P w K mg base C8.CX0 4 (He.fAd K d_slipped.at_) fd ["mark", "kind", "at", "sign"] (sp_slipped K) := by
  obtain ⟨fd, F⟩ := T.f_slipped
  refine ⟨fd, F, ?_⟩
  have sc := (show FnScope ["mark", "kind", "at", "sign", "text"] ["mark", "kind", "at", "sign"] (defScope s_slipped) from ⟨rfl, rfl, rfl, by decide +kernel, rfl, by decide +kernel, by decide +kernel⟩)
  refine F.ok sc (fun vs H Q E h => ?_) (fun cdv A outer s H vs Q E hr h => ?_)
  · obtain ⟨x, m, z, n, g, s', rfl, mk, l1, ok, k⟩ := h; rfl
  obtain ⟨x, m, z, n, g, s', rfl, mk, l1, ok, k⟩ := h
  have hu := hr.units
  refine ⟨_, PSs.nox (pss_cons (ps_set (i := 4) sc.nd rfl (by first | exact Or.inl rfl | exact Or.inr rfl) (pe_callTy (U.cu_strO (c_m_str T) hr (by decide)) (by rfl) T.b_str (by decide +kernel) (pa_cons (pv 0) pa_nil)))
  (pss_cons (ps_if (pt_not (pt_val (C8.pe_c (c_is_kind T) hr (by decide) rfl (pa_cons (pv 1) pa_nil)))) (pss_one ps_never) pss_nil)
  (pss_cons (ps_if (pt_not (pt_val (C8.pe_c (c_is_whole T) hr (by decide) rfl (pa_cons (pv 2) (pa_cons pe_int (pa_cons (C8.pe_c (c_last_place T) hr (by decide) rfl (pa_cons (pe_callB (U.cu_len (K := K)) (by rfl) T.b_len (by decide +kernel) (pa_cons (pv 4) pa_nil)) (pa_cons (pv 1) pa_nil))) pa_nil)))))) (pss_one ps_never) pss_nil)
  (pss_cons (ps_if (pt_cmpR (U.ou_eq (K := K) hu) (pv 1) (U.pe_s (l := [108, 111, 115, 116]) (by decide +kernel)) (nomark _)) (pss_one (ps_ret (pe_op (U.ou_add (K := K)) (pe_slice (U.su (K := K)) (pv 4) po_none (po_some (pv 2))) (pe_slice (U.su (K := K)) (pv 4) (po_some (pe_op (U.ou_add (K := K)) (pv 2) pe_int)) po_none)))) pss_nil)
  (pss_cons (ps_if (pt_cmpR (U.ou_eq (K := K) hu) (pv 1) (U.pe_s (l := [116, 117, 114, 110, 101, 100]) (by decide +kernel)) (nomark _)) (pss_cons (ps_if (pt_cmpR (U.ou_eq (K := K) hu) (pe_ix (U.xu (K := K)) (pv 4) (pv 2) (fun _ _ => rfl)) (pe_ix (U.xu (K := K)) (pv 4) (pe_op (U.ou_add (K := K)) (pv 2) pe_int) (fun _ _ => rfl)) (nomark _)) (pss_one ps_never) pss_nil)
    (pss_one (ps_ret (pe_op (U.ou_add (K := K)) (pe_op (U.ou_add (K := K)) (pe_op (U.ou_add (K := K)) (pe_slice (U.su (K := K)) (pv 4) po_none (po_some (pv 2))) (pe_ix (U.xu (K := K)) (pv 4) (pe_op (U.ou_add (K := K)) (pv 2) pe_int) (fun _ _ => rfl))) (pe_ix (U.xu (K := K)) (pv 4) (pv 2) (fun _ _ => rfl))) (pe_slice (U.su (K := K)) (pv 4) (po_some (pe_op (U.ou_add (K := K)) (pv 2) pe_int)) po_none))))) pss_nil)
  (pss_cons (ps_if (PW.pt (pw_or (pt_not (pt_val (pe_callB (U.cu_isi (K := K)) (by rfl) T.b_isinstance (by decide +kernel) (pa_cons (pv 3) (pa_cons (U.pe_ty (n := "str") rfl T.b_str (by decide +kernel)) pa_nil))))) (pw_or1 (pt_cmpR (U.ou_ne (K := K) hu) (pe_callB (U.cu_len (K := K)) (by rfl) T.b_len (by decide +kernel) (pa_cons (pv 3) pa_nil)) pe_int (nomark _))))) (pss_one ps_never) pss_nil)
  (pss_cons (ps_if (pt_cmpR (U.ou_eq (K := K) hu) (pv 1) (U.pe_s (l := [101, 120, 116, 114, 97]) (by decide +kernel)) (nomark _)) (pss_one (ps_ret (pe_op (U.ou_add (K := K)) (pe_op (U.ou_add (K := K)) (pe_slice (U.su (K := K)) (pv 4) po_none (po_some (pv 2))) (pv 3)) (pe_slice (U.su (K := K)) (pv 4) (po_some (pv 2)) po_none)))) pss_nil)
  (pss_cons (ps_if (pt_cmpR (U.ou_eq (K := K) hu) (pv 3) (pe_ix (U.xu (K := K)) (pv 4) (pv 2) (fun _ _ => rfl)) (nomark _)) (pss_one ps_never) pss_nil)
  (pss_one (ps_ret (pe_op (U.ou_add (K := K)) (pe_op (U.ou_add (K := K)) (pe_slice (U.su (K := K)) (pv 4) po_none (po_some (pv 2))) (pv 3)) (pe_slice (U.su (K := K)) (pv 4) (po_some (pe_op (U.ou_add (K := K)) (pv 2) pe_int)) po_none)))))))))))), ?_⟩
  walk_at "ust0"
  obtain ⟨dx, t, ir, tr⟩ := mk.ex
  have l3 : m.text.length ≤ 100000 := by omega
  have kk := ok.kd
  generalize ea : m.text = a at l1 ok k
  walk_at "ugo"
  rw [ea]
  walk_at "ugo"
  refine brT (by
    rcases kk with rfl | rfl | rfl | rfl
    · have := (ok.other rfl).1; simp [lastP]; omega
    · have := ok.lost rfl; simp [lastP]; omega
    · have := (ok.extra rfl).1; simp [lastP]; omega
    · have := (ok.turned rfl).1; simp [lastP]; omega) ?_
  walk_at "ugo"
  refine br2 (fun h1 => ?_) (fun h1 => ?_)
  · subst h1
    have := ok.lost rfl
    walk_at "ugo"
    refine sl_to (by walk_at "usd") (by omega) ?_
    walk_at "ugo"
    refine sl_fr (by walk_at "usd") (by omega) ?_
    walk_at "ugo"
    refine Sd.k (by rw [z24, List.length_take, List.length_drop]; omega) ?_
    exact qv k (by simp [slipT])
  walk_at "ugo"
  refine br2 (fun h2 => ?_) (fun h2 => ?_)
  · subst h2
    obtain ⟨h3, h4⟩ := ok.turned rfl
    have e1 : a[n]? = some a[n] := List.getElem?_eq_getElem (by omega)
    have e2 : a[n + 1]? = some a[n + 1] := List.getElem?_eq_getElem (by omega)
    walk_at "ugo"
    refine ix_sg (by walk_at "usd") (atI_nat e1) ?_
    walk_at "ugo"
    refine ix_sg (by walk_at "usd") (atI_nat (j := n + 1) e2) ?_
    walk_at "ugo"
    refine brF (by intro e; apply h4; rw [e1, e2]; simp at e; rw [e]) ?_
    walk_at "ugo"
    refine sl_to (by walk_at "usd") (by omega) ?_
    walk_at "ugo"
    refine ix_sg (by walk_at "usd") (atI_nat (j := n + 1) e2) ?_
    walk_at "ugo"
    refine Sd.k (by rw [z24, List.length_take]; simp; omega) ?_
    walk_at "ugo"
    refine ix_sg (by walk_at "usd") (atI_nat e1) ?_
    walk_at "ugo"
    refine Sd.k (by rw [z24]; simp; omega) ?_
    walk_at "ugo"
    refine sl_fr (by walk_at "usd") (by omega) ?_
    walk_at "ugo"
    have e3 : ((n : Int) + 2).toNat = n + 2 := by omega
    refine Sd.k (by rw [z24]; simp; omega) ?_
    exact qv k (by simp [slipT, e1, e2, e3])
  walk_at "ugo"
  rcases kk with rfl | rfl | rfl | rfl
  · obtain ⟨h3, c, rfl, rfl, h4⟩ := ok.other rfl
    have e1 : a[n]? = some a[n] := List.getElem?_eq_getElem (by omega)
    walk_at "ugo"
    refine brT rfl ?_
    walk_at "ugo"
    refine brF (by decide) ?_
    walk_at "ugo"
    refine ix_sg (by walk_at "usd") (atI_nat e1) ?_
    walk_at "ugo"
    refine brF (by intro e; apply h4; rw [e1]; simp at e; rw [e]) ?_
    walk_at "ugo"
    refine sl_to (by walk_at "usd") (by omega) ?_
    walk_at "ugo"
    refine Sd.k (by rw [z24, List.length_take]; simp; omega) ?_
    walk_at "ugo"
    refine sl_fr (by walk_at "usd") (by omega) ?_
    walk_at "ugo"
    refine Sd.k (by rw [z24]; simp; omega) ?_
    exact qv k (by simp [slipT])
  · exact absurd rfl h1
  · obtain ⟨h3, c, rfl, rfl⟩ := ok.extra rfl
    walk_at "ugo"
    refine brT rfl ?_
    walk_at "ugo"
    refine brT rfl ?_
    walk_at "ugo"
    refine sl_to (by walk_at "usd") (by omega) ?_
    walk_at "ugo"
    refine Sd.k (by rw [z24, List.length_take]; simp; omega) ?_
    walk_at "ugo"
    refine sl_fr (by walk_at "usd") (by omega) ?_
    walk_at "ugo"
    refine Sd.k (by rw [z24]; simp; omega) ?_
    exact qv k (by simp [slipT])
  · exact absurd rfl h2
theorem c_slipped (T : Txt K mg w) : C8.Cal P w K mg base 4 "slipped" (sp_slipped K) [] := by
  obtain ⟨fd, F, ok⟩ := ok_slipped (P := P) (w := w) (base := base) T
  exact cal_d F T.g_slipped (F.binds1 4 1 (by intro z; cases z) rfl fun _ _ _ _ _ _ _ us its hl hl2 => match us, its, hl, hl2 with | [_, _, _, _], [_], _, _ => ⟨_, rfl, rfl⟩) ok
theorem c_slipped_3 (T : Txt K mg w) : C8.Cal P w K mg base 4 "slipped" (sp_slipped K) [.str ""] := by
  obtain ⟨fd, F, ok⟩ := ok_slipped (P := P) (w := w) (base := base) T
  exact cal_d F T.g_slipped (F.binds1 3 0 (by intro z; cases z) rfl fun _ _ _ _ _ _ _ us its hl hl2 => match us, its, hl, hl2 with | [_, _, _], [_], _, _ => ⟨_, rfl, rfl⟩) ok
theorem c_slipped_sign (T : Txt K mg w) : CalK P w K mg base 4 "slipped" (sp_slipped K) 3 ["sign"] gCat := by
  obtain ⟨fd, F, ok⟩ := ok_slipped (P := P) (w := w) (base := base) T
  obtain ⟨its, b⟩ := (F.kbindsD 3 ["sign"] (fun us _ ws => gCat us ws) (by intro z; cases z) (fun r _ z => r.append z) fun _ _ _ _ _ _ _ us its ws h1 h2 h3 => match us, its, ws, h1, h2, h3 with | [_, _, _], [_], [_], _, _, _ => ⟨_, rfl, by kernel_rfl⟩)
  exact ⟨_, fd, _, _, ok, T.g_slipped, F.kp, b⟩
end
end T

namespace T
open PySem PySem.Spec PyProof.Rows L2 U
open SX (S)
section
variable {P : Program} {w : World} {K : PySem.W.Frag} {mg : PySem.Str → Option Value} {base : Heap}
/-! the pool -/
class PL (H : Hp) (p : Addr) : Prop where
  ex : ∃ n : Int, LM H p [.int n] ∧ 0 ≤ n
instance {H H' : Hp} {p : Addr} [e : Ex H H'] [h : PL H p] : PL H' p := by
  obtain ⟨n, lm, h0⟩ := h.ex
  exact ⟨n, inferInstance, h0⟩
instance {H H' : Hp} {p q : Addr} [e : Mu H q H'] [n : Ne' p q] [h : PL H p] : PL H' p := by
  obtain ⟨n, lm, h0⟩ := h.ex
  exact ⟨n, inferInstance, h0⟩
instance {H H' : Hp} {p q : Addr} [e : Mi H q H'] [h : PL H p] : PL H' p := by
  obtain ⟨n, lm, h0⟩ := h.ex
  exact ⟨n, inferInstance, h0⟩
instance {H0 : Hp} {p q : Addr} [w : Nw H0 p] [h : PL H0 q] : Ne' q p := by
  obtain ⟨n, lm, h0⟩ := h.ex
  exact inferInstance
instance {H0 : Hp} {p q : Addr} [w : Nw H0 p] [h : PL H0 q] : Ne' p q := by
  obtain ⟨n, lm, h0⟩ := h.ex
  exact inferInstance
theorem mu_pl {H H' : Hp} {p : Addr} [h : PL H p] [m : Mx H p H'] : Mu H p H' := by
  obtain ⟨n, lm, h0⟩ := h.ex
  exact mu_of
def sp_law_take : Sp := fun vs H Q _ => ∃ (p : Addr) (s : Int), vs = [.ref p, .int s] ∧ PL H p ∧ 0 < s ∧ s < 10 ^ 60 ∧ ∀ (r : Nat) H', (r : Int) < s → Mu H p H' → PL H' p → Q (.int (r : Int)) H'
theorem ok_law_take (T : Txt K mg w) : ∃ fd, FunD K d_law_take.name d_law_take.qual d_law_take.params d_law_take.body d_law_take.scope (d_law_take.dvs K) (d_law_take.kws K) (He.fAd K d_law_take.at_) fd ∧ FnOk P w K mg base C8.CX0 1 (He.fAd K d_law_take.at_) fd ["pool", "size"] sp_law_take := by
  obtain ⟨fd, F⟩ := T.f_law_take
  refine ⟨fd, F, ?_⟩
  have sc := (show FnScope ["pool", "size", "found"] ["pool", "size"] (defScope s_law_take) from ⟨rfl, rfl, rfl, by decide +kernel, rfl, by decide +kernel, by decide +kernel⟩)
  refine F.ok sc (fun vs H Q E h => ?_) (fun cdv A outer s H vs Q E hr h => ?_)
  · obtain ⟨p, s', rfl, pl, h0, h1, k⟩ := h; rfl
  obtain ⟨p, s', rfl, pl, h0, h1, k⟩ := h
  have hu := hr.units
  refine ⟨_, PSs.nox (pss_cons (ps_set (i := 2) sc.nd rfl (by first | exact Or.inl rfl | exact Or.inr rfl) (pe_op U.ou_mod (pe_ix (U.xu (K := K)) (pv 0) pe_int (fun _ _ => rfl)) (pv 1)))
  (pss_cons (ps_asg (pe_op U.ou_fdiv (pe_ix (U.xu (K := K)) (pv 0) pe_int (fun _ _ => rfl)) (pv 1)) (pg_sub (pv 0) pe_int set_list))
  (pss_one (ps_ret (pv 2))))), ?_⟩
  walk_at "ust0"
  obtain ⟨n, lm, hn⟩ := pl.ex
  walk_at "ugo"
  refine ix_is (v := .int n) (atI_nat (j := 0) rfl) ?_
  walk_at "ugo"
  refine ix_is (v := .int n) (atI_nat (j := 0) rfl) ?_
  walk_at "ugo"
  refine Sd.k (cd h0 (by
    have : s'.natAbs < 10 ^ 60 := by omega
    exact Nat.lt_trans this (by decide))) ?_
  walk_at "ugo"
  refine sl_of (j := 0) (zs := [_]) (by simp [ixN]) rfl ?_
  refine mu_l' fun H1 m1 l1 => ?_
  walk_at "ugo"
  have h3 := Int.emod_nonneg n (b := s') (by omega)
  have h4 := Int.emod_lt_of_pos n h0
  refine qv (k (n % s').toNat H1 (by omega) m1 ⟨_, l1, Int.ediv_nonneg hn (by omega)⟩) ?_
  rw [Int.toNat_of_nonneg h3]
theorem c_law_take (T : Txt K mg w) : C8.Cal P w K mg base 1 "_law_take" sp_law_take [] := by
  obtain ⟨fd, F, ok⟩ := ok_law_take (P := P) (w := w) (base := base) T
  exact cal_n F T.g_law_take (F.bindsN fun _ _ _ _ _ _ us hl => match us, hl with | [_, _], _ => rfl) ok
instance {H : Hp} {Q : VK} {E : XK} {p : Addr} {s : Int} [h : PL H p] : Go (sp_law_take [.ref p, .int s] H Q E) (Sd (0 < s) (Sd (s < 10 ^ 60) (∀ (r : Nat) H', (r : Int) < s → Mu H p H' → PL H' p → Q (.int (r : Int)) H'))) := ⟨fun k => ⟨p, s, rfl, h, k.1, k.2.1, k.2.2⟩⟩
/-! _law_pool -/
def sp_law_pool : Sp := fun vs H Q _ => ∃ (c : Int), vs = [.int c] ∧ ∀ p H', Nw H p → Ex H H' → PL H' p → Q (.ref p) H'
theorem ok_law_pool (T : Txt K mg w) : ∃ fd, FunD K d_law_pool.name d_law_pool.qual d_law_pool.params d_law_pool.body d_law_pool.scope (d_law_pool.dvs K) (d_law_pool.kws K) (He.fAd K d_law_pool.at_) fd ∧ FnOk P w K mg base C8.CX0 1 (He.fAd K d_law_pool.at_) fd ["cell"] sp_law_pool := by
  obtain ⟨fd, F⟩ := T.f_law_pool
  refine ⟨fd, F, ?_⟩
  have sc := (show FnScope ["cell", "number", "k", "mix"] ["cell"] (defScope s_law_pool) from ⟨rfl, rfl, rfl, by decide +kernel, rfl, by decide +kernel, by decide +kernel⟩)
  refine F.ok sc (fun vs H Q E h => ?_) (fun cdv A outer s H vs Q E hr h => ?_)
  · obtain ⟨c, rfl, k⟩ := h; rfl
  obtain ⟨c, rfl, k⟩ := h
  have hu := hr.units
  refine ⟨_, PSs.nox (pss_cons (ps_if (pt_cmpR U.ou_ge (pv 0) (pe_op U.ou_pow pe_int pe_int) (nomark _)) (pss_one (ps_ret (pe_lst (pa_cons (pv 0) pa_nil)))) pss_nil)
  (pss_cons (ps_set (i := 1) sc.nd rfl (by first | exact Or.inl rfl | exact Or.inr rfl) pe_int)
  (pss_cons (ps_for PassesOwn.never rfl (pi_range1 (by rfl) T.b_range (pa_cons pe_int pa_nil)) (pg_name (i := 2) sc.nd rfl (by first | exact Or.inl rfl | exact Or.inr rfl)) (pss_cons (ps_set (i := 3) sc.nd rfl (by first | exact Or.inl rfl | exact Or.inr rfl) (pe_op U.ou_mod (pe_op U.ou_pow (pe_op (U.ou_add (K := K)) (pe_op (U.ou_add (K := K)) (pe_op (U.ou_mul (K := K)) (pe_op U.ou_mod (pv 0) pe_int) pe_int) (pe_op (U.ou_mul (K := K)) pe_int (pv 2))) pe_int) pe_int) pe_int))
    (pss_one (ps_set (i := 1) sc.nd rfl (by first | exact Or.inl rfl | exact Or.inr rfl) (pe_op (U.ou_add (K := K)) (pe_op (U.ou_mul (K := K)) (pv 1) pe_int) (pe_op U.ou_mod (pe_op U.ou_pow (pe_op (U.ou_add (K := K)) (pe_op (U.ou_mul (K := K)) (pv 3) pe_int) (pv 2)) pe_int) pe_int))))))
  (pss_one (ps_ret (pe_lst (pa_cons (pv 1) pa_nil))))))), ?_⟩
  walk_at "ust0"
  walk_at "ugo"
  refine br2 (fun h => ?_) (fun h => ?_)
  · walk_at "ugo"
    refine al_l fun p H1 nw ex lm => ?_
    have h2 : (10 : Int) ^ ((18 : Int).toNat) = 1000000000000000000 := by decide
    rw [h2] at h
    exact k p H1 nw ex ⟨c, lm, by omega⟩
  · walk_at "ugo"
    refine for_r (n := 9) (i := 0) (fun i σ H' => (∃ (x : Int) (o1 o2 : Option V), σ = [some (.int c), some (.int x), o1, o2] ∧ 0 ≤ x ∧ x < 2 ^ (40 * i)) ∧ H' = H) ⟨⟨0, _, _, rfl, by omega, by decide⟩, rfl⟩ (fun i σ H' hi h => ?_) (fun σ H' h => ?_)
    · obtain ⟨⟨x, o1, o2, rfl, h0, h1⟩, rfl⟩ := h
      walk_at "ugo"
      have hx : (2 : Int) ^ (40 * i) ≤ 2 ^ 360 := by exact_mod_cast Nat.pow_le_pow_right (by decide) (by omega)
      have e40 : (2 : Int) ^ (40 * (i + 1)) = 2 ^ (40 * i) * 1099511627776 := by rw [Nat.mul_succ, Int.pow_add]; rfl
      generalize hy : (2 : Int) ^ (40 * i) = y at h1 hx e40
      have hc0 := Int.emod_nonneg c (b := 2147483647) (by decide)
      have hc1 := Int.emod_lt_of_pos c (b := 2147483647) (by decide)
      generalize c % 2147483647 = d at hc0 hc1 ⊢
      refine Sd.k (cm64 (by omega) (by omega)) ?_
      walk_at "ugo"
      refine Sd.k (cm64 (by omega) (by omega)) ?_
      walk_at "ugo"
      try (refine Sd.k ⟨by decide, by decide, by omega⟩ ?_; walk_at "ugo")
      have hm0 := Int.emod_nonneg ((d * 69621 + 7919 * (0 + (i : Int)) + 11) ^ (5 : Int).toNat) (b := 2147483647) (by decide)
      have hm1 := Int.emod_lt_of_pos ((d * 69621 + 7919 * (0 + (i : Int)) + 11) ^ (5 : Int).toNat) (b := 2147483647) (by decide)
      generalize (d * 69621 + 7919 * (0 + (i : Int)) + 11) ^ (5 : Int).toNat % 2147483647 = m at hm0 hm1 ⊢
      refine Sd.k (cm (by
        have : x.natAbs < 2 ^ 360 := by omega
        exact Nat.lt_trans this (by decide)) (by decide)) ?_
      walk_at "ugo"
      try (refine Sd.k (cm64 (by omega) (by omega)) ?_; walk_at "ugo")
      try (refine Sd.k ⟨by decide, by decide, by omega⟩ ?_; walk_at "ugo")
      have hn0 := Int.emod_nonneg ((m * 48271 + (0 + (i : Int))) ^ (5 : Int).toNat) (b := 2147483629) (by decide)
      have hn1 := Int.emod_lt_of_pos ((m * 48271 + (0 + (i : Int))) ^ (5 : Int).toNat) (b := 2147483629) (by decide)
      generalize (m * 48271 + (0 + (i : Int))) ^ (5 : Int).toNat % 2147483629 = u at hn0 hn1 ⊢
      exact ⟨⟨_, _, _, rfl, by omega, by rw [e40]; omega⟩, rfl⟩
    · obtain ⟨⟨x, o1, o2, rfl, h0, h1⟩, rfl⟩ := h
      walk_at "ugo"
      refine al_l fun p H1 nw ex lm => ?_
      exact k p H1 nw ex ⟨x, lm, h0⟩
theorem c_law_pool (T : Txt K mg w) : C8.Cal P w K mg base 1 "_law_pool" sp_law_pool [] := by
  obtain ⟨fd, F, ok⟩ := ok_law_pool (P := P) (w := w) (base := base) T
  exact cal_n F T.g_law_pool (F.bindsN fun _ _ _ _ _ _ us hl => match us, hl with | [_], _ => rfl) ok
/-! drawn figures, makers -/
theorem at_figs {r : Nat} (h : r < 10) : atI ([48, 49, 50, 51, 52, 53, 54, 55, 56, 57] : List Nat) (r : Int) = some (48 + r) := atI_nat ((by decide : ∀ r, r < 10 → ([48, 49, 50, 51, 52, 53, 54, 55, 56, 57] : List Nat)[r]? = some (48 + r)) r h)
theorem at_figs1 {r : Nat} (h : r < 9) : atI ([49, 50, 51, 52, 53, 54, 55, 56, 57] : List Nat) (r : Int) = some (49 + r) := atI_nat ((by decide : ∀ r, r < 9 → ([49, 50, 51, 52, 53, 54, 55, 56, 57] : List Nat)[r]? = some (49 + r)) r h)
theorem at_lets {r : Nat} (h : r < 26) : atI ([97, 98, 99, 100, 101, 102, 103, 104, 105, 106, 107, 108, 109, 110, 111, 112, 113, 114, 115, 116, 117, 118, 119, 120, 121, 122] : List Nat) (r : Int) = some (97 + r) := atI_nat ((by decide : ∀ r, r < 26 → ([97, 98, 99, 100, 101, 102, 103, 104, 105, 106, 107, 108, 109, 110, 111, 112, 113, 114, 115, 116, 117, 118, 119, 120, 121, 122] : List Nat)[r]? = some (97 + r)) r h)
theorem at_abcd {r : Nat} (h : r < 4) : atI ([97, 98, 99, 100] : List Nat) (r : Int) = some (97 + r) := atI_nat ((by decide : ∀ r, r < 4 → ([97, 98, 99, 100] : List Nat)[r]? = some (97 + r)) r h)
theorem figs_snoc {a : List Nat} {r : Nat} (h : ∀ c ∈ a, Fg c) (hr : r < 9) : Figs (a ++ [49 + r]) :=
  ⟨fun c hc => by
    rcases List.mem_append.mp hc with hc | hc
    · exact h c hc
    · rw [List.mem_singleton.mp hc]; exact ⟨by omega, by omega⟩, 49 + r, atI_last a _, by omega⟩
def sp_law_figures : Sp := fun vs H Q _ => ∃ (p : Addr) (n : Int), vs = [.ref p, .int n] ∧ PL H p ∧ 0 < n ∧ n ≤ 100 ∧ ∀ a H', Figs a → (a.length : Int) ≤ n → Mu H p H' → PL H' p → Q (tx a) H'
theorem ok_law_figures (T : Txt K mg w) : ∃ fd, FunD K d_law_figures.name d_law_figures.qual d_law_figures.params d_law_figures.body d_law_figures.scope (d_law_figures.dvs K) (d_law_figures.kws K) (He.fAd K d_law_figures.at_) fd ∧ FnOk P w K mg base C8.CX0 2 (He.fAd K d_law_figures.at_) fd ["pool", "most"] sp_law_figures := by
  obtain ⟨fd, F⟩ := T.f_law_figures
  refine ⟨fd, F, ?_⟩
  have sc := (show FnScope ["pool", "most", "signs", "k"] ["pool", "most"] (defScope s_law_figures) from ⟨rfl, rfl, rfl, by decide +kernel, rfl, by decide +kernel, by decide +kernel⟩)
  refine F.ok sc (fun vs H Q E h => ?_) (fun cdv A outer s H vs Q E hr h => ?_)
  · obtain ⟨p, n, rfl, pl, h0, h1, k⟩ := h; rfl
  obtain ⟨p, n, rfl, pl, h0, h1, k⟩ := h
  have hu := hr.units
  refine ⟨_, PSs.nox (pss_cons (ps_set (i := 2) sc.nd rfl (by first | exact Or.inl rfl | exact Or.inr rfl) (U.pe_s (l := []) (by decide +kernel)))
  (pss_cons (ps_for PassesOwn.never rfl (pi_range1 (by rfl) T.b_range (pa_cons (C8.pe_c (c_law_take T) hr (by decide) rfl (pa_cons (pv 0) (pa_cons (pv 1) pa_nil))) pa_nil)) (pg_name (i := 3) sc.nd rfl (by first | exact Or.inl rfl | exact Or.inr rfl)) (pss_one (ps_set (i := 2) sc.nd rfl (by first | exact Or.inl rfl | exact Or.inr rfl) (pe_op (U.ou_add (K := K)) (pv 2) (pe_ix (U.xu (K := K)) (U.pe_s (l := [48, 49, 50, 51, 52, 53, 54, 55, 56, 57]) (by decide +kernel)) (C8.pe_c (c_law_take T) hr (by decide) rfl (pa_cons (pv 0) (pa_cons pe_int pa_nil))) (fun _ _ => rfl))))))
  (pss_one (ps_ret (pe_op (U.ou_add (K := K)) (pv 2) (pe_ix (U.xu (K := K)) (U.pe_s (l := [49, 50, 51, 52, 53, 54, 55, 56, 57]) (by decide +kernel)) (C8.pe_c (c_law_take T) hr (by decide) rfl (pa_cons (pv 0) (pa_cons pe_int pa_nil))) (fun _ _ => rfl))))))), ?_⟩
  walk_at "ust0"
  walk_at "ugo"
  intro r H1 hr m1 p1
  walk_at "ugo"
  refine for_r (n := (r : Int).toNat) (i := 0) (fun i σ H' => (∃ (a : List Nat) (o : Option V), σ = [some (.ref p), some (.int n), some (tx a), o] ∧ a.length = i ∧ ∀ c ∈ a, Fg c) ∧ Mx H p H' ∧ PL H' p) ⟨⟨[], _, rfl, rfl, fun c hc => by cases hc⟩, inferInstance, p1⟩ (fun i σ H' hi h => ?_) (fun σ H' h => ?_)
  · obtain ⟨⟨a, o, rfl, hl, ha⟩, mx, pl'⟩ := h
    walk_at "ugo"
    intro t H2 ht m2 p2
    have ht : t < 10 := by omega
    walk_at "ugo"
    refine ix_sg (by walk_at "usd") (at_figs ht) ?_
    walk_at "ugo"
    walk_at "ugo"
    exact ⟨⟨a ++ [48 + t], _, rfl, by simp [hl], fun c hc => by
      rcases List.mem_append.mp hc with hc | hc
      · exact ha c hc
      · rw [List.mem_singleton.mp hc]; exact ⟨by omega, by omega⟩⟩, inferInstance, p2⟩
  · obtain ⟨⟨a, o, rfl, hl, ha⟩, mx, pl'⟩ := h
    walk_at "ugo"
    intro t H2 ht m2 p2
    have ht : t < 9 := by omega
    walk_at "ugo"
    refine ix_sg (by walk_at "usd") (at_figs1 ht) ?_
    walk_at "ugo"
    exact k _ H2 (figs_snoc ha ht) (by simp; omega) mu_pl p2
theorem c_law_figures (T : Txt K mg w) : C8.Cal P w K mg base 2 "_law_figures" sp_law_figures [] := by
  obtain ⟨fd, F, ok⟩ := ok_law_figures (P := P) (w := w) (base := base) T
  exact cal_n F T.g_law_figures (F.bindsN fun _ _ _ _ _ _ us hl => match us, hl with | [_, _], _ => rfl) ok
instance {H : Hp} {Q : VK} {E : XK} {p : Addr} {s : Int} [h : PL H p] : Go (sp_law_figures [.ref p, .int s] H Q E) (Sd (0 < s) (Sd (s ≤ 100) (∀ a H', Figs a → (a.length : Int) ≤ s → Mu H p H' → PL H' p → Q (tx a) H'))) := ⟨fun k => ⟨p, s, rfl, h, k.1, k.2.1, k.2.2⟩⟩
def sp_law_maker : Sp := fun vs H Q _ => ∃ (p : Addr) (n : Int), vs = [.ref p, .int n] ∧ PL H p ∧ 0 < n ∧ n ≤ 100 ∧ ∀ a H', Maker a → (a.length : Int) ≤ n + 1 → Mu H p H' → PL H' p → Q (tx a) H'
theorem ok_law_maker (T : Txt K mg w) : ∃ fd, FunD K d_law_maker.name d_law_maker.qual d_law_maker.params d_law_maker.body d_law_maker.scope (d_law_maker.dvs K) (d_law_maker.kws K) (He.fAd K d_law_maker.at_) fd ∧ FnOk P w K mg base C8.CX0 3 (He.fAd K d_law_maker.at_) fd ["pool", "most"] sp_law_maker := by
  obtain ⟨fd, F⟩ := T.f_law_maker
  refine ⟨fd, F, ?_⟩
  have sc := (show FnScope ["pool", "most", "letter"] ["pool", "most"] (defScope s_law_maker) from ⟨rfl, rfl, rfl, by decide +kernel, rfl, by decide +kernel, by decide +kernel⟩)
  refine F.ok sc (fun vs H Q E h => ?_) (fun cdv A outer s H vs Q E hr h => ?_)
  · obtain ⟨p, n, rfl, pl, h0, h1, k⟩ := h; rfl
  obtain ⟨p, n, rfl, pl, h0, h1, k⟩ := h
  have hu := hr.units
  refine ⟨_, PSs.nox (pss_cons (ps_set (i := 2) sc.nd rfl (by first | exact Or.inl rfl | exact Or.inr rfl) (pe_ix (U.xu (K := K)) (U.pe_s (l := [97, 98, 99, 100, 101, 102, 103, 104, 105, 106, 107, 108, 109, 110, 111, 112, 113, 114, 115, 116, 117, 118, 119, 120, 121, 122]) (by decide +kernel)) (C8.pe_c (c_law_take T) hr (by decide) rfl (pa_cons (pv 0) (pa_cons pe_int pa_nil))) (fun _ _ => rfl)))
  (pss_cons (ps_if (pt_cmpR (U.ou_eq (K := K) hu) (C8.pe_c (c_law_take T) hr (by decide) rfl (pa_cons (pv 0) (pa_cons pe_int pa_nil))) pe_int (nomark _)) (pss_one (ps_set (i := 2) sc.nd rfl (by first | exact Or.inl rfl | exact Or.inr rfl) (pe_ix (U.xu (K := K)) (U.pe_s (l := [97, 98, 99, 100]) (by decide +kernel)) (C8.pe_c (c_law_take T) hr (by decide) rfl (pa_cons (pv 0) (pa_cons pe_int pa_nil))) (fun _ _ => rfl)))) pss_nil)
  (pss_one (ps_ret (pe_op (U.ou_add (K := K)) (pv 2) (C8.pe_c (c_law_figures T) hr (by decide) rfl (pa_cons (pv 0) (pa_cons (pv 1) pa_nil)))))))), ?_⟩
  walk_at "ust0"
  walk_at "ugo"
  intro r H1 hr m1 p1
  have hr : r < 26 := by omega
  walk_at "ugo"
  refine ix_sg (by walk_at "usd") (at_lets hr) ?_
  walk_at "ugo"
  intro t H2 ht m2 p2
  walk_at "ugo"
  refine br2 (fun h => ?_) (fun h => ?_)
  · walk_at "ugo"
    intro u H3 hu m3 p3
    have hu : u < 4 := by omega
    walk_at "ugo"
    refine ix_sg (by walk_at "usd") (at_abcd hu) ?_
    walk_at "ugo"
    intro a H4 ha hl m4 p4
    walk_at "ugo"
    exact k _ H4 ⟨_, a, rfl, ⟨by omega, by omega⟩, ha⟩ (by simp; omega) mu_pl p4
  · walk_at "ugo"
    intro a H4 ha hl m4 p4
    walk_at "ugo"
    exact k _ H4 ⟨_, a, rfl, ⟨by omega, by omega⟩, ha⟩ (by simp; omega) mu_pl p4
theorem c_law_maker (T : Txt K mg w) : C8.Cal P w K mg base 3 "_law_maker" sp_law_maker [] := by
  obtain ⟨fd, F, ok⟩ := ok_law_maker (P := P) (w := w) (base := base) T
  exact cal_n F T.g_law_maker (F.bindsN fun _ _ _ _ _ _ us hl => match us, hl with | [_, _], _ => rfl) ok
instance {H : Hp} {Q : VK} {E : XK} {p : Addr} {s : Int} [h : PL H p] : Go (sp_law_maker [.ref p, .int s] H Q E) (Sd (0 < s) (Sd (s ≤ 100) (∀ a H', Maker a → (a.length : Int) ≤ s + 1 → Mu H p H' → PL H' p → Q (tx a) H'))) := ⟨fun k => ⟨p, s, rfl, h, k.1, k.2.1, k.2.2⟩⟩
end
end T

namespace T
open PySem PySem.Spec PyProof.Rows L2 U
open SX (S)
section
variable {P : Program} {w : World} {K : PySem.W.Frag} {mg : PySem.Str → Option Value} {base : Heap}
/-! the list of a mark's parts -/
class PtL (H : Hp) (q : Addr) (m : outParam Pt) : Prop where
  ex : ∃ h, LM H q [tx m.lets, .int (m.num : Int), tx m.pts, .ref h, oV m.age, oV m.twin] ∧ LM H h (m.hands.map tx) ∧ q ≠ h
instance {H H' : Hp} {q : Addr} {m : Pt} [e : Ex H H'] [h : PtL H q m] : PtL H' q m := by
  obtain ⟨b, l1, l2, n⟩ := h.ex
  exact ⟨b, inferInstance, inferInstance, n⟩
instance {H H' : Hp} {q p : Addr} {m : Pt} [e : Mi H p H'] [h : PtL H q m] : PtL H' q m := by
  obtain ⟨b, l1, l2, n⟩ := h.ex
  exact ⟨b, inferInstance, inferInstance, n⟩
/-- all of such a list is known on when only what was new at H0 changes -/
theorem ptl_mu {H H' H0 : Hp} {q p : Addr} {m : Pt} (w : Nw H0 p) (h0 : PtL H0 q m) (e : Mx H0 p H') : PtL H' q m := by
  obtain ⟨b, l1, l2, n⟩ := h0.ex
  have n1 : q ≠ p := ne_of_none l1.lm w.nw
  have n2 : b ≠ p := ne_of_none l2.lm w.nw
  exact ⟨b, ⟨e.mx _ _ n1 l1.lm⟩, ⟨e.mx _ _ n2 l2.lm⟩, n⟩
/-- .. short ones -/
structure Pt.Sm (m : Pt) : Prop where
  p : m.pts.length ≤ 40
  h : ∀ a ∈ m.hands, a.length ≤ 41
  c : ∀ n, m.twin = some n → n < 10 ^ 30
theorem isN : ∀ v ∈ ([.int 2, .int 3, .int 5, .int 2, .int 9, .int 3, .int 2, .int 40] : List V), ∃ n : Int, v = .int n ∧ 0 < n ∧ n ≤ 40 := by
  intro v h
  simp only [List.mem_cons, List.not_mem_nil, or_false] at h
  rcases h with rfl | rfl | rfl | rfl | rfl | rfl | rfl | rfl <;> exact ⟨_, rfl, by decide, by decide⟩
theorem isN2 : ∀ v ∈ ([.int 9, .int 99, .int 999, .int 9999] : List V), ∃ n : Int, v = .int n ∧ 0 < n ∧ n ≤ 9999 := by
  intro v h
  simp only [List.mem_cons, List.not_mem_nil, or_false] at h
  rcases h with rfl | rfl | rfl | rfl <;> exact ⟨_, rfl, by decide, by decide⟩
theorem isN3 : ∀ v ∈ ([.int 8, .int 98, .int 998, .int (10 ^ Int.toNat 29)] : List V), ∃ n : Int, v = .int n ∧ 0 < n ∧ n ≤ 10 ^ 29 := by
  intro v h
  simp only [List.mem_cons, List.not_mem_nil, or_false] at h
  rcases h with rfl | rfl | rfl | rfl <;> exact ⟨_, rfl, by decide, by decide⟩
theorem nw_back {H H' : Hp} {p q : Addr} (w : Nw H' q) (m : Mx H p H') (pl : PL H' p) : Nw H q := ⟨by
  obtain ⟨n, lm, _⟩ := pl.ex
  cases e : H q with
  | none => rfl
  | some o =>
    by_cases hq : q = p
    · subst hq
      have := lm.lm
      rw [w.nw] at this
      cases this
    · have := m.mx _ _ hq e
      rw [w.nw] at this
      cases this⟩
def sp_law_parts : Sp := fun vs H Q _ => ∃ (p : Addr), vs = [.ref p] ∧ PL H p ∧ ∀ q m H', Nw H q → PtL H' q m → m.Ok → m.Sm → Mu H p H' → PL H' p → Q (.ref q) H'
theorem ok_law_parts (T : Txt K mg w) : ∃ fd, FunD K d_law_parts.name d_law_parts.qual d_law_parts.params d_law_parts.body d_law_parts.scope (d_law_parts.dvs K) (d_law_parts.kws K) (He.fAd K d_law_parts.at_) fd ∧ FnOk P w K mg base C8.CX0 4 (He.fAd K d_law_parts.at_) fd ["pool"] sp_law_parts := by
  obtain ⟨fd, F⟩ := T.f_law_parts
  refine ⟨fd, F, ?_⟩
  have sc := (show FnScope ["pool", "most", "letters", "k", "number", "tens", "hands", "age", "twin"] ["pool"] (defScope s_law_parts) from ⟨rfl, rfl, rfl, by decide +kernel, rfl, by decide +kernel, by decide +kernel⟩)
  refine F.ok sc (fun vs H Q E h => ?_) (fun cdv A outer s H vs Q E hr h => ?_)
  · obtain ⟨p, rfl, pl, k⟩ := h; rfl
  obtain ⟨p, rfl, pl, k⟩ := h
  have hu := hr.units
  refine ⟨_, PSs.nox (pss_cons (ps_set (i := 1) sc.nd rfl (by first | exact Or.inl rfl | exact Or.inr rfl) (pe_ix (U.xu (K := K)) (pe_lst (pa_cons pe_int (pa_cons pe_int (pa_cons pe_int (pa_cons pe_int (pa_cons pe_int (pa_cons pe_int (pa_cons pe_int (pa_cons pe_int pa_nil))))))))) (C8.pe_c (c_law_take T) hr (by decide) rfl (pa_cons (pv 0) (pa_cons pe_int pa_nil))) (fun _ _ => rfl)))
  (pss_cons (ps_set (i := 2) sc.nd rfl (by first | exact Or.inl rfl | exact Or.inr rfl) (U.pe_s (l := []) (by decide +kernel)))
  (pss_cons (ps_for PassesOwn.never rfl (pi_range1 (by rfl) T.b_range (pa_cons (pe_op (U.ou_add (K := K)) pe_int (C8.pe_c (c_law_take T) hr (by decide) rfl (pa_cons (pv 0) (pa_cons pe_int pa_nil)))) pa_nil)) (pg_name (i := 3) sc.nd rfl (by first | exact Or.inl rfl | exact Or.inr rfl)) (pss_one (ps_set (i := 2) sc.nd rfl (by first | exact Or.inl rfl | exact Or.inr rfl) (pe_op (U.ou_add (K := K)) (pv 2) (pe_ix (U.xu (K := K)) (U.pe_s (l := [97, 98, 99, 100, 101, 102, 103, 104, 105, 106, 107, 108, 109, 110, 111, 112, 113, 114, 115, 116, 117, 118, 119, 120, 121, 122]) (by decide +kernel)) (C8.pe_c (c_law_take T) hr (by decide) rfl (pa_cons (pv 0) (pa_cons pe_int pa_nil))) (fun _ _ => rfl))))))
  (pss_cons (ps_set (i := 4) sc.nd rfl (by first | exact Or.inl rfl | exact Or.inr rfl) (pe_op (U.ou_add (K := K)) pe_int (C8.pe_c (c_law_take T) hr (by decide) rfl (pa_cons (pv 0) (pa_cons (pe_ix (U.xu (K := K)) (pe_lst (pa_cons pe_int (pa_cons pe_int (pa_cons pe_int (pa_cons pe_int pa_nil))))) (C8.pe_c (c_law_take T) hr (by decide) rfl (pa_cons (pv 0) (pa_cons pe_int pa_nil))) (fun _ _ => rfl)) pa_nil)))))
  (pss_cons (ps_set (i := 5) sc.nd rfl (by first | exact Or.inl rfl | exact Or.inr rfl) (U.pe_s (l := []) (by decide +kernel)))
  (C8.pss_cut (ps_if (pt_cmpR (U.ou_eq (K := K) hu) (C8.pe_c (c_law_take T) hr (by decide) rfl (pa_cons (pv 0) (pa_cons pe_int pa_nil))) pe_int (nomark _)) (pss_one (ps_set (i := 5) sc.nd rfl (by first | exact Or.inl rfl | exact Or.inr rfl) (C8.pe_c (c_law_figures T) hr (by decide) rfl (pa_cons (pv 0) (pa_cons (pv 1) pa_nil))))) pss_nil)
  (pss_cons (ps_set (i := 6) sc.nd rfl (by first | exact Or.inl rfl | exact Or.inr rfl) (pe_lst pa_nil))
  (pss_cons (ps_for PassesOwn.never rfl (pi_range1 (by rfl) T.b_range (pa_cons (C8.pe_c (c_law_take T) hr (by decide) rfl (pa_cons (pv 0) (pa_cons pe_int pa_nil))) pa_nil)) (pg_name (i := 3) sc.nd rfl (by first | exact Or.inl rfl | exact Or.inr rfl)) (pss_one (ps_expr (pe_bm PySem.F.plainAttrs_list PySem.F.slot_list_append PySem.F.type_list_append mt_append (pv 6) (pa_cons (C8.pe_c (c_law_maker T) hr (by decide) rfl (pa_cons (pv 0) (pa_cons (pv 1) pa_nil))) pa_nil)))))
  (pss_cons (ps_set (i := 7) sc.nd rfl (by first | exact Or.inl rfl | exact Or.inr rfl) pe_non)
  (C8.pss_cut (ps_if (pt_cmpR (U.ou_eq (K := K) hu) (C8.pe_c (c_law_take T) hr (by decide) rfl (pa_cons (pv 0) (pa_cons pe_int pa_nil))) pe_int (nomark _)) (pss_one (ps_set (i := 7) sc.nd rfl (by first | exact Or.inl rfl | exact Or.inr rfl) (pe_op (U.ou_add (K := K)) pe_int (C8.pe_c (c_law_take T) hr (by decide) rfl (pa_cons (pv 0) (pa_cons pe_int pa_nil)))))) pss_nil)
  (pss_cons (ps_set (i := 8) sc.nd rfl (by first | exact Or.inl rfl | exact Or.inr rfl) pe_non)
  (C8.pss_cut (ps_if (pt_cmpR (U.ou_eq (K := K) hu) (C8.pe_c (c_law_take T) hr (by decide) rfl (pa_cons (pv 0) (pa_cons pe_int pa_nil))) pe_int (nomark _)) (pss_one (ps_set (i := 8) sc.nd rfl (by first | exact Or.inl rfl | exact Or.inr rfl) (pe_op (U.ou_add (K := K)) pe_int (C8.pe_c (c_law_take T) hr (by decide) rfl (pa_cons (pv 0) (pa_cons (pe_ix (U.xu (K := K)) (pe_lst (pa_cons pe_int (pa_cons pe_int (pa_cons pe_int (pa_cons (pe_op U.ou_pow pe_int pe_int) pa_nil))))) (C8.pe_c (c_law_take T) hr (by decide) rfl (pa_cons (pv 0) (pa_cons pe_int pa_nil))) (fun _ _ => rfl)) pa_nil)))))) pss_nil)
  (pss_one (ps_ret (pe_lst (pa_cons (pv 2) (pa_cons (pv 4) (pa_cons (pv 5) (pa_cons (pv 6) (pa_cons (pv 7) (pa_cons (pv 8) pa_nil))))))))))))))))))))), ?_⟩
  walk_at "ust0"
  walk_at "ugo"
  refine al_l fun l0 H1 nw0 ex0 lm0 => ?_
  walk_at "ugo"
  intro r H2 hr m2 p2
  walk_at "ugo"
  obtain ⟨v, hv, ev⟩ := pick (xs := [.int 2, .int 3, .int 5, .int 2, .int 9, .int 3, .int 2, .int 40]) (r := r) (by simp; omega)
  obtain ⟨most, rfl, hm0, hm1⟩ := isN v hv
  refine ix_is ev ?_
  walk_at "ugo"
  intro r3 H3 hr3 m3 p3
  walk_at "ugo"
  refine for_r (n := ((1 : Int) + (r3 : Int)).toNat) (i := 0) (fun i σ H' => (∃ (a : List Nat) (o : Option V), σ = [some (.ref p), some (.int most), some (tx a), o, none, none, none, none, none] ∧ a.length = i ∧ ∀ c ∈ a, Lt c) ∧ Mx H p H' ∧ PL H' p) ⟨⟨[], _, rfl, rfl, fun c hc => by cases hc⟩, inferInstance, p3⟩ (fun i σ H' hi h => ?_) (fun σ H' h => ?_)
  · obtain ⟨⟨a, o, rfl, hl, ha⟩, mx, pl'⟩ := h
    walk_at "ugo"
    intro t H2 ht m2 p2
    have ht : t < 26 := by omega
    walk_at "ugo"
    refine ix_sg (by walk_at "usd") (at_lets ht) ?_
    walk_at "ugo"
    exact ⟨⟨a ++ [97 + t], _, rfl, by simp [hl], fun c hc => by
      rcases List.mem_append.mp hc with hc | hc
      · exact ha c hc
      · rw [List.mem_singleton.mp hc]; exact ⟨by omega, by omega⟩⟩, inferInstance, p2⟩
  obtain ⟨⟨lets, o, rfl, hl, ha⟩, mx, pl'⟩ := h
  have hname : Name lets := ⟨⟨by omega, by omega⟩, ha⟩
  walk_at "ugo"
  refine al_l fun l5 H5 nw5 ex5 lm5 => ?_
  walk_at "ugo"
  intro r6 H6 hr6 m6 p6
  walk_at "ugo"
  obtain ⟨v, hv, ev⟩ := pick (xs := [.int 9, .int 99, .int 999, .int 9999]) (r := r6) (by simp; omega)
  obtain ⟨n7, rfl, hn0, hn1⟩ := isN2 v hv
  refine ix_is ev ?_
  walk_at "ugo"
  intro num H7 hnum m7 p7
  walk_at "ugo"
  have e7 : (1 : Int) + (num : Int) = ((1 + num : Nat) : Int) := by omega
  rw [e7]
  walk_at "ugo"
  have mx7 : Mx H p H7 := inferInstance
  refine cut_ (fun σ H' => ∃ pts : List Nat, σ = [some (.ref p), some (.int most), some (tx lets), o, some (.int ((1 + num : Nat) : Int)), some (tx pts), none, none, none] ∧ (pts = [] ∨ Figs pts) ∧ pts.length ≤ 40 ∧ Mx H p H' ∧ PL H' p) ?_ (fun σ H' h => ?_)
  · walk_at "ugo"
    intro r8 H8 hr8 m8 p8
    walk_at "ugo"
    refine br2 (fun h => ?_) (fun h => ?_)
    · walk_at "ugo"
      intro a H9 ha9 hl9 m9 p9
      walk_at "ugo"
      exact ⟨a, rfl, .inr ha9, by omega, inferInstance, p9⟩
    · walk_at "ugo"
      exact ⟨[], rfl, .inl rfl, by simp, inferInstance, p8⟩
  obtain ⟨pts, rfl, hpts, hpl, mx8, pl8⟩ := h
  walk_at "ugo"
  refine al_l fun hh H9 nw9 ex9 lm9 => ?_
  walk_at "ugo"
  intro r10 H10 hr10 m10 p10
  walk_at "ugo"
  have mx9 : Mx H p H' := mx8
  refine for_r (n := (r10 : Int).toNat) (i := 0) (fun i σ H'' => (∃ (ms : List (List Nat)) (o : Option V), σ = [some (.ref p), some (.int most), some (tx lets), o, some (.int ((1 + num : Nat) : Int)), some (tx pts), some (.ref hh), none, none] ∧ ms.length = i ∧ (∀ a ∈ ms, Maker a ∧ a.length ≤ 41) ∧ LM H'' hh (ms.map tx)) ∧ Mx H p H'' ∧ PL H'' p) ⟨⟨[], _, rfl, rfl, (fun c hc => by cases hc), (inferInstance : LM H10 hh [])⟩, inferInstance, p10⟩ (fun i σ H'' hi h => ?_) (fun σ H'' h => ?_)
  · obtain ⟨⟨ms, o, rfl, hl, hms, lmh⟩, mx, pl'⟩ := h
    walk_at "ugo"
    intro a H11 ha11 hl11 m11 p11
    walk_at "ugo"
    refine mu_l' fun H12 m12 l12 => ?_
    walk_at "ugo"
    exact ⟨⟨ms ++ [a], _, rfl, by simp [hl], fun c hc => by
      rcases List.mem_append.mp hc with hc | hc
      · exact hms c hc
      · rw [List.mem_singleton.mp hc]; exact ⟨ha11, by omega⟩, by rw [List.map_append]; exact l12⟩, inferInstance, inferInstance⟩
  obtain ⟨⟨ms, o2, rfl, hml, hms, lmh⟩, mx11, pl11⟩ := h
  walk_at "ugo"
  refine cut_ (fun σ H' => ∃ age : Option Nat, σ = [some (.ref p), some (.int most), some (tx lets), o2, some (.int ((1 + num : Nat) : Int)), some (tx pts), some (.ref hh), some (oV age), none] ∧ (∀ n, age = some n → 1000 ≤ n ∧ n ≤ 2999) ∧ LM H' hh (ms.map tx) ∧ Mx H p H' ∧ PL H' p) ?_ (fun σ H13 h => ?_)
  · walk_at "ugo"
    intro r8 H8 hr8 m8 p8
    walk_at "ugo"
    refine br2 (fun h => ?_) (fun h => ?_)
    · walk_at "ugo"
      intro a H9 ha9 m9 p9
      walk_at "ugo"
      exact ⟨some (1000 + a), by rw [show (1000 : Int) + (a : Int) = ((1000 + a : Nat) : Int) by omega]; rfl, (fun n hn => by cases hn; omega), inferInstance, inferInstance, p9⟩
    · walk_at "ugo"
      exact ⟨none, rfl, (fun n hn => by cases hn), inferInstance, inferInstance, p8⟩
  obtain ⟨age, rfl, hage, lm13, mx13, pl13⟩ := h
  walk_at "ugo"
  refine cut_ (fun σ H' => ∃ twin : Option Nat, σ = [some (.ref p), some (.int most), some (tx lets), o2, some (.int ((1 + num : Nat) : Int)), some (tx pts), some (.ref hh), some (oV age), some (oV twin)] ∧ (∀ n, twin = some n → 2 ≤ n ∧ n < 10 ^ 29 + 2) ∧ LM H' hh (ms.map tx) ∧ Mx H p H' ∧ PL H' p) ?_ (fun σ H14 h => ?_)
  · walk_at "ugo"
    intro r8 H8 hr8 m8 p8
    walk_at "ugo"
    refine br2 (fun h => ?_) (fun h => ?_)
    · walk_at "ugo"
      refine al_l fun l5 H5 nw5 ex5 lm5 => ?_
      walk_at "ugo"
      intro r6 H6 hr6 m6 p6
      walk_at "ugo"
      obtain ⟨v, hv, ev⟩ := pick (xs := [.int 8, .int 98, .int 998, .int (10 ^ Int.toNat 29)]) (r := r6) (by simp; omega)
      obtain ⟨n7, rfl, hn0, hn1⟩ := isN3 v hv
      refine ix_is ev ?_
      walk_at "ugo"
      intro a H9 ha9 m9 p9
      walk_at "ugo"
      exact ⟨some (2 + a), by rw [show (2 : Int) + (a : Int) = ((2 + a : Nat) : Int) by omega]; rfl, (fun n hn => by cases hn; omega), inferInstance, inferInstance, p9⟩
    · walk_at "ugo"
      exact ⟨none, rfl, (fun n hn => by cases hn), inferInstance, inferInstance, p8⟩
  obtain ⟨twin, rfl, htwin, lm14, mx14, pl14⟩ := h
  walk_at "ugo"
  refine al_l fun q H15 nw15 ex15 lm15 => ?_
  refine k q ⟨lets, 1 + num, pts, ms, age, twin⟩ H15 (nw_back nw15 mx14 pl14) ⟨hh, lm15, inferInstance, (ne_of_none lm14.lm nw15.nw).symm⟩ ⟨hname, ⟨by dsimp only; omega, by dsimp only; omega⟩, hpts, by dsimp only; omega, by dsimp only; omega, fun a ha => ⟨(hms a ha).1, by have := (hms a ha).2; omega⟩, hage, fun n hn => by have := htwin n hn; omega⟩ ⟨hpl, fun a ha => (hms a ha).2, fun n hn => by have := htwin n hn; omega⟩ mu_pl inferInstance
theorem c_law_parts (T : Txt K mg w) : C8.Cal P w K mg base 4 "_law_parts" sp_law_parts [] := by
  obtain ⟨fd, F, ok⟩ := ok_law_parts (P := P) (w := w) (base := base) T
  exact cal_n F T.g_law_parts (F.bindsN fun _ _ _ _ _ _ us hl => match us, hl with | [_], _ => rfl) ok
end
end T

namespace T
open PySem PySem.Spec PyProof.Rows L2 U
open SX (S)
section
variable {P : Program} {w : World} {K : PySem.W.Frag} {mg : PySem.Str → Option Value} {base : Heap}
theorem nw_ex {H0 H1 : Hp} {p : Addr} (w : Nw H1 p) (e : Ex H0 H1) : Nw H0 p := ⟨by
  cases h : H0 p with
  | none => rfl
  | some o =>
    have := e.ex _ _ h
    rw [w.nw] at this
    cases this⟩
/-! _law_mark -/
def sp_law_mark (K : PySem.W.Frag) : Sp := fun vs H Q _ => ∃ (q : Addr) (m : Pt), vs = [.ref q] ∧ PtL H q m ∧ m.Ok ∧ ∀ x H', Nw H x → Ex H H' → MkO K H' x m → Q (.ref x) H'
theorem ok_law_mark (T : Txt K mg w) : ∃ fd, FunD K d_law_mark.name d_law_mark.qual d_law_mark.params d_law_mark.body d_law_mark.scope (d_law_mark.dvs K) (d_law_mark.kws K) (He.fAd K d_law_mark.at_) fd ∧ FnOk P w K mg base C8.CX0 6 (He.fAd K d_law_mark.at_) fd ["parts"] (sp_law_mark K) := by
  obtain ⟨fd, F⟩ := T.f_law_mark
  refine ⟨fd, F, ?_⟩
  have sc := (show FnScope ["parts"] ["parts"] (defScope s_law_mark) from ⟨rfl, rfl, rfl, by decide +kernel, rfl, by decide +kernel, by decide +kernel⟩)
  refine F.ok sc (fun vs H Q E h => ?_) (fun cdv A outer s H vs Q E hr h => ?_)
  · obtain ⟨q, m, rfl, pt, ok, k⟩ := h; rfl
  obtain ⟨q, m, rfl, pt, ok, k⟩ := h
  have hu := hr.units
  refine ⟨_, PSs.nox (pss_one (ps_ret (U.pe_mkk (c_Mark_2_points_makers_year_copy T) hr (by decide) rfl (pa_cons (pe_ix (U.xu (K := K)) (pv 0) pe_int (fun _ _ => rfl)) (pa_cons (pe_ix (U.xu (K := K)) (pv 0) pe_int (fun _ _ => rfl)) pa_nil)) (pk_cons (pe_ix (U.xu (K := K)) (pv 0) pe_int (fun _ _ => rfl)) (pk_cons (pe_callTy (U.cu_lst (K := K)) (by rfl) T.b_list (by decide +kernel) (pa_cons (pe_ix (U.xu (K := K)) (pv 0) pe_int (fun _ _ => rfl)) pa_nil)) (pk_cons (pe_ix (U.xu (K := K)) (pv 0) pe_int (fun _ _ => rfl)) (pk_cons (pe_ix (U.xu (K := K)) (pv 0) pe_int (fun _ _ => rfl)) pk_nil))))))), ?_⟩
  walk_at "ust0"
  obtain ⟨h, lm, lh, ne⟩ := pt.ex
  walk_at "ugo"
  refine ix_is (v := tx m.lets) (atI_nat (j := 0) rfl) ?_
  walk_at "ugo"
  refine ix_is (v := .int (m.num : Int)) (atI_nat (j := 1) rfl) ?_
  walk_at "ugo"
  refine ix_is (v := tx m.pts) (atI_nat (j := 2) rfl) ?_
  walk_at "ugo"
  refine ix_is (v := .ref h) (atI_nat (j := 3) rfl) ?_
  walk_at "ugo"
  refine al_l fun l H1 nw1 ex1 lm1 => ?_
  walk_at "ugo"
  refine ix_is (v := oV m.age) (atI_nat (j := 4) rfl) ?_
  walk_at "ugo"
  refine ix_is (v := oV m.twin) (atI_nat (j := 5) rfl) ?_
  walk_at "ugo"
  refine mk_i fun x dx H2 nw2 ex2 ir2 => ?_
  refine ⟨x, dx, l, m, rfl, ir2, inferInstance, ok, fun t H3 mi3 ir3 tr3 => ⟨rfl, ?_⟩⟩
  exact k x H3 (nw_ex nw2 ex1) ⟨Et.et⟩ ⟨dx, t, ir3, tr3⟩
theorem c_law_mark (T : Txt K mg w) : C8.Cal P w K mg base 6 "_law_mark" (sp_law_mark K) [] := by
  obtain ⟨fd, F, ok⟩ := ok_law_mark (P := P) (w := w) (base := base) T
  exact cal_n F T.g_law_mark (F.bindsN fun _ _ _ _ _ _ us hl => match us, hl with | [_], _ => rfl) ok
/-! _law_text -/
structure Pt.W (m : Pt) : Prop where
  l : m.lets.length ≤ 100
  n : m.num < 10 ^ 59
  p : m.pts.length ≤ 100
  h : m.hands.length ≤ 6
  hs : ∀ a ∈ m.hands, a.length ≤ 100
  y : ∀ n, m.age = some n → n < 10 ^ 59
  c : ∀ n, m.twin = some n → n < 10 ^ 59
def handT (l : List (List Nat)) : List Nat := l.flatMap fun a => 32 :: a
def Pt.t1 (m : Pt) : List Nat := m.lets ++ nm m.num ++ (if m.pts = [] then [] else 46 :: m.pts)
def ageT : Option Nat → List Nat | none => [] | some n => 32 :: nm n
def twinT : Option Nat → List Nat | none => [] | some n => 32 :: 99 :: 46 :: nm n
def Pt.text2 (m : Pt) : List Nat := m.t1 ++ handT m.hands ++ ageT m.age ++ twinT m.twin
theorem join_cons (w : List Nat) (ws : List (List Nat)) : TL.joinL [32] (w :: ws) = w ++ handT ws := by
  induction ws generalizing w with
  | nil => simp [TL.joinL, handT]
  | cons v ws ih =>
    show w ++ ([32] ++ TL.joinL [32] (v :: ws)) = _
    rw [ih v]
    simp [handT]
theorem text_eq (m : Pt) : m.text = m.text2 := by
  obtain ⟨lets, num, pts, hands, age, twin⟩ := m
  unfold Pt.text Pt.words Pt.text2 Pt.t1
  simp only [List.cons_append, List.nil_append, List.append_assoc]
  rw [join_cons]
  cases age <;> cases twin <;> simp [handT, ageT, twinT]
theorem handT_len {l : List (List Nat)} {n : Nat} (h : ∀ a ∈ l, a.length ≤ n) : (handT l).length ≤ l.length * (n + 1) := by
  induction l with
  | nil => simp [handT]
  | cons a l ih =>
    have h1 := h a (List.mem_cons_self ..)
    have h2 := ih fun b hb => h b (List.mem_cons_of_mem _ hb)
    have e : handT (a :: l) = (32 :: a) ++ handT l := rfl
    rw [e, List.length_append, List.length_cons, List.length_cons, Nat.succ_mul]
    omega
theorem text_len {m : Pt} (h : m.W) : m.text2.length ≤ 1200 := by
  have h1 := h.l
  have h2 := nm_len (n := m.num) (by have := h.n; omega)
  have h3 := h.p
  have h4 := handT_len h.hs
  have h5 := h.h
  have h6 : (ageT m.age).length ≤ 61 := by
    cases e : m.age with
    | none => simp [ageT]
    | some n => have := nm_len (n := n) (by have := h.y n e; omega); simp [ageT]; omega
  have h7 : (twinT m.twin).length ≤ 63 := by
    cases e : m.twin with
    | none => simp [twinT]
    | some n => have := nm_len (n := n) (by have := h.c n e; omega); simp [twinT]; omega
  have h8 : (if m.pts = [] then [] else 46 :: m.pts).length ≤ 101 := by split <;> simp <;> omega
  unfold Pt.text2 Pt.t1
  simp only [List.length_append]
  omega
def sp_law_text : Sp := fun vs H Q _ => ∃ (q : Addr) (m : Pt), vs = [.ref q] ∧ PtL H q m ∧ m.W ∧ Q (tx m.text2) H
theorem ok_law_text (T : Txt K mg w) : ∃ fd, FunD K d_law_text.name d_law_text.qual d_law_text.params d_law_text.body d_law_text.scope (d_law_text.dvs K) (d_law_text.kws K) (He.fAd K d_law_text.at_) fd ∧ FnOk P w K mg base C8.CX0 1 (He.fAd K d_law_text.at_) fd ["parts"] sp_law_text := by
  obtain ⟨fd, F⟩ := T.f_law_text
  refine ⟨fd, F, ?_⟩
  have sc := (show FnScope ["parts", "signs", "maker"] ["parts"] (defScope s_law_text) from ⟨rfl, rfl, rfl, by decide +kernel, rfl, by decide +kernel, by decide +kernel⟩)
  refine F.ok sc (fun vs H Q E h => ?_) (fun cdv A outer s H vs Q E hr h => ?_)
  · obtain ⟨q, m, rfl, pt, ok, k⟩ := h; rfl
  obtain ⟨q, m, rfl, pt, ok, k⟩ := h
  have hu := hr.units
  refine ⟨_, PSs.nox (pss_cons (ps_set (i := 1) sc.nd rfl (by first | exact Or.inl rfl | exact Or.inr rfl) (pe_op (U.ou_add (K := K)) (pe_ix (U.xu (K := K)) (pv 0) pe_int (fun _ _ => rfl)) (pe_callTy U.cu_str (by rfl) T.b_str (by decide +kernel) (pa_cons (pe_ix (U.xu (K := K)) (pv 0) pe_int (fun _ _ => rfl)) pa_nil))))
  (C8.pss_cut (ps_if (pt_cmpR (U.ou_ne (K := K) hu) (pe_ix (U.xu (K := K)) (pv 0) pe_int (fun _ _ => rfl)) (U.pe_s (l := []) (by decide +kernel)) (nomark _)) (pss_one (ps_set (i := 1) sc.nd rfl (by first | exact Or.inl rfl | exact Or.inr rfl) (pe_op (U.ou_add (K := K)) (pe_op (U.ou_add (K := K)) (pv 1) (U.pe_s (l := [46]) (by decide +kernel))) (pe_ix (U.xu (K := K)) (pv 0) pe_int (fun _ _ => rfl))))) pss_nil)
  (pss_cons (ps_for PassesOwn.never rfl (U.pi_list' (K := K) (pe_ix (U.xu (K := K)) (pv 0) pe_int (fun _ _ => rfl))) (pg_name (i := 2) sc.nd rfl (by first | exact Or.inl rfl | exact Or.inr rfl)) (pss_one (ps_set (i := 1) sc.nd rfl (by first | exact Or.inl rfl | exact Or.inr rfl) (pe_op (U.ou_add (K := K)) (pe_op (U.ou_add (K := K)) (pv 1) (U.pe_s (l := [32]) (by decide +kernel))) (pv 2)))))
  (C8.pss_cut (ps_if (pt_cmpR U.ou_isn (pe_ix (U.xu (K := K)) (pv 0) pe_int (fun _ _ => rfl)) pe_non (nomark _)) (pss_one (ps_set (i := 1) sc.nd rfl (by first | exact Or.inl rfl | exact Or.inr rfl) (pe_op (U.ou_add (K := K)) (pe_op (U.ou_add (K := K)) (pv 1) (U.pe_s (l := [32]) (by decide +kernel))) (pe_callTy U.cu_str (by rfl) T.b_str (by decide +kernel) (pa_cons (pe_ix (U.xu (K := K)) (pv 0) pe_int (fun _ _ => rfl)) pa_nil))))) pss_nil)
  (C8.pss_cut (ps_if (pt_cmpR U.ou_isn (pe_ix (U.xu (K := K)) (pv 0) pe_int (fun _ _ => rfl)) pe_non (nomark _)) (pss_one (ps_set (i := 1) sc.nd rfl (by first | exact Or.inl rfl | exact Or.inr rfl) (pe_op (U.ou_add (K := K)) (pe_op (U.ou_add (K := K)) (pv 1) (U.pe_s (l := [32, 99, 46]) (by decide +kernel))) (pe_callTy U.cu_str (by rfl) T.b_str (by decide +kernel) (pa_cons (pe_ix (U.xu (K := K)) (pv 0) pe_int (fun _ _ => rfl)) pa_nil))))) pss_nil)
  (pss_one (ps_ret (pv 1)))))))), ?_⟩
  walk_at "ust0"
  obtain ⟨h, lm, lh, ne⟩ := pt.ex
  have b1 := ok.l
  have b2 := nm_len (n := m.num) (by have := ok.n; omega)
  have b2' : m.num < 10 ^ 60 := by have := ok.n; omega
  have b3 := ok.p
  have b4 := handT_len ok.hs
  have b5 := ok.h
  have b8 : m.t1.length ≤ 262 := by
    unfold Pt.t1
    simp only [List.length_append]
    split <;> simp <;> omega
  walk_at "ugo"
  refine ix_is (v := tx m.lets) (atI_nat (j := 0) rfl) ?_
  walk_at "ugo"
  refine ix_is (v := .int (m.num : Int)) (atI_nat (j := 1) rfl) ?_
  walk_at "ugo"
  refine cut_ (fun σ H' => σ = [some (.ref q), some (tx m.t1), none] ∧ H' = H) ?_ (fun σ H' e => ?_)
  · walk_at "ugo"
    refine ix_is (v := tx m.pts) (atI_nat (j := 2) rfl) ?_
    walk_at "ugo"
    refine br2 (fun h => ?_) (fun h => ?_)
    · walk_at "ugo"
      exact ⟨by simp [Pt.t1, h], rfl⟩
    · walk_at "ugo"
      refine ix_is (v := tx m.pts) (atI_nat (j := 2) rfl) ?_
      walk_at "ugo"
      exact ⟨by simp [Pt.t1, h], rfl⟩
  obtain ⟨rfl, rfl⟩ := e
  walk_at "ugo"
  refine ix_is (v := .ref h) (atI_nat (j := 3) rfl) ?_
  walk_at "ugo"
  refine for_l (xs := m.hands.map tx) (fun i σ H'' => (∃ o, σ = [some (.ref q), some (tx (m.t1 ++ handT (m.hands.take i))), o]) ∧ H'' = H') ⟨⟨none, by simp [handT]⟩, rfl⟩ (fun i σ H'' hi h => ?_) (fun i x σ H'' hi hx h => ?_) (fun σ H'' h => ?_)
  · obtain ⟨_, rfl⟩ := h
    exact (inferInstance : LR K H'' _ _).lr
  · obtain ⟨⟨o, rfl⟩, rfl⟩ := h
    rw [List.getElem?_map] at hx
    cases e : m.hands[i]? with
    | none => rw [e] at hx; cases hx
    | some a =>
      rw [e] at hx
      cases hx
      have e2 : m.hands.take (i + 1) = m.hands.take i ++ [a] := by rw [List.take_succ, e]; rfl
      have b9 : (handT (m.hands.take i)).length ≤ 606 := by
        have h1 := handT_len (l := m.hands.take i) (n := 100) fun a ha => ok.hs a (List.mem_of_mem_take ha)
        have h2 := List.length_take_le i m.hands
        have h3 := List.length_take_le' i m.hands
        omega
      have b10 := ok.hs a (List.mem_of_getElem? e)
      walk_at "ugo"
      exact ⟨⟨some (tx a), by rw [e2]; simp [handT]⟩, rfl⟩
  obtain ⟨⟨o, rfl⟩, rfl⟩ := h
  rw [List.length_map, List.take_length]
  walk_at "ugo"
  refine cut_ (fun σ H' => σ = [some (.ref q), some (tx (m.t1 ++ handT m.hands ++ ageT m.age)), o] ∧ H' = H'') ?_ (fun σ H' e => ?_)
  · walk_at "ugo"
    refine ix_is (v := oV m.age) (atI_nat (j := 4) rfl) ?_
    cases e : m.age with
    | none =>
      rw [show oV none = V.non from rfl]
      walk_at "ugo"
      exact ⟨by simp [ageT], rfl⟩
    | some y =>
      have hy := ok.y y e
      have hy2 : y < 10 ^ 60 := by omega
      have hl := nm_len hy2
      rw [show oV (some y) = V.int (y : Int) from rfl]
      walk_at "ugo"
      refine ix_is (v := .int (y : Int)) (atI_nat (j := 4) (by rw [e]; rfl)) ?_
      walk_at "ugo"
      exact ⟨by simp [ageT], rfl⟩
  obtain ⟨rfl, rfl⟩ := e
  have h6 : (ageT m.age).length ≤ 61 := by
    cases e : m.age with
    | none => simp [ageT]
    | some n => have := nm_len (n := n) (by have := ok.y n e; omega); simp [ageT]; omega
  walk_at "ugo"
  refine cut_ (fun σ H'' => σ = [some (.ref q), some (tx (m.t1 ++ handT m.hands ++ ageT m.age ++ twinT m.twin)), o] ∧ H'' = H') ?_ (fun σ H'' e => ?_)
  · walk_at "ugo"
    refine ix_is (v := oV m.twin) (atI_nat (j := 5) rfl) ?_
    cases e : m.twin with
    | none =>
      rw [show oV none = V.non from rfl]
      walk_at "ugo"
      exact ⟨by simp [twinT], rfl⟩
    | some y =>
      have hy := ok.c y e
      have hy2 : y < 10 ^ 60 := by omega
      have hl := nm_len hy2
      rw [show oV (some y) = V.int (y : Int) from rfl]
      walk_at "ugo"
      refine ix_is (v := .int (y : Int)) (atI_nat (j := 5) (by rw [e]; rfl)) ?_
      walk_at "ugo"
      exact ⟨by simp [twinT], rfl⟩
  obtain ⟨rfl, rfl⟩ := e
  walk_at "ugo"
  exact k
theorem c_law_text (T : Txt K mg w) : C8.Cal P w K mg base 1 "_law_text" sp_law_text [] := by
  obtain ⟨fd, F, ok⟩ := ok_law_text (P := P) (w := w) (base := base) T
  exact cal_n F T.g_law_text (F.bindsN fun _ _ _ _ _ _ us hl => match us, hl with | [_], _ => rfl) ok
end
end T

namespace T
open PySem PySem.Spec PyProof.Rows L2 U
open SX (S)
section
variable {P : Program} {w : World} {K : PySem.W.Frag} {mg : PySem.Str → Option Value} {base : Heap}
theorem cut_to {xs : List V} {r : Nat} : cutV xs none (some (r : Int)) = xs.take r := by
  unfold cutV
  rw [HT.sIx_nat]
  simp [HT.sIx]
theorem cut_fr {xs : List V} {r : Nat} : cutV xs (some (r : Int)) none = xs.drop r := by
  unfold cutV
  rw [HT.sIx_nat]
  show (xs.drop (min r xs.length)).take (xs.length - min r xs.length) = xs.drop r
  rw [List.take_of_length_le (by rw [List.length_drop]; omega)]
  by_cases h : r ≤ xs.length
  · rw [Nat.min_eq_left h]
  · rw [Nat.min_eq_right (by omega), List.drop_of_length_le (Nat.le_refl _), List.drop_of_length_le (by omega)]
theorem val_lt : ∀ (a : List Nat), (∀ c ∈ a, Fg c) → NumText.digitsVal a < 10 ^ a.length := by
  intro a
  induction hn : a.length generalizing a with
  | zero =>
    intro _
    have : a = [] := List.length_eq_zero_iff.mp hn
    subst this
    decide
  | succ n ih =>
    intro h
    obtain ⟨b, c, rfl⟩ : ∃ b c, a = b ++ [c] := ⟨a.dropLast, a.getLast (by rintro rfl; cases hn), (List.dropLast_concat_getLast _).symm⟩
    rw [List.length_append, List.length_singleton] at hn
    have h1 := ih b (by omega) fun d hd => h d (List.mem_append_left _ hd)
    have h2 := h c (List.mem_append_right _ (List.mem_singleton.mpr rfl))
    rw [NumText.digitsVal_snoc, Nat.pow_succ]
    generalize 10 ^ n = t at h1 ⊢
    omega
theorem int_t {H : Hp} {Q : VK} {a : List Nat} (h : ∀ c ∈ a, Fg c) (hne : a ≠ []) (hl : a.length ≤ 600) (k : Q (.int ((NumText.digitsVal a : Nat) : Int)) H) : uInt [.str (S a)] H Q :=
  .inr ⟨S a, _, rfl, SX.int_S (List.all_eq_true.mpr fun c hc => by have := h c hc; simp; exact this) hne (by omega), by rw [SX.S_len]; omega, k⟩
theorem nm_fig (n : Nat) : ∀ c ∈ nm n, Fg c := fun c hc => TL.numL_digits n c hc
/-- two lists with unlike contents stand apart -/
theorem ne_cont {H : Hp} {a b : Addr} {xs ys : List V} (h1 : LM H a xs) (h2 : LM H b ys) (h : xs ≠ ys) : a ≠ b := by
  rintro rfl
  have := h1.lm.symm.trans h2.lm
  injection this with e
  injection e with e
  exact h e
theorem tx_ne {ms : List (List Nat)} {n : Int} : ms.map tx ≠ [.int n] := by
  intro h
  cases ms with
  | nil => cases h
  | cons a ms => injection h with h _; cases h
theorem ptl_ne {H : Hp} {p q h : Addr} {m : Pt} (pl : PL H p) (l1 : LM H q [tx m.lets, .int (m.num : Int), tx m.pts, .ref h, oV m.age, oV m.twin]) (l2 : LM H h (m.hands.map tx)) : q ≠ p ∧ h ≠ p := by
  obtain ⟨n, lm, _⟩ := pl.ex
  exact ⟨ne_cont l1 lm (by simp), ne_cont l2 lm tx_ne⟩
instance {H H' : Hp} {p q : Addr} {m : Pt} [e : Mu H p H'] [pl : PL H p] [h : PtL H q m] : PtL H' q m := by
  obtain ⟨b, l1, l2, n⟩ := h.ex
  obtain ⟨n1, n2⟩ := ptl_ne pl l1 l2
  exact ⟨b, ⟨e.mu _ _ n1 l1.lm⟩, ⟨e.mu _ _ n2 l2.lm⟩, n⟩
/-! near a word -/
def sp_law_near_word : Sp := fun vs H Q _ => ∃ (a : List Nat) (p : Addr), vs = [tx a, .ref p] ∧ PL H p ∧ a.length ≤ 50 ∧ ∀ b H', b.length ≤ 51 → Mu H p H' → PL H' p → Q (tx b) H'
theorem ok_law_near_word (T : Txt K mg w) : ∃ fd, FunD K d_law_near_word.name d_law_near_word.qual d_law_near_word.params d_law_near_word.body d_law_near_word.scope (d_law_near_word.dvs K) (d_law_near_word.kws K) (He.fAd K d_law_near_word.at_) fd ∧ FnOk P w K mg base C8.CX0 2 (He.fAd K d_law_near_word.at_) fd ["word", "pool"] sp_law_near_word := by
  obtain ⟨fd, F⟩ := T.f_law_near_word
  refine ⟨fd, F, ?_⟩
  have sc := (show FnScope ["word", "pool", "more", "kept"] ["word", "pool"] (defScope s_law_near_word) from ⟨rfl, rfl, rfl, by decide +kernel, rfl, by decide +kernel, by decide +kernel⟩)
  refine F.ok sc (fun vs H Q E h => ?_) (fun cdv A outer s H vs Q E hr h => ?_)
  · obtain ⟨a, p, rfl, pl, hl, k⟩ := h; rfl
  obtain ⟨a, p, rfl, pl, hl, k⟩ := h
  have hu := hr.units
  refine ⟨_, PSs.nox (pss_cons (ps_set (i := 2) sc.nd rfl (by first | exact Or.inl rfl | exact Or.inr rfl) (C8.pe_c (c_law_take T) hr (by decide) rfl (pa_cons (pv 1) (pa_cons pe_int pa_nil))))
  (pss_cons (ps_set (i := 3) sc.nd rfl (by first | exact Or.inl rfl | exact Or.inr rfl) (pe_slice (U.su (K := K)) (pv 0) po_none (po_some (C8.pe_c (c_law_take T) hr (by decide) rfl (pa_cons (pv 1) (pa_cons (pe_op (U.ou_add (K := K)) (pe_callB (U.cu_len (K := K)) (by rfl) T.b_len (by decide +kernel) (pa_cons (pv 0) pa_nil)) pe_int) pa_nil))))))
  (pss_cons (ps_if (PW.pt (pw_and (pt_cmpR (U.ou_eq (K := K) hu) (pv 2) pe_int (nomark _)) (pw_and1 (pt_cmpR U.ou_lt (pe_callB (U.cu_len (K := K)) (by rfl) T.b_len (by decide +kernel) (pa_cons (pv 3) pa_nil)) pe_int (nomark _))))) (pss_one (ps_set (i := 3) sc.nd rfl (by first | exact Or.inl rfl | exact Or.inr rfl) (pe_op (U.ou_add (K := K)) (pv 3) (pe_ix (U.xu (K := K)) (U.pe_s (l := [48, 49, 50, 51, 52, 53, 54, 55, 56, 57]) (by decide +kernel)) (C8.pe_c (c_law_take T) hr (by decide) rfl (pa_cons (pv 1) (pa_cons pe_int pa_nil))) (fun _ _ => rfl))))) pss_nil)
  (pss_one (ps_ret (pe_m1 PySem.F.slot_str_rstrip PySem.F.type_str_rstrip U.mu_rst (pv 3) (U.pe_s (l := [48]) (by decide +kernel)))))))), ?_⟩
  walk_at "ust0"
  walk_at "ugo"
  intro r H1 hr m1 p1
  walk_at "ugo"
  intro r2 H2 hr2 m2 p2
  walk_at "ugo"
  refine sl_to (by walk_at "usd") (by omega) ?_
  walk_at "ugo"
  have h1 : (a.take (r2 : Int).toNat).length ≤ 50 := by rw [List.length_take]; omega
  refine br2 (fun h => ?_) (fun h => ?_)
  · walk_at "ugo"
    refine br2 (fun h => ?_) (fun h => ?_)
    · walk_at "ugo"
      intro r3 H3 hr3 m3 p3
      have hr3 : r3 < 10 := by omega
      walk_at "ugo"
      refine ix_sg (by walk_at "usd") (at_figs hr3) ?_
      walk_at "ugo"
      refine rst_le fun c hc => ?_
      rw [List.length_append, List.length_singleton] at hc
      exact k c H3 (by omega) mu_pl p3
    · walk_at "ugo"
      exact rst_le fun c hc => k c H2 (by omega) mu_pl p2
  · walk_at "ugo"
    exact rst_le fun c hc => k c H2 (by omega) mu_pl p2
theorem c_law_near_word (T : Txt K mg w) : C8.Cal P w K mg base 2 "_law_near_word" sp_law_near_word [] := by
  obtain ⟨fd, F, ok⟩ := ok_law_near_word (P := P) (w := w) (base := base) T
  exact cal_n F T.g_law_near_word (F.bindsN fun _ _ _ _ _ _ us hl => match us, hl with | [_, _], _ => rfl) ok
instance {H : Hp} {Q : VK} {E : XK} {p : Addr} {a : List Nat} [h : PL H p] : Go (sp_law_near_word [.str (S a), .ref p] H Q E) (Sd (a.length ≤ 50) (∀ b H', b.length ≤ 51 → Mu H p H' → PL H' p → Q (tx b) H')) := ⟨fun k => ⟨a, p, rfl, h, k.1, k.2⟩⟩
/-! near makers -/
def sp_law_near_makers : Sp := fun vs H Q _ => ∃ (h p : Addr) (ms : List (List Nat)), vs = [.ref h, .ref p] ∧ LM H h (ms.map tx) ∧ PL H p ∧ ms.length ≤ 3 ∧ (∀ a ∈ ms, a ≠ [] ∧ a.length ≤ 50) ∧ ∀ (q : Addr) (ns : List (List Nat)) (H' : Hp), Nw H q → LM H' q (ns.map tx) → ns.length ≤ 4 → (∀ a ∈ ns, a.length ≤ 60) → Mu H p H' → PL H' p → Q (.ref q) H'
theorem ok_law_near_makers (T : Txt K mg w) : ∃ fd, FunD K d_law_near_makers.name d_law_near_makers.qual d_law_near_makers.params d_law_near_makers.body d_law_near_makers.scope (d_law_near_makers.dvs K) (d_law_near_makers.kws K) (He.fAd K d_law_near_makers.at_) fd ∧ FnOk P w K mg base C8.CX0 4 (He.fAd K d_law_near_makers.at_) fd ["hands", "pool"] sp_law_near_makers := by
  obtain ⟨fd, F⟩ := T.f_law_near_makers
  refine ⟨fd, F, ?_⟩
  have sc := (show FnScope ["hands", "pool", "way", "kept", "maker"] ["hands", "pool"] (defScope s_law_near_makers) from ⟨rfl, rfl, rfl, by decide +kernel, rfl, by decide +kernel, by decide +kernel⟩)
  refine F.ok sc (fun vs H Q E h => ?_) (fun cdv A outer s H vs Q E hr h => ?_)
  · obtain ⟨h, p, ms, rfl, lh, pl, l3, hms, k⟩ := h; rfl
  obtain ⟨h, p, ms, rfl, lh, pl, l3, hms, k⟩ := h
  have hu := hr.units
  refine ⟨_, PSs.nox (pss_cons (ps_set (i := 2) sc.nd rfl (by first | exact Or.inl rfl | exact Or.inr rfl) (C8.pe_c (c_law_take T) hr (by decide) rfl (pa_cons (pv 1) (pa_cons pe_int pa_nil))))
  (pss_cons (ps_set (i := 3) sc.nd rfl (by first | exact Or.inl rfl | exact Or.inr rfl) (pe_slice (U.su (K := K)) (pv 0) po_none (po_some (C8.pe_c (c_law_take T) hr (by decide) rfl (pa_cons (pv 1) (pa_cons pe_int pa_nil))))))
  (pss_cons (ps_if (pt_cmpR (U.ou_eq (K := K) hu) (pv 2) pe_int (nomark _)) (pss_one (ps_ret (pv 3))) pss_nil)
  (pss_cons (ps_if (pt_cmpR U.ou_lt (pe_callB (U.cu_len (K := K)) (by rfl) T.b_len (by decide +kernel) (pa_cons (pv 3) pa_nil)) (pe_callB (U.cu_len (K := K)) (by rfl) T.b_len (by decide +kernel) (pa_cons (pv 0) pa_nil)) (nomark _)) (pss_cons (ps_set (i := 4) sc.nd rfl (by first | exact Or.inl rfl | exact Or.inr rfl) (pe_ix (U.xu (K := K)) (pv 0) (pe_callB (U.cu_len (K := K)) (by rfl) T.b_len (by decide +kernel) (pa_cons (pv 3) pa_nil)) (fun _ _ => rfl)))
    (pss_one (ps_ret (pe_op (U.ou_add (K := K)) (pv 3) (pe_lst (pa_cons (pe_op (U.ou_add (K := K)) (pe_ix (U.xu (K := K)) (pv 4) pe_int (fun _ _ => rfl)) (U.pe_orT' (K := K) (C8.pe_c (c_law_near_word T) hr (by decide) rfl (pa_cons (pe_slice (U.su (K := K)) (pv 4) (po_some pe_int) po_none) (pa_cons (pv 1) pa_nil))) (pe_one (U.pe_s (l := [49]) (by decide +kernel))))) pa_nil)))))) pss_nil)
  (pss_cons (ps_if (pt_cmpR U.ou_lt (pe_callB (U.cu_len (K := K)) (by rfl) T.b_len (by decide +kernel) (pa_cons (pv 3) pa_nil)) pe_int (nomark _)) (pss_one (ps_ret (pe_op (U.ou_add (K := K)) (pv 3) (pe_lst (pa_cons (C8.pe_c (c_law_maker T) hr (by decide) rfl (pa_cons (pv 1) (pa_cons pe_int pa_nil))) pa_nil))))) pss_nil)
  (pss_one (ps_ret (pv 3)))))))), ?_⟩
  walk_at "ust0"
  have nhp : Ne' h p := ⟨by
    obtain ⟨n, lm, _⟩ := pl.ex
    exact ne_cont lh lm tx_ne⟩
  have hml : (ms.map tx).length = ms.length := List.length_map ..
  walk_at "ugo"
  intro way H1 hr m1 p1
  walk_at "ugo"
  intro r2 H2 hr2 m2 p2
  walk_at "ugo"
  rw [cut_to, ← List.map_take]
  have mx2 : Mx H p H2 := inferInstance
  refine al_l fun kp H3 nw3 ex3 lm3 => ?_
  have hk1 : (ms.take r2).length ≤ ms.length := by rw [List.length_take]; omega
  have hkm : ((ms.take r2).map tx).length = (ms.take r2).length := List.length_map ..
  have hk2 : ∀ a ∈ ms.take r2, a.length ≤ 60 := fun a ha => by have := (hms a (List.mem_of_mem_take ha)).2; omega
  have nwk : Nw H kp := nw_back nw3 mx2 p2
  walk_at "ugo"
  refine br2 (fun e => ?_) (fun e => ?_)
  · walk_at "ugo"
    exact k kp _ H3 nwk lm3 (by omega) hk2 mu_pl inferInstance
  walk_at "ugo"
  refine br2 (fun e => ?_) (fun e => ?_)
  · have hlt : (ms.take r2).length < ms.length := by omega
    obtain ⟨mk, hmk⟩ : ∃ mk, ms[(ms.take r2).length]? = some mk := ⟨_, List.getElem?_eq_getElem hlt⟩
    obtain ⟨hne, hl⟩ := hms mk (List.mem_of_getElem? hmk)
    obtain ⟨c, t, rfl⟩ := List.exists_cons_of_ne_nil hne
    rw [List.length_cons] at hl
    walk_at "ugo"
    rw [hkm]
    refine ix_is (v := tx (c :: t)) (atI_nat (by rw [List.getElem?_map, hmk]; rfl)) ?_
    walk_at "ugo"
    refine ix_sg (by walk_at "usd") (c := c) (atI_nat (j := 0) rfl) ?_
    walk_at "ugo"
    refine sl_fr (by walk_at "usd") (by omega) ?_
    rw [show List.drop (Int.toNat 1) (c :: t) = t from rfl]
    walk_at "ugo"
    intro b H4 hb m4 p4
    have mx4 : Mx H p H4 := inferInstance
    walk_at "ugo"
    refine br2 (fun e2 => ?_) (fun e2 => ?_)
    · walk_at "ugo"
      refine al_l fun q5 H5 nw5 ex5 lm5 => ?_
      walk_at "ugo"
      refine al_l fun q6 H6 nw6 ex6 lm6 => ?_
      exact k q6 (ms.take r2 ++ [[c] ++ [49]]) H6 (nw_back nw6 (inferInstance : Mx H p H5) inferInstance) (by rw [List.map_append]; exact lm6) (by rw [List.length_append, List.length_singleton]; omega) (fun a ha => by
        rcases List.mem_append.mp ha with ha | ha
        · exact hk2 a ha
        · rw [List.mem_singleton.mp ha]; simp) mu_pl inferInstance
    · walk_at "ugo"
      refine al_l fun q5 H5 nw5 ex5 lm5 => ?_
      walk_at "ugo"
      refine al_l fun q6 H6 nw6 ex6 lm6 => ?_
      exact k q6 (ms.take r2 ++ [[c] ++ b]) H6 (nw_back nw6 (inferInstance : Mx H p H5) inferInstance) (by rw [List.map_append]; exact lm6) (by rw [List.length_append, List.length_singleton]; omega) (fun a ha => by
        rcases List.mem_append.mp ha with ha | ha
        · exact hk2 a ha
        · rw [List.mem_singleton.mp ha]; simp; omega) mu_pl inferInstance
  walk_at "ugo"
  refine br2 (fun e => ?_) (fun e => ?_)
  · walk_at "ugo"
    intro b H4 hb hb2 m4 p4
    walk_at "ugo"
    refine al_l fun q5 H5 nw5 ex5 lm5 => ?_
    walk_at "ugo"
    refine al_l fun q6 H6 nw6 ex6 lm6 => ?_
    exact k q6 (ms.take r2 ++ [b]) H6 (nw_back nw6 (inferInstance : Mx H p H5) inferInstance) (by rw [List.map_append]; exact lm6) (by rw [List.length_append, List.length_singleton]; omega) (fun a ha => by
        rcases List.mem_append.mp ha with ha | ha
        · exact hk2 a ha
        · rw [List.mem_singleton.mp ha]; omega) mu_pl inferInstance
  · walk_at "ugo"
    exact k kp _ H3 nwk lm3 (by omega) hk2 mu_pl inferInstance
theorem c_law_near_makers (T : Txt K mg w) : C8.Cal P w K mg base 4 "_law_near_makers" sp_law_near_makers [] := by
  obtain ⟨fd, F, ok⟩ := ok_law_near_makers (P := P) (w := w) (base := base) T
  exact cal_n F T.g_law_near_makers (F.bindsN fun _ _ _ _ _ _ us hl => match us, hl with | [_, _], _ => rfl) ok
end
end T

namespace T
open PySem PySem.Spec PyProof.Rows L2 U
open SX (S)
section
variable {P : Program} {w : World} {K : PySem.W.Frag} {mg : PySem.Str → Option Value} {base : Heap}
instance {H : Hp} {Q : VK} {E : XK} {h p : Addr} {ms : List (List Nat)} [lm : LM H h (ms.map tx)] [pl : PL H p] : Go (sp_law_near_makers [.ref h, .ref p] H Q E) (Sd (ms.length ≤ 3) (Sd (∀ a ∈ ms, a ≠ [] ∧ a.length ≤ 50) (∀ (q : Addr) (ns : List (List Nat)) (H' : Hp), Nw H q → LM H' q (ns.map tx) → ns.length ≤ 4 → (∀ a ∈ ns, a.length ≤ 60) → Mu H p H' → PL H' p → Q (.ref q) H'))) := ⟨fun k => ⟨h, p, ms, rfl, lm, pl, k.1, k.2.1, k.2.2⟩⟩
def sp_law_near_year : Sp := fun vs H Q _ => ∃ (y : Option Nat) (p : Addr), vs = [oV y, .ref p] ∧ PL H p ∧ (∀ n, y = some n → n ≤ 3000) ∧ ∀ (z : Option Nat) H', (∀ n, z = some n → n < 10 ^ 59) → Mu H p H' → PL H' p → Q (oV z) H'
theorem ok_law_near_year (T : Txt K mg w) : ∃ fd, FunD K d_law_near_year.name d_law_near_year.qual d_law_near_year.params d_law_near_year.body d_law_near_year.scope (d_law_near_year.dvs K) (d_law_near_year.kws K) (He.fAd K d_law_near_year.at_) fd ∧ FnOk P w K mg base C8.CX0 2 (He.fAd K d_law_near_year.at_) fd ["age", "pool"] sp_law_near_year := by
  obtain ⟨fd, F⟩ := T.f_law_near_year
  refine ⟨fd, F, ?_⟩
  have sc := (show FnScope ["age", "pool", "way"] ["age", "pool"] (defScope s_law_near_year) from ⟨rfl, rfl, rfl, by decide +kernel, rfl, by decide +kernel, by decide +kernel⟩)
  refine F.ok sc (fun vs H Q E h => ?_) (fun cdv A outer s H vs Q E hr h => ?_)
  · obtain ⟨y, p, rfl, pl, hy, k⟩ := h; rfl
  obtain ⟨y, p, rfl, pl, hy, k⟩ := h
  have hu := hr.units
  refine ⟨_, PSs.nox (pss_cons (ps_set (i := 2) sc.nd rfl (by first | exact Or.inl rfl | exact Or.inr rfl) (C8.pe_c (c_law_take T) hr (by decide) rfl (pa_cons (pv 1) (pa_cons pe_int pa_nil))))
  (pss_cons (ps_if (pt_cmpR (U.ou_eq (K := K) hu) (pv 2) pe_int (nomark _)) (pss_one (ps_ret pe_non)) pss_nil)
  (pss_cons (ps_if (PW.pt (pw_or (pt_cmpR (U.ou_eq (K := K) hu) (pv 2) pe_int (nomark _)) (pw_or1 (pt_cmpR U.ou_is (pv 0) pe_non (nomark _))))) (pss_one (ps_ret (pe_op (U.ou_add (K := K)) pe_int (C8.pe_c (c_law_take T) hr (by decide) rfl (pa_cons (pv 1) (pa_cons pe_int pa_nil)))))) pss_nil)
  (pss_one (ps_ret (pe_op (U.ou_add (K := K)) (pe_op (U.ou_mul (K := K)) (pe_op U.ou_fdiv (pv 0) pe_int) pe_int) (C8.pe_c (c_law_take T) hr (by decide) rfl (pa_cons (pv 1) (pa_cons pe_int pa_nil))))))))), ?_⟩
  walk_at "ust0"
  walk_at "ugo"
  intro way H1 hr m1 p1
  walk_at "ugo"
  refine br2 (fun h => ?_) (fun h => ?_)
  · walk_at "ugo"
    exact k none H1 (fun n hn => by cases hn) m1 p1
  walk_at "ugo"
  have case1 : ∀ (r : Nat) (H2 : Hp), (r : Int) < 2000 → Mu H p H2 → PL H2 p → Q (.int ((1000 : Int) + (r : Int))) H2 := fun r H2 h m2 p2 => by
    rw [show (1000 : Int) + (r : Int) = ((1000 + r : Nat) : Int) by omega]
    exact k (some (1000 + r)) H2 (fun n hn => by cases hn; omega) m2 p2
  refine br2 (fun h => ?_) (fun h => ?_)
  · walk_at "ugo"
    intro r H2 hr m2 p2
    walk_at "ugo"
    exact case1 r H2 hr mu_pl p2
  cases y with
  | none =>
    rw [show oV none = V.non from rfl]
    walk_at "ugo"
    intro r H2 hr m2 p2
    walk_at "ugo"
    exact case1 r H2 hr mu_pl p2
  | some n =>
    have hn := hy n rfl
    rw [show oV (some n) = V.int (n : Int) from rfl]
    walk_at "ugo"
    refine Sd.k (cd64 (by omega) (by decide)) ?_
    walk_at "ugo"
    refine Sd.k (cm64 (by omega) (by decide)) ?_
    walk_at "ugo"
    intro r H2 hr m2 p2
    walk_at "ugo"
    rw [show (n : Int) / 10 * 10 + (r : Int) = ((n / 10 * 10 + r : Nat) : Int) by omega]
    exact k (some (n / 10 * 10 + r)) H2 (fun n hn => by cases hn; omega) mu_pl p2
theorem c_law_near_year (T : Txt K mg w) : C8.Cal P w K mg base 2 "_law_near_year" sp_law_near_year [] := by
  obtain ⟨fd, F, ok⟩ := ok_law_near_year (P := P) (w := w) (base := base) T
  exact cal_n F T.g_law_near_year (F.bindsN fun _ _ _ _ _ _ us hl => match us, hl with | [_, _], _ => rfl) ok
instance {H : Hp} {Q : VK} {E : XK} {p : Addr} {y : Option Nat} [pl : PL H p] : Go (sp_law_near_year [oV y, .ref p] H Q E) (Sd (∀ n, y = some n → n ≤ 3000) (∀ (z : Option Nat) H', (∀ n, z = some n → n < 10 ^ 59) → Mu H p H' → PL H' p → Q (oV z) H')) := ⟨fun k => ⟨y, p, rfl, pl, k.1, k.2⟩⟩
def sp_law_near_copy : Sp := fun vs H Q _ => ∃ (y : Option Nat) (p : Addr), vs = [oV y, .ref p] ∧ PL H p ∧ (∀ n, y = some n → n < 10 ^ 30) ∧ ∀ (z : Option Nat) H', (∀ n, z = some n → n < 10 ^ 59) → Mu H p H' → PL H' p → Q (oV z) H'
theorem ok_law_near_copy (T : Txt K mg w) : ∃ fd, FunD K d_law_near_copy.name d_law_near_copy.qual d_law_near_copy.params d_law_near_copy.body d_law_near_copy.scope (d_law_near_copy.dvs K) (d_law_near_copy.kws K) (He.fAd K d_law_near_copy.at_) fd ∧ FnOk P w K mg base C8.CX0 2 (He.fAd K d_law_near_copy.at_) fd ["twin", "pool"] sp_law_near_copy := by
  obtain ⟨fd, F⟩ := T.f_law_near_copy
  refine ⟨fd, F, ?_⟩
  have sc := (show FnScope ["twin", "pool", "digits"] ["twin", "pool"] (defScope s_law_near_copy) from ⟨rfl, rfl, rfl, by decide +kernel, rfl, by decide +kernel, by decide +kernel⟩)
  refine F.ok sc (fun vs H Q E h => ?_) (fun cdv A outer s H vs Q E hr h => ?_)
  · obtain ⟨y, p, rfl, pl, hy, k⟩ := h; rfl
  obtain ⟨y, p, rfl, pl, hy, k⟩ := h
  have hu := hr.units
  refine ⟨_, PSs.nox (pss_cons (ps_if (pt_cmpR (U.ou_eq (K := K) hu) (C8.pe_c (c_law_take T) hr (by decide) rfl (pa_cons (pv 1) (pa_cons pe_int pa_nil))) pe_int (nomark _)) (pss_one (ps_ret pe_non)) pss_nil)
  (pss_cons (ps_set (i := 2) sc.nd rfl (by first | exact Or.inl rfl | exact Or.inr rfl) (pe_callTy U.cu_str (by rfl) T.b_str (by decide +kernel) (pa_cons (pe_ifExp (pt_cmpR U.ou_is (pv 0) pe_non (nomark _)) pe_int (pv 0)) pa_nil)))
  (pss_one (ps_ret (pe_callB (U.cu_max rfl) (by rfl) T.b_max (by decide +kernel) (pa_cons pe_int (pa_cons (pe_callTy U.cu_int (by rfl) T.b_int (by decide +kernel) (pa_cons (pe_op (U.ou_add (K := K)) (pe_slice (U.su (K := K)) (pv 2) po_none (po_some (pe_op (U.ou_add (K := K)) pe_int (C8.pe_c (c_law_take T) hr (by decide) rfl (pa_cons (pv 1) (pa_cons pe_int pa_nil)))))) (pe_ix (U.xu (K := K)) (U.pe_s (l := [48, 49, 50, 51, 52, 53, 54, 55, 56, 57]) (by decide +kernel)) (C8.pe_c (c_law_take T) hr (by decide) rfl (pa_cons (pv 1) (pa_cons pe_int pa_nil))) (fun _ _ => rfl))) pa_nil)) pa_nil))))))), ?_⟩
  walk_at "ust0"
  walk_at "ugo"
  intro way H1 hr m1 p1
  walk_at "ugo"
  refine br2 (fun h => ?_) (fun h => ?_)
  · walk_at "ugo"
    exact k none H1 (fun n hn => by cases hn) m1 p1
  obtain ⟨n, hn, e⟩ : ∃ n : Nat, n < 10 ^ 30 ∧ (n = 2 ∧ y = none ∨ y = some n) := by
    cases y with
    | none => exact ⟨2, by decide, .inl ⟨rfl, rfl⟩⟩
    | some n => exact ⟨n, hy n rfl, .inr rfl⟩
  have hn60 : n < 10 ^ 60 := by omega
  have hl : (nm n).length ≤ 30 := TL.numL_len (k := 30) (by decide) hn
  have hne : nm n ≠ [] := TL.numL_ne n
  have rest : ∀ (r r2 : Nat), (r : Int) < 29 → r2 < 10 → (∀ c ∈ (nm n).take ((1 : Int) + (r : Int)).toNat ++ [48 + r2], Fg c) ∧ ((nm n).take ((1 : Int) + (r : Int)).toNat ++ [48 + r2]).length ≤ 31 ∧ NumText.digitsVal ((nm n).take ((1 : Int) + (r : Int)).toNat ++ [48 + r2]) < 10 ^ 40 := fun r r2 h1 h2 => by
    have hf : ∀ c ∈ (nm n).take ((1 : Int) + (r : Int)).toNat ++ [48 + r2], Fg c := fun c hc => by
      rcases List.mem_append.mp hc with hc | hc
      · exact nm_fig n c (List.mem_of_mem_take hc)
      · rw [List.mem_singleton.mp hc]; exact ⟨by omega, by omega⟩
    have hll : ((nm n).take ((1 : Int) + (r : Int)).toNat ++ [48 + r2]).length ≤ 31 := by
      rw [List.length_append, List.length_take, List.length_singleton]; omega
    have h3 := val_lt _ hf
    have h4 : 10 ^ ((nm n).take ((1 : Int) + (r : Int)).toNat ++ [48 + r2]).length ≤ 10 ^ 31 := Nat.pow_le_pow_right (by decide) hll
    exact ⟨hf, hll, by omega⟩
  have fin : ∀ (j : Nat) (H2 : Hp), j < 10 ^ 40 → Mu H p H2 → PL H2 p → Q (.int (max 2 (j : Int))) H2 := fun j H2 h m2 p2 => by
    rw [show max (2 : Int) (j : Int) = ((max 2 j : Nat) : Int) by omega]
    exact k (some (max 2 j)) H2 (fun n hn => by cases hn; omega) m2 p2
  rcases e with ⟨rfl, rfl⟩ | rfl
  · rw [show oV none = V.non from rfl]
    walk_at "ugo"
    rw [show (V.int 2) = V.int ((2 : Nat) : Int) from rfl]
    walk_at "ugo"
    intro r H2 hr2 m2 p2
    walk_at "ugo"
    refine sl_to (by walk_at "usd") (by omega) ?_
    walk_at "ugo"
    intro r3 H3 hr3 m3 p3
    have hr3 : r3 < 10 := by omega
    walk_at "ugo"
    refine ix_sg (by walk_at "usd") (at_figs hr3) ?_
    obtain ⟨hf, hll, hv⟩ := rest r r3 (by omega) hr3
    have hz : ((nm 2).take ((1 : Int) + (r : Int)).toNat).length + ([48 + r3] : List Nat).length ≤ sizeLine := by rw [List.length_append] at hll; rw [z24]; omega
    walk_at "ugo"
    refine int_t hf (by simp) (by omega) ?_
    walk_at "ugo"
    exact fin _ H3 hv mu_pl p3
  · rw [show oV (some n) = V.int (n : Int) from rfl]
    walk_at "ugo"
    intro r H2 hr2 m2 p2
    walk_at "ugo"
    refine sl_to (by walk_at "usd") (by omega) ?_
    walk_at "ugo"
    intro r3 H3 hr3 m3 p3
    have hr3 : r3 < 10 := by omega
    walk_at "ugo"
    refine ix_sg (by walk_at "usd") (at_figs hr3) ?_
    obtain ⟨hf, hll, hv⟩ := rest r r3 (by omega) hr3
    have hz : ((nm n).take ((1 : Int) + (r : Int)).toNat).length + ([48 + r3] : List Nat).length ≤ sizeLine := by rw [List.length_append] at hll; rw [z24]; omega
    walk_at "ugo"
    refine int_t hf (by simp) (by omega) ?_
    walk_at "ugo"
    exact fin _ H3 hv mu_pl p3
theorem c_law_near_copy (T : Txt K mg w) : C8.Cal P w K mg base 2 "_law_near_copy" sp_law_near_copy [] := by
  obtain ⟨fd, F, ok⟩ := ok_law_near_copy (P := P) (w := w) (base := base) T
  exact cal_n F T.g_law_near_copy (F.bindsN fun _ _ _ _ _ _ us hl => match us, hl with | [_, _], _ => rfl) ok
instance {H : Hp} {Q : VK} {E : XK} {p : Addr} {y : Option Nat} [pl : PL H p] : Go (sp_law_near_copy [oV y, .ref p] H Q E) (Sd (∀ n, y = some n → n < 10 ^ 30) (∀ (z : Option Nat) H', (∀ n, z = some n → n < 10 ^ 59) → Mu H p H' → PL H' p → Q (oV z) H')) := ⟨fun k => ⟨y, p, rfl, pl, k.1, k.2⟩⟩
instance {H : Hp} {Q : VK} {E : XK} {p : Addr} [pl : PL H p] : Go (sp_law_parts [.ref p] H Q E) (∀ q m H', Nw H q → PtL H' q m → m.Ok → m.Sm → Mu H p H' → PL H' p → Q (.ref q) H') := ⟨fun k => ⟨p, rfl, pl, k⟩⟩
/-! _law_near -/
/-- such a row -/
def Row (H : Hp) (q : Addr) (m : Pt) : Prop := ∃ h, LM H q [tx m.lets, .int (m.num : Int), tx m.pts, .ref h, oV m.age, oV m.twin] ∧ LM H h (m.hands.map tx)
theorem row_ne {H : Hp} {p row h' : Addr} {m : Pt} (pl : PL H p) (lr : LM H row [tx m.lets, .int (m.num : Int), tx m.pts, .ref h', oV m.age, oV m.twin]) (lh : LM H h' (m.hands.map tx)) : row ≠ p ∧ h' ≠ p ∧ h' ≠ row := by
  obtain ⟨n1, n2⟩ := ptl_ne pl lr lh
  refine ⟨n1, n2, ne_cont lh lr ?_⟩
  intro e
  generalize m.hands = ns at e
  cases ns with
  | nil => cases e
  | cons a ns =>
    injection e with _ e
    cases ns with
    | nil => cases e
    | cons b ns => injection e with e _; cases e
theorem ok_w {m : Pt} (ok : m.Ok) (sm : m.Sm) : m.W := ⟨by have := ok.l.len.2; omega, by have := ok.n.2; omega, by have := sm.p; omega, by have := ok.h3; omega, fun a ha => by have := sm.h a ha; omega, fun n hn => by have := ok.y n hn; omega, fun n hn => by have := sm.c n hn; omega⟩
def sp_law_near : Sp := fun vs H Q _ => ∃ (q p : Addr) (at_ : Nat) (m : Pt), vs = [.ref q, .int (at_ : Int), .ref p] ∧ PtL H q m ∧ m.Ok ∧ m.Sm ∧ PL H p ∧ at_ < 6 ∧ ∀ r m' H', Nw H r → PtL H' r m' → m'.W → Mu H p H' → PL H' p → Q (.ref r) H'
theorem ok_law_near (T : Txt K mg w) : ∃ fd, FunD K d_law_near.name d_law_near.qual d_law_near.params d_law_near.body d_law_near.scope (d_law_near.dvs K) (d_law_near.kws K) (He.fAd K d_law_near.at_) fd ∧ FnOk P w K mg base C8.CX0 5 (He.fAd K d_law_near.at_) fd ["parts", "at", "pool"] sp_law_near := by
  obtain ⟨fd, F⟩ := T.f_law_near
  refine ⟨fd, F, ?_⟩
  have sc := (show FnScope ["parts", "at", "pool", "tail", "row"] ["parts", "at", "pool"] (defScope s_law_near) from ⟨rfl, rfl, rfl, by decide +kernel, rfl, by decide +kernel, by decide +kernel⟩)
  refine F.ok sc (fun vs H Q E h => ?_) (fun cdv A outer s H vs Q E hr h => ?_)
  · obtain ⟨q, p, at_, m, rfl, pt, ok, sm, pl, hat, k⟩ := h; rfl
  obtain ⟨q, p, at_, m, rfl, pt, ok, sm, pl, hat, k⟩ := h
  have hu := hr.units
  refine ⟨_, PSs.nox (pss_cons (ps_set (i := 3) sc.nd rfl (by first | exact Or.inl rfl | exact Or.inr rfl) (C8.pe_c (c_law_take T) hr (by decide) rfl (pa_cons (pv 2) (pa_cons pe_int pa_nil))))
  (pss_cons (ps_set (i := 4) sc.nd rfl (by first | exact Or.inl rfl | exact Or.inr rfl) (pe_lst (pa_cons (pe_ix (U.xu (K := K)) (pv 0) pe_int (fun _ _ => rfl)) (pa_cons (pe_ix (U.xu (K := K)) (pv 0) pe_int (fun _ _ => rfl)) (pa_cons (pe_ix (U.xu (K := K)) (pv 0) pe_int (fun _ _ => rfl)) (pa_cons (pe_callTy (U.cu_lst (K := K)) (by rfl) T.b_list (by decide +kernel) (pa_cons (pe_ix (U.xu (K := K)) (pv 0) pe_int (fun _ _ => rfl)) pa_nil)) (pa_cons (pe_ix (U.xu (K := K)) (pv 0) pe_int (fun _ _ => rfl)) (pa_cons (pe_ix (U.xu (K := K)) (pv 0) pe_int (fun _ _ => rfl)) pa_nil))))))))
  (C8.pss_cut (ps_if (pt_cmpR (U.ou_eq (K := K) hu) (pv 1) pe_int (nomark _)) (pss_one (ps_asg (pe_op (U.ou_add (K := K)) (pe_slice (U.su (K := K)) (pe_ix (U.xu (K := K)) (pv 0) pe_int (fun _ _ => rfl)) po_none (po_some (C8.pe_c (c_law_take T) hr (by decide) rfl (pa_cons (pv 2) (pa_cons pe_int pa_nil))))) (pe_ix (U.xu (K := K)) (U.pe_s (l := [97, 98, 99, 100, 101, 102, 103, 104, 105, 106, 107, 108, 109, 110, 111, 112, 113, 114, 115, 116, 117, 118, 119, 120, 121, 122]) (by decide +kernel)) (C8.pe_c (c_law_take T) hr (by decide) rfl (pa_cons (pv 2) (pa_cons pe_int pa_nil))) (fun _ _ => rfl))) (pg_sub (pv 4) pe_int set_list))) pss_nil)
  (C8.pss_cut (ps_if (pt_cmpR (U.ou_eq (K := K) hu) (pv 1) pe_int (nomark _)) (pss_one (ps_asg (pe_callTy U.cu_int (by rfl) T.b_int (by decide +kernel) (pa_cons (pe_slice (U.su (K := K)) (pe_op (U.ou_add (K := K)) (pe_slice (U.su (K := K)) (pe_callTy U.cu_str (by rfl) T.b_str (by decide +kernel) (pa_cons (pe_ix (U.xu (K := K)) (pv 0) pe_int (fun _ _ => rfl)) pa_nil)) po_none (po_some (pe_op (U.ou_add (K := K)) pe_int (C8.pe_c (c_law_take T) hr (by decide) rfl (pa_cons (pv 2) (pa_cons pe_int pa_nil)))))) (pe_ix (U.xu (K := K)) (U.pe_s (l := [48, 49, 50, 51, 52, 53, 54, 55, 56, 57]) (by decide +kernel)) (C8.pe_c (c_law_take T) hr (by decide) rfl (pa_cons (pv 2) (pa_cons pe_int pa_nil))) (fun _ _ => rfl))) po_none (po_some pe_int)) pa_nil)) (pg_sub (pv 4) pe_int set_list))) pss_nil)
  (C8.pss_cut (ps_if (pt_cmpR (U.ou_eq (K := K) hu) (pv 1) pe_int (nomark _)) (pss_one (ps_asg (C8.pe_c (c_law_near_word T) hr (by decide) rfl (pa_cons (pe_ix (U.xu (K := K)) (pv 0) pe_int (fun _ _ => rfl)) (pa_cons (pv 2) pa_nil))) (pg_sub (pv 4) pe_int set_list))) pss_nil)
  (C8.pss_cut (ps_if (pt_cmpR (U.ou_eq (K := K) hu) (pv 1) pe_int (nomark _)) (pss_one (ps_asg (C8.pe_c (c_law_near_makers T) hr (by decide) rfl (pa_cons (pe_ix (U.xu (K := K)) (pv 0) pe_int (fun _ _ => rfl)) (pa_cons (pv 2) pa_nil))) (pg_sub (pv 4) pe_int set_list))) pss_nil)
  (C8.pss_cut (ps_if (pt_cmpR (U.ou_eq (K := K) hu) (pv 1) pe_int (nomark _)) (pss_one (ps_asg (C8.pe_c (c_law_near_year T) hr (by decide) rfl (pa_cons (pe_ix (U.xu (K := K)) (pv 0) pe_int (fun _ _ => rfl)) (pa_cons (pv 2) pa_nil))) (pg_sub (pv 4) pe_int set_list))) pss_nil)
  (C8.pss_cut (ps_if (pt_cmpR (U.ou_eq (K := K) hu) (pv 1) pe_int (nomark _)) (pss_one (ps_asg (C8.pe_c (c_law_near_copy T) hr (by decide) rfl (pa_cons (pe_ix (U.xu (K := K)) (pv 0) pe_int (fun _ _ => rfl)) (pa_cons (pv 2) pa_nil))) (pg_sub (pv 4) pe_int set_list))) pss_nil)
  (pss_cons (ps_if (pt_cmpR (U.ou_eq (K := K) hu) (pv 3) pe_int (nomark _)) (pss_one (ps_ret (pe_op (U.ou_add (K := K)) (pe_slice (U.su (K := K)) (pv 4) po_none (po_some (pe_op (U.ou_add (K := K)) (pv 1) pe_int))) (pe_slice (U.su (K := K)) (C8.pe_c (c_law_parts T) hr (by decide) rfl (pa_cons (pv 2) pa_nil)) (po_some (pe_op (U.ou_add (K := K)) (pv 1) pe_int)) po_none)))) pss_nil)
  (pss_one (ps_ret (pv 4)))))))))))), ?_⟩
  walk_at "ust0"
  obtain ⟨h, lm, lh, ne⟩ := pt.ex
  obtain ⟨nq, nh⟩ := ptl_ne pl lm lh
  haveI : Ne' q p := ⟨nq⟩
  haveI : Ne' h p := ⟨nh⟩
  have w0 := ok_w ok sm
  walk_at "ugo"
  intro tail H1 htail m1 p1
  walk_at "ugo"
  refine ix_is (v := tx m.lets) (atI_nat (j := 0) rfl) ?_
  walk_at "ugo"
  refine ix_is (v := .int (m.num : Int)) (atI_nat (j := 1) rfl) ?_
  walk_at "ugo"
  refine ix_is (v := tx m.pts) (atI_nat (j := 2) rfl) ?_
  walk_at "ugo"
  refine ix_is (v := .ref h) (atI_nat (j := 3) rfl) ?_
  walk_at "ugo"
  refine al_l fun h2 H2 nw2 ex2 lm2 => ?_
  walk_at "ugo"
  refine ix_is (v := oV m.age) (atI_nat (j := 4) rfl) ?_
  walk_at "ugo"
  refine ix_is (v := oV m.twin) (atI_nat (j := 5) rfl) ?_
  walk_at "ugo"
  refine al_l fun row H3 nw3 ex3 lm3 => ?_
  have mx2 : Mx H p H2 := inferInstance
  have pl2 : PL H2 p := inferInstance
  have nwr : Nw H row := nw_back nw3 mx2 pl2
  have lq2 : LM H2 q _ := inferInstance
  have lh2 : LM H2 h _ := inferInstance
  -- what holds at each cut
  let Mid : L2.St → Hp → Prop := fun σ H' => σ = [some (.ref q), some (.int (at_ : Int)), some (.ref p), some (.int (tail : Int)), some (.ref row)] ∧ ∃ m', Row H' row m' ∧ m'.W ∧ LM H' q [tx m.lets, .int (m.num : Int), tx m.pts, .ref h, oV m.age, oV m.twin] ∧ LM H' h (m.hands.map tx) ∧ Mx H p H' ∧ PL H' p
  walk_at "ugo"
  refine cut_ Mid ?_ (fun σ H' e => ?_)
  · walk_at "ugo"
    refine br2 (fun e => ?_) (fun e => ?_)
    · walk_at "ugo"
      refine ix_is (v := tx m.lets) (atI_nat (j := 0) rfl) ?_
      walk_at "ugo"
      intro r H4 hr4 m4 p4
      walk_at "ugo"
      refine sl_to (by have := w0.l; walk_at "usd") (by omega) ?_
      walk_at "ugo"
      intro r5 H5 hr5 m5 p5
      have hr5 : r5 < 26 := by omega
      walk_at "ugo"
      refine ix_sg (by walk_at "usd") (at_lets hr5) ?_
      have hl := w0.l
      have hl2 : (m.lets.take (r : Int).toNat).length ≤ 3 := by rw [List.length_take]; omega
      walk_at "ugo"
      refine sl_of (j := 0) (zs := [_, _, _, _, _, _]) (by simp [ixN]) rfl ?_
      refine mu_l' fun H6 m6 l6 => ?_
      walk_at "ugo"
      exact ⟨rfl, { m with lets := m.lets.take (r : Int).toNat ++ [97 + r5] }, ⟨h2, l6, inferInstance⟩, ⟨by dsimp only; rw [List.length_append, List.length_singleton]; omega, w0.n, w0.p, w0.h, w0.hs, w0.y, w0.c⟩, inferInstance, inferInstance, inferInstance, inferInstance⟩
    · walk_at "ugo"
      exact ⟨rfl, m, ⟨h2, lm3, inferInstance⟩, w0, inferInstance, inferInstance, inferInstance, inferInstance⟩
  obtain ⟨rfl, m1, ⟨h', lr, lh'⟩, w', lq, lhh, mx, pl'⟩ := e
  obtain ⟨n1, n2, n3⟩ := row_ne pl' lr lh'
  haveI : Ne' row p := ⟨n1⟩
  haveI : Ne' p row := ⟨n1.symm⟩
  haveI : Ne' h' p := ⟨n2⟩
  haveI : Ne' h' row := ⟨n3⟩
  walk_at "ugo"
  refine cut_ Mid ?_ (fun σ H' e => ?_)
  · walk_at "ugo"
    refine br2 (fun e => ?_) (fun e => ?_)
    · walk_at "ugo"
      refine ix_is (v := .int (m.num : Int)) (atI_nat (j := 1) rfl) ?_
      have hn60 : m.num < 10 ^ 60 := by have := w0.n; omega
      have hl := nm_len hn60
      have hne : nm m.num ≠ [] := TL.numL_ne m.num
      walk_at "ugo"
      intro r H5 hr5 m5' p5
      walk_at "ugo"
      refine sl_to (by walk_at "usd") (by omega) ?_
      walk_at "ugo"
      intro r6 H6 hr6 m6 p6
      have hr6 : r6 < 10 := by omega
      walk_at "ugo"
      refine ix_sg (by walk_at "usd") (at_figs hr6) ?_
      have hl2 : ((nm m.num).take ((1 : Int) + (r : Int)).toNat).length ≤ 60 := by rw [List.length_take]; omega
      walk_at "ugo"
      refine sl_to (by rw [z24, List.length_append, List.length_singleton]; omega) (by omega) ?_
      walk_at "ugo"
      have hf : ∀ c ∈ ((nm m.num).take ((1 : Int) + (r : Int)).toNat ++ [48 + r6]).take (4 : Int).toNat, Fg c := fun c hc => by
        rcases List.mem_append.mp (List.mem_of_mem_take hc) with hc | hc
        · exact nm_fig _ c (List.mem_of_mem_take hc)
        · rw [List.mem_singleton.mp hc]; exact ⟨by omega, by omega⟩
      have hll : (((nm m.num).take ((1 : Int) + (r : Int)).toNat ++ [48 + r6]).take (4 : Int).toNat).length ≤ 4 := by rw [List.length_take]; omega
      have hnn : ((nm m.num).take ((1 : Int) + (r : Int)).toNat ++ [48 + r6]).take (4 : Int).toNat ≠ [] := by
        intro e
        have := congrArg List.length e
        rw [List.length_take, List.length_append, List.length_singleton, List.length_nil] at this
        omega
      have hv := val_lt _ hf
      have hv2 : 10 ^ (((nm m.num).take ((1 : Int) + (r : Int)).toNat ++ [48 + r6]).take (4 : Int).toNat).length ≤ 10 ^ 4 := Nat.pow_le_pow_right (by decide) hll
      refine int_t hf hnn (by omega) ?_
      walk_at "ugo"
      refine sl_of (j := 1) (zs := [_, _, _, _, _, _]) (by simp [ixN]) rfl ?_
      refine mu_l' fun H7 m7 l7 => ?_
      walk_at "ugo"
      exact ⟨rfl, { m1 with num := NumText.digitsVal (((nm m.num).take ((1 : Int) + (r : Int)).toNat ++ [48 + r6]).take (4 : Int).toNat) }, ⟨h', l7, inferInstance⟩, ⟨w'.l, by dsimp only; omega, w'.p, w'.h, w'.hs, w'.y, w'.c⟩, inferInstance, inferInstance, inferInstance, inferInstance⟩
    · walk_at "ugo"
      exact ⟨rfl, m1, ⟨h', lr, lh'⟩, w', lq, lhh, mx, pl'⟩
  obtain ⟨rfl, m2, ⟨h', lr, lh'⟩, w', lq, lhh, mx, pl'⟩ := e
  obtain ⟨n1, n2, n3⟩ := row_ne pl' lr lh'
  haveI : Ne' row p := ⟨n1⟩
  haveI : Ne' p row := ⟨n1.symm⟩
  haveI : Ne' h' p := ⟨n2⟩
  haveI : Ne' h' row := ⟨n3⟩
  walk_at "ugo"
  refine cut_ Mid ?_ (fun σ H' e => ?_)
  · walk_at "ugo"
    refine br2 (fun e => ?_) (fun e => ?_)
    · walk_at "ugo"
      refine ix_is (v := tx m.pts) (atI_nat (j := 2) rfl) ?_
      have hp := sm.p
      walk_at "ugo"
      intro b H5 hb m5' p5
      walk_at "ugo"
      refine sl_of (j := 2) (zs := [_, _, _, _, _, _]) (by simp [ixN]) rfl ?_
      refine mu_l' fun H7 m7 l7 => ?_
      walk_at "ugo"
      exact ⟨rfl, { m2 with pts := b }, ⟨h', l7, inferInstance⟩, ⟨w'.l, w'.n, by dsimp only; omega, w'.h, w'.hs, w'.y, w'.c⟩, inferInstance, inferInstance, inferInstance, inferInstance⟩
    · walk_at "ugo"
      exact ⟨rfl, m2, ⟨h', lr, lh'⟩, w', lq, lhh, mx, pl'⟩
  obtain ⟨rfl, m3, ⟨h', lr, lh'⟩, w', lq, lhh, mx, pl'⟩ := e
  obtain ⟨n1, n2, n3⟩ := row_ne pl' lr lh'
  haveI : Ne' row p := ⟨n1⟩
  haveI : Ne' p row := ⟨n1.symm⟩
  haveI : Ne' h' p := ⟨n2⟩
  haveI : Ne' h' row := ⟨n3⟩
  walk_at "ugo"
  refine cut_ Mid ?_ (fun σ H' e => ?_)
  · walk_at "ugo"
    refine br2 (fun e => ?_) (fun e => ?_)
    · walk_at "ugo"
      refine ix_is (v := .ref h) (atI_nat (j := 3) rfl) ?_
      have hh3 := ok.h3
      have hhm : ∀ a ∈ m.hands, a ≠ [] ∧ a.length ≤ 50 := fun a ha => by
        obtain ⟨c, t, e, _⟩ := (ok.h a ha).1.ex
        have := sm.h a ha
        exact ⟨by rw [e]; simp, by omega⟩
      walk_at "ugo"
      intro g ns H5 nw5 l5 hn hns m5' p5
      walk_at "ugo"
      refine sl_of (j := 3) (zs := [_, _, _, _, _, _]) (by simp [ixN]) rfl ?_
      have n5 : Ne' g row := ⟨ne_cont (b := row) l5 (inferInstance : LM H5 row _) (by
        intro e
        cases ns with
        | nil => cases e
        | cons a ns =>
          injection e with _ e
          cases ns with
          | nil => cases e
          | cons b ns => injection e with e _; cases e)⟩
      refine mu_l' fun H7 m7 l7 => ?_
      walk_at "ugo"
      exact ⟨rfl, { m3 with hands := ns }, ⟨g, l7, inferInstance⟩, ⟨w'.l, w'.n, w'.p, by dsimp only; omega, fun a ha => by have := hns a ha; omega, w'.y, w'.c⟩, inferInstance, inferInstance, inferInstance, inferInstance⟩
    · walk_at "ugo"
      exact ⟨rfl, m3, ⟨h', lr, lh'⟩, w', lq, lhh, mx, pl'⟩
  obtain ⟨rfl, m4, ⟨h', lr, lh'⟩, w', lq, lhh, mx, pl'⟩ := e
  obtain ⟨n1, n2, n3⟩ := row_ne pl' lr lh'
  haveI : Ne' row p := ⟨n1⟩
  haveI : Ne' p row := ⟨n1.symm⟩
  haveI : Ne' h' p := ⟨n2⟩
  haveI : Ne' h' row := ⟨n3⟩
  walk_at "ugo"
  refine cut_ Mid ?_ (fun σ H' e => ?_)
  · walk_at "ugo"
    refine br2 (fun e => ?_) (fun e => ?_)
    · walk_at "ugo"
      refine ix_is (v := oV m.age) (atI_nat (j := 4) rfl) ?_
      have hy : ∀ n, m.age = some n → n ≤ 3000 := fun n hn => by have := ok.y n hn; omega
      walk_at "ugo"
      intro b H5 hb m5' p5
      walk_at "ugo"
      refine sl_of (j := 4) (zs := [_, _, _, _, _, _]) (by simp [ixN]) rfl ?_
      refine mu_l' fun H7 m7 l7 => ?_
      walk_at "ugo"
      exact ⟨rfl, { m4 with age := b }, ⟨h', l7, inferInstance⟩, ⟨w'.l, w'.n, w'.p, w'.h, w'.hs, hb, w'.c⟩, inferInstance, inferInstance, inferInstance, inferInstance⟩
    · walk_at "ugo"
      exact ⟨rfl, m4, ⟨h', lr, lh'⟩, w', lq, lhh, mx, pl'⟩
  obtain ⟨rfl, m5, ⟨h', lr, lh'⟩, w', lq, lhh, mx, pl'⟩ := e
  obtain ⟨n1, n2, n3⟩ := row_ne pl' lr lh'
  haveI : Ne' row p := ⟨n1⟩
  haveI : Ne' p row := ⟨n1.symm⟩
  haveI : Ne' h' p := ⟨n2⟩
  haveI : Ne' h' row := ⟨n3⟩
  walk_at "ugo"
  refine cut_ Mid ?_ (fun σ H' e => ?_)
  · walk_at "ugo"
    refine br2 (fun e => ?_) (fun e => ?_)
    · walk_at "ugo"
      refine ix_is (v := oV m.twin) (atI_nat (j := 5) rfl) ?_
      have hy := sm.c
      walk_at "ugo"
      intro b H5 hb m5' p5
      walk_at "ugo"
      refine sl_of (j := 5) (zs := [_, _, _, _, _, _]) (by simp [ixN]) rfl ?_
      refine mu_l' fun H7 m7 l7 => ?_
      walk_at "ugo"
      exact ⟨rfl, { m5 with twin := b }, ⟨h', l7, inferInstance⟩, ⟨w'.l, w'.n, w'.p, w'.h, w'.hs, w'.y, hb⟩, inferInstance, inferInstance, inferInstance, inferInstance⟩
    · walk_at "ugo"
      exact ⟨rfl, m5, ⟨h', lr, lh'⟩, w', lq, lhh, mx, pl'⟩
  obtain ⟨rfl, m6, ⟨h', lr, lh'⟩, w', lq, lhh, mx, pl'⟩ := e
  obtain ⟨n1, n2, n3⟩ := row_ne pl' lr lh'
  haveI : Ne' row p := ⟨n1⟩
  haveI : Ne' p row := ⟨n1.symm⟩
  haveI : Ne' h' p := ⟨n2⟩
  haveI : Ne' h' row := ⟨n3⟩
  walk_at "ugo"
  refine br2 (fun e => ?_) (fun e => ?_)
  · walk_at "ugo"
    rw [show (at_ : Int) + 1 = ((at_ + 1 : Nat) : Int) by omega, cut_to]
    refine al_l fun c1 H8 nw8 ex8 lm8 => ?_
    walk_at "ugo"
    intro q2 mm H9 nw9 pt9 ok9 sm9 m9 p9
    obtain ⟨g, lg, lgh, nge⟩ := pt9.ex
    have w9 := ok_w ok9 sm9
    walk_at "ugo"
    rw [show (at_ : Int) + 1 = ((at_ + 1 : Nat) : Int) by omega, cut_fr]
    refine al_l fun c2 H10 nw10 ex10 lm10 => ?_
    walk_at "ugo"
    refine Sd.k (by rw [z24, List.length_take, List.length_drop]; simp; omega) ?_
    refine al_l fun c3 H11 nw11 ex11 lm11 => ?_
    walk_at "ugo"
    have mx10 : Mx H p H10 := inferInstance
    have pl10 : PL H10 p := inferInstance
    have nwc : Nw H c3 := nw_back nw11 mx10 pl10
    have fin : ∀ (m'' : Pt) (z : Addr), [tx m6.lets, V.int (m6.num : Int), tx m6.pts, .ref h', oV m6.age, oV m6.twin].take (at_ + 1) ++ [tx mm.lets, V.int (mm.num : Int), tx mm.pts, .ref g, oV mm.age, oV mm.twin].drop (at_ + 1) = [tx m''.lets, .int (m''.num : Int), tx m''.pts, .ref z, oV m''.age, oV m''.twin] → LM H10 z (m''.hands.map tx) → m''.W → Q (.ref c3) H11 := fun m'' z e lz w'' => by
      rw [e] at lm11
      exact k c3 m'' H11 nwc ⟨z, lm11, inferInstance, (ne_of_none lz.lm nw11.nw).symm⟩ w'' mu_pl inferInstance
    have l1 : LM H10 h' (m6.hands.map tx) := inferInstance
    have l2 : LM H10 g (mm.hands.map tx) := inferInstance
    match at_, hat, fin with
    | 0, _, fin => exact fin ⟨m6.lets, mm.num, mm.pts, mm.hands, mm.age, mm.twin⟩ g rfl l2 ⟨w'.l, w9.n, w9.p, w9.h, w9.hs, w9.y, w9.c⟩
    | 1, _, fin => exact fin ⟨m6.lets, m6.num, mm.pts, mm.hands, mm.age, mm.twin⟩ g rfl l2 ⟨w'.l, w'.n, w9.p, w9.h, w9.hs, w9.y, w9.c⟩
    | 2, _, fin => exact fin ⟨m6.lets, m6.num, m6.pts, mm.hands, mm.age, mm.twin⟩ g rfl l2 ⟨w'.l, w'.n, w'.p, w9.h, w9.hs, w9.y, w9.c⟩
    | 3, _, fin => exact fin ⟨m6.lets, m6.num, m6.pts, m6.hands, mm.age, mm.twin⟩ h' rfl l1 ⟨w'.l, w'.n, w'.p, w'.h, w'.hs, w9.y, w9.c⟩
    | 4, _, fin => exact fin ⟨m6.lets, m6.num, m6.pts, m6.hands, m6.age, mm.twin⟩ h' rfl l1 ⟨w'.l, w'.n, w'.p, w'.h, w'.hs, w'.y, w9.c⟩
    | 5, _, fin => exact fin ⟨m6.lets, m6.num, m6.pts, m6.hands, m6.age, m6.twin⟩ h' rfl l1 w'
  · walk_at "ugo"
    exact k row m6 H' nwr ⟨h', lr, lh', n3.symm⟩ w' mu_pl pl'
theorem c_law_near (T : Txt K mg w) : C8.Cal P w K mg base 5 "_law_near" sp_law_near [] := by
  obtain ⟨fd, F, ok⟩ := ok_law_near (P := P) (w := w) (base := base) T
  exact cal_n F T.g_law_near (F.bindsN fun _ _ _ _ _ _ us hl => match us, hl with | [_, _, _], _ => rfl) ok
end
end T

namespace T
open PySem PySem.Spec PyProof.Rows L2 U
open SX (S)
/-! the plain law of slips -/
theorem slip_lost {a : List Nat} {n : Nat} (h : n < a.length) : slipK a (a.take n ++ a.drop (n + 1)) = some kLost := by
  have hl : (a.take n ++ a.drop (n + 1)).length + 1 = a.length := by rw [List.length_append, List.length_take, List.length_drop]; omega
  have hb : lacksB a (a.take n ++ a.drop (n + 1)) = true := List.any_eq_true.mpr ⟨n, List.mem_range.mpr h, decide_eq_true rfl⟩
  unfold slipK
  rw [if_pos hl, if_pos hb]
theorem slip_extra {a : List Nat} {n c : Nat} (h : n ≤ a.length) : slipK a (a.take n ++ ([c] ++ a.drop n)) = some kExtra := by
  have hl : (a.take n ++ ([c] ++ a.drop n)).length = a.length + 1 := by simp; omega
  have e1 : (a.take n ++ ([c] ++ a.drop n)).take n = a.take n := by
    rw [List.take_append_of_le_length (by rw [List.length_take]; omega), List.take_take]; congr 1; omega
  have e2 : (a.take n ++ ([c] ++ a.drop n)).drop (n + 1) = a.drop n := by
    have : (a.take n).length = n := by rw [List.length_take]; omega
    rw [← List.append_assoc, List.drop_append]
    simp [this]
  have hb : lacksB (a.take n ++ ([c] ++ a.drop n)) a = true := List.any_eq_true.mpr ⟨n, List.mem_range.mpr (by omega), decide_eq_true (by rw [e1, e2, List.take_append_drop])⟩
  unfold slipK
  rw [if_neg (by omega), if_pos hl, if_pos hb]
theorem filter_one (N n : Nat) (p : Nat → Bool) (hn : n < N) (h : ∀ k, k < N → p k = decide (k = n)) : (List.range N).filter p = [n] := by
  induction N with
  | zero => omega
  | succ N ih =>
    rw [List.range_succ, List.filter_append]
    by_cases e : n = N
    · subst e
      have h1 : (List.range n).filter p = [] := List.filter_eq_nil_iff.mpr fun k hk => by
        have := List.mem_range.mp hk
        rw [h k (by omega)]; simp; omega
      rw [h1]
      simp [h n (by omega)]
    · rw [ih (by omega) fun k hk => h k (by omega)]
      simp [h N (by omega)]; omega
theorem filter_two (N n : Nat) (p : Nat → Bool) (hn : n + 1 < N) (h : ∀ k, k < N → p k = (decide (k = n) || decide (k = n + 1))) : (List.range N).filter p = [n, n + 1] := by
  induction N with
  | zero => omega
  | succ N ih =>
    rw [List.range_succ, List.filter_append]
    by_cases e : n + 1 = N
    · subst e
      have h1 : (List.range (n + 1)).filter p = [n] := filter_one _ _ _ (by omega) fun k hk => by
        rw [h k (by omega)]
        have : decide (k = n + 1) = false := decide_eq_false (by omega)
        rw [this, Bool.or_false]
      rw [h1]
      simp [h (n + 1) (by omega)]
    · rw [ih (by omega) fun k hk => h k (by omega)]
      simp [h N (by omega)]; omega
theorem at_other {a : List Nat} {n d : Nat} (h : n < a.length) (k : Nat) : (a.take n ++ ([d] ++ a.drop (n + 1)))[k]? = if k = n then some d else a[k]? := by
  have hl : (a.take n).length = n := by rw [List.length_take]; omega
  by_cases h1 : k < n
  · rw [List.getElem?_append_left (by omega), List.getElem?_take, if_pos h1, if_neg (by omega)]
  · rw [List.getElem?_append_right (by omega), hl]
    by_cases h2 : k = n
    · subst h2; simp
    · rw [if_neg h2, List.getElem?_append_right (by simp; omega), List.getElem?_drop]
      congr 1
      simp; omega
theorem slip_other {a : List Nat} {n d : Nat} (h : n < a.length) (hd : a[n]? ≠ some d) : slipK a (a.take n ++ ([d] ++ a.drop (n + 1))) = some kOther := by
  have hl : (a.take n ++ ([d] ++ a.drop (n + 1))).length = a.length := by simp; omega
  have hp : places a (a.take n ++ ([d] ++ a.drop (n + 1))) = [n] := filter_one _ _ _ h fun k hk => by
    rw [at_other h k]
    by_cases e : k = n
    · subst e; simpa using hd
    · rw [if_neg e]; simp [e]
  unfold slipK
  rw [if_neg (by omega), if_neg (by omega), if_neg (by omega), hp]
  rfl
def turnT (a : List Nat) (n : Nat) : List Nat := a.take n ++ (a[n + 1]?.toList ++ (a[n]?.toList ++ a.drop (n + 2)))
theorem turnT_eq {a : List Nat} {n x y : Nat} (h1 : a[n]? = some x) (h2 : a[n + 1]? = some y) : turnT a n = a.take n ++ ([y] ++ ([x] ++ a.drop (n + 2))) := by
  unfold turnT
  rw [h1, h2]; rfl
theorem at_turn {a : List Nat} {n x y : Nat} (h1 : a[n]? = some x) (h2 : a[n + 1]? = some y) (k : Nat) : (turnT a n)[k]? = if k = n then some y else if k = n + 1 then some x else a[k]? := by
  have hn : n + 1 < a.length := by
    apply Nat.lt_of_not_le
    intro hle
    rw [List.getElem?_eq_none hle] at h2
    cases h2
  have hl : (a.take n).length = n := by rw [List.length_take]; omega
  rw [turnT_eq h1 h2]
  by_cases hk : k < n
  · rw [List.getElem?_append_left (by omega), List.getElem?_take, if_pos hk, if_neg (by omega), if_neg (by omega)]
  · rw [List.getElem?_append_right (by omega), hl]
    by_cases e1 : k = n
    · subst e1; simp
    · rw [if_neg e1, List.getElem?_append_right (by simp; omega)]
      by_cases e2 : k = n + 1
      · subst e2; simp
      · rw [if_neg e2, List.getElem?_append_right (by simp; omega), List.getElem?_drop]
        congr 1
        simp; omega
theorem turn_len {a : List Nat} {n : Nat} (h : n + 1 < a.length) : (turnT a n).length = a.length := by
  rw [turnT_eq (List.getElem?_eq_getElem (by omega)) (List.getElem?_eq_getElem h)]
  simp; omega
theorem slip_turned {a : List Nat} {n : Nat} (h : n + 1 < a.length) (hd : a[n]? ≠ a[n + 1]?) : slipK a (turnT a n) = some kTurned := by
  have e1 : a[n]? = some a[n] := List.getElem?_eq_getElem (by omega)
  have e2 : a[n + 1]? = some a[n + 1] := List.getElem?_eq_getElem h
  have hl := turn_len h
  have hp : places a (turnT a n) = [n, n + 1] := filter_two _ _ _ h fun k hk => by
    rw [at_turn e1 e2 k]
    by_cases h1 : k = n
    · subst h1
      rw [if_pos rfl, ← e2]
      simpa using hd
    · rw [if_neg h1]
      by_cases h2 : k = n + 1
      · subst h2
        rw [if_pos rfl, ← e1]
        simpa using fun e => hd e.symm
      · rw [if_neg h2]
        simp [h1, h2]
  have ht : turnedB a (turnT a n) [n, n + 1] = true := by
    show (decide (n + 1 = n + 1) && decide _) = true
    rw [decide_eq_true rfl, Bool.true_and, decide_eq_true_eq]
    apply List.ext_getElem?
    intro k
    have l1 : ((turnT a n).drop n).take 2 = [a[n + 1], a[n]] := by
      apply List.ext_getElem?
      intro j
      rw [List.getElem?_take, List.getElem?_drop, at_turn e1 e2]
      match j with
      | 0 => simp
      | 1 => simp
      | j + 2 => simp; omega
    have l2 : (a.drop n).take 2 = [a[n], a[n + 1]] := by
      apply List.ext_getElem?
      intro j
      rw [List.getElem?_take, List.getElem?_drop]
      match j with
      | 0 => simp [e1]
      | 1 => simp [e2]
      | j + 2 => simp; omega
    rw [l1, l2]; rfl
  unfold slipK
  rw [if_neg (by omega), if_neg (by omega), if_neg (by omega), hp, if_neg (by simp), if_pos ht]
section
variable {P : Program} {w : World} {K : PySem.W.Frag} {mg : PySem.Str → Option Value} {base : Heap}
/-! _law_slip -/
def sp_law_slip : Sp := fun vs H Q _ => ∃ a b : List Nat, vs = [tx a, tx b] ∧ a.length ≤ 10000 ∧ b.length ≤ 10000 ∧ ∀ H', Ex H H' → Q (kV (slipK a b)) H'
theorem lacks_map (l s : List Nat) : ((List.range l.length).map fun k => decide (l.take k ++ l.drop (k + 1) = s)).any id = lacksB l s := by
  unfold lacksB
  rw [List.any_map]
  rfl
theorem ok_law_slip (T : Txt K mg w) : ∃ fd, FunD K d_law_slip.name d_law_slip.qual d_law_slip.params d_law_slip.body d_law_slip.scope (d_law_slip.dvs K) (d_law_slip.kws K) (He.fAd K d_law_slip.at_) fd ∧ FnOk P w K mg base C8.CX0 1 (He.fAd K d_law_slip.at_) fd ["mine", "theirs"] sp_law_slip := by
  obtain ⟨fd, F⟩ := T.f_law_slip
  refine ⟨fd, F, ?_⟩
  have sc := (show FnScope ["mine", "theirs", "size", "apart", "at", "k"] ["mine", "theirs"] (defScope s_law_slip) from ⟨rfl, rfl, rfl, by decide +kernel, rfl, by decide +kernel, by decide +kernel⟩)
  refine F.ok sc (fun vs H Q E h => ?_) (fun cdv A outer s H vs Q E hr h => ?_)
  · obtain ⟨a, b, rfl, l1, l2, k⟩ := h; rfl
  obtain ⟨a, b, rfl, l1, l2, k⟩ := h
  have hu := hr.units
  refine ⟨_, PSs.nox (pss_cons (ps_set (i := 2) sc.nd rfl (by first | exact Or.inl rfl | exact Or.inr rfl) (pe_callB (U.cu_len (K := K)) (by rfl) T.b_len (by decide +kernel) (pa_cons (pv 0) pa_nil)))
  (pss_cons (ps_if (PW.pt (pw_and (pt_cmpR (U.ou_eq (K := K) hu) (pe_callB (U.cu_len (K := K)) (by rfl) T.b_len (by decide +kernel) (pa_cons (pv 1) pa_nil)) (pe_op U.ou_sub (pv 2) pe_int) (nomark _)) (pw_and1 (pt_val (pe_callB (U.cu_any (K := K) rfl) (by rfl) T.b_any (by decide +kernel) (pa_cons (pe_lc (own := [("k", 5)]) (by rfl) sc.nd (pi_range1 (by rfl) T.b_range (pa_cons (pv 2) pa_nil)) (blkOk_by (own := [("k", 5)]) (N := ["mine", "theirs", "size", "apart", "at", "k"]) (sc := (defScope s_law_slip)) (by decide +kernel)) (fun _ _ _ _ _ => (pg_name (i := 5) sc.nd rfl (by first | exact Or.inl rfl | exact Or.inr rfl))) (fun _ _ _ _ _ => pts_nil) (fun _ _ _ _ _ => (pe_cmpR (U.ou_eq (K := K) hu) (pe_op (U.ou_add (K := K)) (pe_slice (U.su (K := K)) (pv 0) po_none (po_some (pv 5))) (pe_slice (U.su (K := K)) (pv 0) (po_some (pe_op (U.ou_add (K := K)) (pv 5) pe_int)) po_none)) (pv 1) (nomark _)))) pa_nil)))))) (pss_one (ps_ret (U.pe_s (l := [108, 111, 115, 116]) (by decide +kernel)))) pss_nil)
  (pss_cons (ps_if (PW.pt (pw_and (pt_cmpR (U.ou_eq (K := K) hu) (pe_callB (U.cu_len (K := K)) (by rfl) T.b_len (by decide +kernel) (pa_cons (pv 1) pa_nil)) (pe_op (U.ou_add (K := K)) (pv 2) pe_int) (nomark _)) (pw_and1 (pt_val (pe_callB (U.cu_any (K := K) rfl) (by rfl) T.b_any (by decide +kernel) (pa_cons (pe_lc (own := [("k", 5)]) (by rfl) sc.nd (pi_range1 (by rfl) T.b_range (pa_cons (pe_op (U.ou_add (K := K)) (pv 2) pe_int) pa_nil)) (blkOk_by (own := [("k", 5)]) (N := ["mine", "theirs", "size", "apart", "at", "k"]) (sc := (defScope s_law_slip)) (by decide +kernel)) (fun _ _ _ _ _ => (pg_name (i := 5) sc.nd rfl (by first | exact Or.inl rfl | exact Or.inr rfl))) (fun _ _ _ _ _ => pts_nil) (fun _ _ _ _ _ => (pe_cmpR (U.ou_eq (K := K) hu) (pe_op (U.ou_add (K := K)) (pe_slice (U.su (K := K)) (pv 1) po_none (po_some (pv 5))) (pe_slice (U.su (K := K)) (pv 1) (po_some (pe_op (U.ou_add (K := K)) (pv 5) pe_int)) po_none)) (pv 0) (nomark _)))) pa_nil)))))) (pss_one (ps_ret (U.pe_s (l := [101, 120, 116, 114, 97]) (by decide +kernel)))) pss_nil)
  (pss_cons (ps_if (pt_cmpR (U.ou_ne (K := K) hu) (pe_callB (U.cu_len (K := K)) (by rfl) T.b_len (by decide +kernel) (pa_cons (pv 1) pa_nil)) (pv 2) (nomark _)) (pss_one (ps_ret pe_non)) pss_nil)
  (pss_cons (ps_setLc (i := 3) (own := [("k", 5)]) rfl sc.nd rfl rfl (sw_true rfl rfl rfl (by decide +kernel)) (pi_range1 (by rfl) T.b_range (pa_cons (pv 2) pa_nil)) (blkOk_by (own := [("k", 5)]) (N := ["mine", "theirs", "size", "apart", "at", "k"]) (sc := (defScope s_law_slip)) (by decide +kernel)) (fun _ _ _ _ _ => (pg_name (i := 5) sc.nd rfl (by first | exact Or.inl rfl | exact Or.inr rfl))) (fun _ _ _ _ _ => pts_one (pt_cmpR (U.ou_ne (K := K) hu) (pe_ix (U.xu (K := K)) (pv 0) (pv 5) (fun _ _ => rfl)) (pe_ix (U.xu (K := K)) (pv 1) (pv 5) (fun _ _ => rfl)) (nomark _))) (fun _ _ _ _ _ => (pv 5)))
  (pss_cons (ps_if (pt_cmpR (U.ou_eq (K := K) hu) (pe_callB (U.cu_len (K := K)) (by rfl) T.b_len (by decide +kernel) (pa_cons (pv 3) pa_nil)) pe_int (nomark _)) (pss_one (ps_ret (U.pe_s (l := [111, 116, 104, 101, 114]) (by decide +kernel)))) pss_nil)
  (pss_cons (ps_if (PW.pt (pw_or (pt_cmpR (U.ou_ne (K := K) hu) (pe_callB (U.cu_len (K := K)) (by rfl) T.b_len (by decide +kernel) (pa_cons (pv 3) pa_nil)) pe_int (nomark _)) (pw_or1 (pt_cmpR (U.ou_ne (K := K) hu) (pe_ix (U.xu (K := K)) (pv 3) pe_int (fun _ _ => rfl)) (pe_op (U.ou_add (K := K)) (pe_ix (U.xu (K := K)) (pv 3) pe_int (fun _ _ => rfl)) pe_int) (nomark _))))) (pss_one (ps_ret pe_non)) pss_nil)
  (pss_cons (ps_set (i := 4) sc.nd rfl (by first | exact Or.inl rfl | exact Or.inr rfl) (pe_ix (U.xu (K := K)) (pv 3) pe_int (fun _ _ => rfl)))
  (pss_one (ps_ret (pe_ifExp (pt_cmpR (U.ou_eq (K := K) hu) (pe_slice (U.su (K := K)) (pv 0) (po_some (pv 4)) (po_some (pe_op (U.ou_add (K := K)) (pv 4) pe_int))) (U.pe_rev (K := K) (pe_slice (U.su (K := K)) (pv 1) (po_some (pv 4)) (po_some (pe_op (U.ou_add (K := K)) (pv 4) pe_int)))) (nomark _)) (U.pe_s (l := [116, 117, 114, 110, 101, 100]) (by decide +kernel)) pe_non))))))))))), ?_⟩
  walk_at "ust0"
  have er : Ex H H := ⟨fun _ _ h => h⟩
  -- one turn of the looks
  have fin_none : ∀ H1, Ex H H1 → slipK a b = none → Q .non H1 := fun H1 e h => qv (k H1 e) (by rw [h]; rfl)
  walk_at "ugo"
  refine br2 (fun h1 => ?_) (fun h1 => ?_)
  · walk_at "ugo"
    refine lc_r (σw := [some (tx a), some (tx b), some (.int (a.length : Int)), none, none, none]) rfl (fun k => some (.bl (decide (a.take k ++ a.drop (k + 1) = b)))) (by rw [z24]; omega) (fun z H' A B hz e hA hB => ?_) (fun D H' hD e hL => ?_)
    · rw [Int.zero_add]
      walk_at "ugo"
      refine sl_to (by walk_at "usd") (by omega) ?_
      walk_at "ugo"
      refine sl_fr (by walk_at "usd") (by omega) ?_
      walk_at "ugo"
      refine Sd.k (by rw [z24, List.length_take, List.length_drop]; omega) ?_
      walk_at "ugo"
      exact hA _ rfl
    · rw [fm_all, Int.toNat_natCast] at hL
      walk_at "ugo"
      refine any_b (LR.lr (K := K) (H := H') (a := D)) ?_
      rw [lacks_map]
      walk_at "ugo"
      refine brb (fun h2 => ?_) (fun h2 => ?_)
      · walk_at "ugo"
        exact qv (k H' e) (by unfold slipK; rw [if_pos (by omega), if_pos h2]; rfl)
      · walk_at "ugo"
        refine brF (by omega) ?_
        walk_at "ugo"
        refine brF (by omega) ?_
        walk_at "ugo"
        exact fin_none H' e (by unfold slipK; rw [if_pos (by omega), if_neg (by simp [h2])])
  walk_at "ugo"
  refine br2 (fun h2 => ?_) (fun h2 => ?_)
  · walk_at "ugo"
    refine lc_r (σw := [some (tx a), some (tx b), some (.int (a.length : Int)), none, none, none]) rfl (fun k => some (.bl (decide (b.take k ++ b.drop (k + 1) = a)))) (by rw [z24]; omega) (fun z H' A B hz e hA hB => ?_) (fun D H' hD e hL => ?_)
    · rw [Int.zero_add]
      walk_at "ugo"
      refine sl_to (by walk_at "usd") (by omega) ?_
      walk_at "ugo"
      refine sl_fr (by walk_at "usd") (by omega) ?_
      walk_at "ugo"
      refine Sd.k (by rw [z24, List.length_take, List.length_drop]; omega) ?_
      walk_at "ugo"
      exact hA _ rfl
    · rw [fm_all, show ((a.length : Int) + 1).toNat = b.length by omega] at hL
      walk_at "ugo"
      refine any_b (LR.lr (K := K) (H := H') (a := D)) ?_
      rw [lacks_map]
      walk_at "ugo"
      refine brb (fun h3 => ?_) (fun h3 => ?_)
      · walk_at "ugo"
        exact qv (k H' e) (by unfold slipK; rw [if_neg (by omega), if_pos (by omega), if_pos h3]; rfl)
      · walk_at "ugo"
        refine brF (by omega) ?_
        walk_at "ugo"
        exact fin_none H' e (by unfold slipK; rw [if_neg (by omega), if_pos (by omega), if_neg (by simp [h3])])
  walk_at "ugo"
  refine br2 (fun h3 => ?_) (fun h3 => ?_)
  rotate_left
  · walk_at "ugo"
    exact fin_none H er (by unfold slipK; rw [if_neg (by omega), if_neg (by omega), if_pos (by omega)])
  have hab : a.length = b.length := by omega
  have e0 : slipK a b = if (places a b).length = 1 then some kOther else if turnedB a b (places a b) = true then some kTurned else none := (if_neg (by omega)).trans ((if_neg (by omega)).trans (if_neg (by omega)))
  walk_at "ugo"
  refine lc_r (σw := [some (tx a), some (tx b), some (.int (a.length : Int)), none, none, none]) rfl (fun k => if decide (a[k]? ≠ b[k]?) = true then some (nI k) else none) (by simp only [Int.toNat_natCast, z24]; omega) (fun z H' A B hz e hA hB => ?_) (fun p H1 hD e1 lm => ?_)
  · have hz1 : z < a.length := by simpa using hz
    have hz2 : z < b.length := by omega
    have e1 : a[z]? = some a[z] := List.getElem?_eq_getElem hz1
    have e2 : b[z]? = some b[z] := List.getElem?_eq_getElem hz2
    refine turn_tt ?_
    rw [Int.zero_add]
    walk_at "ugo"
    refine ix_sg (by walk_at "usd") (atI_nat e1) ?_
    walk_at "ugo"
    refine ix_sg (by walk_at "usd") (atI_nat e2) ?_
    walk_at "ugo"
    refine br2 (fun h => ?_) (fun h => ?_)
    · simp only [List.cons.injEq, and_true] at h
      exact hB (by rw [e1, e2, h]; simp)
    · simp only [List.cons.injEq, and_true] at h
      walk_at "ugo"
      exact hA _ (by rw [e1, e2]; simp [h, nI])
  rw [fm_filter, Int.toNat_natCast] at lm
  have lm : LM H1 p ((places a b).map nI) := lm
  walk_at "ugo"
  have hlm : ((places a b).map nI).length = (places a b).length := List.length_map ..
  refine br2 (fun h4 => ?_) (fun h4 => ?_)
  · walk_at "ugo"
    exact qv (k H1 e1) (by rw [e0, if_pos (by omega)]; rfl)
  rw [if_neg (by omega)] at e0
  walk_at "ugo"
  refine br2 (fun h5 => ?_) (fun h5 => ?_)
  rotate_left
  · walk_at "ugo"
    refine qv (k H1 e1) ?_
    rw [e0]
    have : turnedB a b (places a b) = false := by
      unfold turnedB
      split
      · rename_i p q hp
        rw [hp] at hlm h5
        simp at h5
      · rfl
    rw [this]; rfl
  have h6 : (places a b).length = 2 := by omega
  obtain ⟨u, v, huv⟩ : ∃ u v, places a b = [u, v] := by
    match hh : places a b, h6 with
    | [u, v], _ => exact ⟨u, v, rfl⟩
  have hu1 : u < a.length := places_lt (b := b) (by rw [huv]; simp)
  have hv1 : v < a.length := places_lt (b := b) (by rw [huv]; simp)
  rw [huv] at lm e0
  simp only [List.map_cons, List.map_nil, nI] at lm
  walk_at "ugo"
  refine ix_is (v := .int (v : Int)) (atI_nat (j := 1) rfl) ?_
  walk_at "ugo"
  refine ix_is (v := .int (u : Int)) (atI_nat (j := 0) rfl) ?_
  walk_at "ugo"
  refine br2 (fun h7 => ?_) (fun h7 => ?_)
  rotate_left
  · walk_at "ugo"
    refine qv (k H1 e1) ?_
    rw [e0]
    have : turnedB a b [u, v] = false := by
      show (decide (v = u + 1) && _) = _
      rw [decide_eq_false (by omega)]; rfl
    rw [this]; rfl
  have hv2 : v = u + 1 := by omega
  walk_at "ugo"
  refine ix_is (v := .int (u : Int)) (atI_nat (j := 0) rfl) ?_
  walk_at "ugo"
  refine sl_mid (by walk_at "usd") (by omega) (by omega) (by omega) ?_
  walk_at "ugo"
  refine sl_mid (by walk_at "usd") (by omega) (by omega) (by omega) ?_
  walk_at "ugo"
  refine Sd.k (by rw [z24, List.length_take]; omega) ?_
  walk_at "ugo"
  have e5 : ((u : Int) + 2 - (u : Int)).toNat = 2 := by omega
  rw [e5, Int.toNat_natCast]
  have e6 : turnedB a b [u, v] = decide ((a.drop u).take 2 = ((b.drop u).take 2).reverse) := by
    show (decide (v = u + 1) && _) = _
    rw [decide_eq_true hv2, Bool.true_and]
  rw [e6] at e0
  refine brb (fun h8 => ?_) (fun h8 => ?_)
  · walk_at "ugo"
    exact qv (k H1 e1) (by rw [e0, if_pos h8]; rfl)
  · walk_at "ugo"
    exact qv (k H1 e1) (by rw [e0, if_neg (by rw [h8]; decide)]; rfl)
theorem c_law_slip (T : Txt K mg w) : C8.Cal P w K mg base 1 "_law_slip" sp_law_slip [] := by
  obtain ⟨fd, F, ok⟩ := ok_law_slip (P := P) (w := w) (base := base) T
  exact cal_n F T.g_law_slip (F.bindsN fun _ _ _ _ _ _ us hl => match us, hl with | [_, _], _ => rfl) ok
end
end T

namespace T
open PySem PySem.Spec PyProof.Rows L2 U
open SX (S)
section
variable {P : Program} {w : World} {K : PySem.W.Frag} {mg : PySem.Str → Option Value} {base : Heap}
instance {H : Hp} {Q : VK} {E : XK} {a b : List Nat} : Go (sp_law_slip [.str (S a), .str (S b)] H Q E) (Sd (a.length ≤ 10000) (Sd (b.length ≤ 10000) (∀ H', Ex H H' → Q (kV (slipK a b)) H'))) := ⟨fun k => ⟨a, b, rfl, k.1, k.2.1, k.2.2⟩⟩
/-! _law_sign -/
def sp_law_sign : Sp := fun vs H Q _ => ∃ p : Addr, vs = [.ref p] ∧ PL H p ∧ ∀ c H', Mu H p H' → PL H' p → Q (tx [c]) H'
theorem at_any {a : List Nat} {r : Nat} (h : r < a.length) : ∃ c, atI a (r : Int) = some c := ⟨_, atI_nat (List.getElem?_eq_getElem h)⟩
theorem ok_law_sign (T : Txt K mg w) : ∃ fd, FunD K d_law_sign.name d_law_sign.qual d_law_sign.params d_law_sign.body d_law_sign.scope (d_law_sign.dvs K) (d_law_sign.kws K) (He.fAd K d_law_sign.at_) fd ∧ FnOk P w K mg base C8.CX0 2 (He.fAd K d_law_sign.at_) fd ["pool"] sp_law_sign := by
  obtain ⟨fd, F⟩ := T.f_law_sign
  refine ⟨fd, F, ?_⟩
  have sc := (show FnScope ["pool", "signs", "way"] ["pool"] (defScope s_law_sign) from ⟨rfl, rfl, rfl, by decide +kernel, rfl, by decide +kernel, by decide +kernel⟩)
  refine F.ok sc (fun vs H Q E h => ?_) (fun cdv A outer s H vs Q E hr h => ?_)
  · obtain ⟨p, rfl, pl, k⟩ := h; rfl
  obtain ⟨p, rfl, pl, k⟩ := h
  have hu := hr.units
  refine ⟨_, PSs.nox (pss_cons (ps_set (i := 1) sc.nd rfl (by first | exact Or.inl rfl | exact Or.inr rfl) (U.pe_s (l := [32, 33, 34, 35, 36, 38, 39, 40, 41, 42, 43, 44, 45, 46, 47, 48, 49, 50, 51, 52, 53, 54, 55, 56, 57, 58, 59, 60, 61, 62, 63, 64, 65, 66, 67, 68, 69, 70, 71, 72, 73, 74, 75, 76, 77, 78, 79, 80, 81, 82, 83, 84, 85, 86, 87, 88, 89, 90, 91, 92, 93, 94, 95, 96, 97, 98, 99, 100, 101, 102, 103, 104, 105, 106, 107, 108, 109, 110, 111, 112, 113, 114, 115, 116, 117, 118, 119, 120, 121, 122, 123, 124, 125, 126, 10]) (by decide +kernel)))
  (pss_cons (ps_set (i := 2) sc.nd rfl (by first | exact Or.inl rfl | exact Or.inr rfl) (C8.pe_c (c_law_take T) hr (by decide) rfl (pa_cons (pv 0) (pa_cons pe_int pa_nil))))
  (pss_cons (ps_if (pt_cmpR (U.ou_eq (K := K) hu) (pv 2) pe_int (nomark _)) (pss_one (ps_ret (pe_ix (U.xu (K := K)) (U.pe_s (l := [48, 49, 50, 51, 52, 53, 54, 55, 56, 57, 46, 32, 97, 98, 99]) (by decide +kernel)) (C8.pe_c (c_law_take T) hr (by decide) rfl (pa_cons (pv 0) (pa_cons pe_int pa_nil))) (fun _ _ => rfl)))) pss_nil)
  (pss_cons (ps_if (pt_cmpR (U.ou_eq (K := K) hu) (pv 2) pe_int (nomark _)) (pss_one (ps_ret (pe_ix (U.xu (K := K)) (U.pe_s (l := [97, 98, 99, 100, 101, 102, 103, 104, 105, 106, 107, 108, 109, 110, 111, 112, 113, 114, 115, 116, 117, 118, 119, 120, 121, 122, 48, 49, 50, 51, 52, 53, 54, 55, 56, 57, 46, 32]) (by decide +kernel)) (C8.pe_c (c_law_take T) hr (by decide) rfl (pa_cons (pv 0) (pa_cons pe_int pa_nil))) (fun _ _ => rfl)))) pss_nil)
  (pss_one (ps_ret (pe_ix (U.xu (K := K)) (pv 1) (C8.pe_c (c_law_take T) hr (by decide) rfl (pa_cons (pv 0) (pa_cons pe_int pa_nil))) (fun _ _ => rfl)))))))), ?_⟩
  walk_at "ust0"
  walk_at "ugo"
  intro way H1 hr m1 p1
  walk_at "ugo"
  refine br2 (fun h => ?_) (fun h => ?_)
  · walk_at "ugo"
    intro r H2 hr2 m2 p2
    walk_at "ugo"
    obtain ⟨c, hc⟩ := at_any (a := [48, 49, 50, 51, 52, 53, 54, 55, 56, 57, 46, 32, 97, 98, 99]) (r := r) (by simp; omega)
    refine ix_sg (by rw [z24]; simp) hc ?_
    exact k c H2 mu_pl p2
  walk_at "ugo"
  refine br2 (fun h => ?_) (fun h => ?_)
  · walk_at "ugo"
    intro r H2 hr2 m2 p2
    walk_at "ugo"
    obtain ⟨c, hc⟩ := at_any (a := [97, 98, 99, 100, 101, 102, 103, 104, 105, 106, 107, 108, 109, 110, 111, 112, 113, 114, 115, 116, 117, 118, 119, 120, 121, 122, 48, 49, 50, 51, 52, 53, 54, 55, 56, 57, 46, 32]) (r := r) (by simp; omega)
    refine ix_sg (by rw [z24]; simp) hc ?_
    exact k c H2 mu_pl p2
  · walk_at "ugo"
    intro r H2 hr2 m2 p2
    walk_at "ugo"
    obtain ⟨c, hc⟩ := at_any (a := [32, 33, 34, 35, 36, 38, 39, 40, 41, 42, 43, 44, 45, 46, 47, 48, 49, 50, 51, 52, 53, 54, 55, 56, 57, 58, 59, 60, 61, 62, 63, 64, 65, 66, 67, 68, 69, 70, 71, 72, 73, 74, 75, 76, 77, 78, 79, 80, 81, 82, 83, 84, 85, 86, 87, 88, 89, 90, 91, 92, 93, 94, 95, 96, 97, 98, 99, 100, 101, 102, 103, 104, 105, 106, 107, 108, 109, 110, 111, 112, 113, 114, 115, 116, 117, 118, 119, 120, 121, 122, 123, 124, 125, 126, 10]) (r := r) (by simp; omega)
    refine ix_sg (by rw [z24]; simp) hc ?_
    exact k c H2 mu_pl p2
theorem c_law_sign (T : Txt K mg w) : C8.Cal P w K mg base 2 "_law_sign" sp_law_sign [] := by
  obtain ⟨fd, F, ok⟩ := ok_law_sign (P := P) (w := w) (base := base) T
  exact cal_n F T.g_law_sign (F.bindsN fun _ _ _ _ _ _ us hl => match us, hl with | [_], _ => rfl) ok
/-! _law_unlike -/
theorem turn_hit {pl n i : Nat} (hn : 0 < n) (hi : i < n) : ∃ j, j < n ∧ (pl + j) % n = i := by
  have hr := Nat.mod_lt pl hn
  have hd := Nat.div_add_mod pl n
  by_cases h : pl % n ≤ i
  · refine ⟨i - pl % n, by omega, ?_⟩
    have e : pl + (i - pl % n) = n * (pl / n) + i := by omega
    rw [e, Nat.mul_add_mod, Nat.mod_eq_of_lt hi]
  · refine ⟨i + n - pl % n, by omega, ?_⟩
    have e : pl + (i + n - pl % n) = n * (pl / n + 1) + i := by rw [Nat.mul_succ]; omega
    rw [e, Nat.mul_add_mod, Nat.mod_eq_of_lt hi]
def sp_law_unlike : Sp := fun vs H Q _ => ∃ (a : List Nat) (pl : Nat), vs = [tx a, .int (pl : Int)] ∧ 2 ≤ a.length ∧ a.length ≤ 10000 ∧ ∀ n : Nat, n + 1 < a.length → ((∃ i, i + 1 < a.length ∧ a[i]? ≠ a[i + 1]?) → a[n]? ≠ a[n + 1]?) → Q (.int (n : Int)) H
theorem ok_law_unlike (T : Txt K mg w) : ∃ fd, FunD K d_law_unlike.name d_law_unlike.qual d_law_unlike.params d_law_unlike.body d_law_unlike.scope (d_law_unlike.dvs K) (d_law_unlike.kws K) (He.fAd K d_law_unlike.at_) fd ∧ FnOk P w K mg base C8.CX0 1 (He.fAd K d_law_unlike.at_) fd ["signs", "place"] sp_law_unlike := by
  obtain ⟨fd, F⟩ := T.f_law_unlike
  refine ⟨fd, F, ?_⟩
  have sc := (show FnScope ["signs", "place", "at", "k"] ["signs", "place"] (defScope s_law_unlike) from ⟨rfl, rfl, rfl, by decide +kernel, rfl, by decide +kernel, by decide +kernel⟩)
  refine F.ok sc (fun vs H Q E h => ?_) (fun cdv A outer s H vs Q E hr h => ?_)
  · obtain ⟨a, pl, rfl, l1, l2, k⟩ := h; rfl
  obtain ⟨a, pl, rfl, l1, l2, k⟩ := h
  have hu := hr.units
  refine ⟨_, PSs.nox (pss_cons (ps_set (i := 2) sc.nd rfl (by first | exact Or.inl rfl | exact Or.inr rfl) (pe_op U.ou_mod (pv 1) (pe_op U.ou_sub (pe_callB (U.cu_len (K := K)) (by rfl) T.b_len (by decide +kernel) (pa_cons (pv 0) pa_nil)) pe_int)))
  (pss_cons (ps_for PassesOwn.never rfl (pi_range1 (by rfl) T.b_range (pa_cons (pe_op U.ou_sub (pe_callB (U.cu_len (K := K)) (by rfl) T.b_len (by decide +kernel) (pa_cons (pv 0) pa_nil)) pe_int) pa_nil)) (pg_name (i := 3) sc.nd rfl (by first | exact Or.inl rfl | exact Or.inr rfl)) (pss_cons (ps_if (pt_cmpR (U.ou_ne (K := K) hu) (pe_ix (U.xu (K := K)) (pv 0) (pv 2) (fun _ _ => rfl)) (pe_ix (U.xu (K := K)) (pv 0) (pe_op (U.ou_add (K := K)) (pv 2) pe_int) (fun _ _ => rfl)) (nomark _)) (pss_one (ps_ret (pv 2))) pss_nil)
    (pss_one (ps_set (i := 2) sc.nd rfl (by first | exact Or.inl rfl | exact Or.inr rfl) (pe_op U.ou_mod (pe_op (U.ou_add (K := K)) (pv 2) pe_int) (pe_op U.ou_sub (pe_callB (U.cu_len (K := K)) (by rfl) T.b_len (by decide +kernel) (pa_cons (pv 0) pa_nil)) pe_int))))))
  (pss_one (ps_ret (pv 2))))), ?_⟩
  walk_at "ust0"
  obtain ⟨N, hN⟩ : ∃ N, a.length = N + 1 := ⟨a.length - 1, by omega⟩
  have hN0 : 0 < N := by omega
  have eN : (a.length : Int) - 1 = (N : Int) := by omega
  walk_at "ugo"
  rw [eN]
  refine for_r (n := (N : Int).toNat) (i := 0) (fun i σ H' => (∃ o, σ = [some (tx a), some (.int (pl : Int)), some (.int (((pl + i) % N : Nat) : Int)), o]) ∧ H' = H ∧ ∀ j, j < i → a[(pl + j) % N]? = a[(pl + j) % N + 1]?) ⟨⟨none, by simp⟩, rfl, fun j hj => by omega⟩ (fun i σ H' hi h => ?_) (fun σ H' h => ?_)
  · obtain ⟨⟨o, rfl⟩, rfl, hj⟩ := h
    have hm := Nat.mod_lt (pl + i) hN0
    have e1 : a[(pl + i) % N]? = some a[(pl + i) % N] := List.getElem?_eq_getElem (by omega)
    have e2 : a[(pl + i) % N + 1]? = some a[(pl + i) % N + 1] := List.getElem?_eq_getElem (by omega)
    walk_at "ugo"
    refine ix_sg (by walk_at "usd") (atI_nat e1) ?_
    walk_at "ugo"
    refine ix_sg (by walk_at "usd") (atI_nat (j := (pl + i) % N + 1) e2) ?_
    walk_at "ugo"
    refine br2 (fun h => ?_) (fun h => ?_)
    · simp only [List.cons.injEq, and_true] at h
      walk_at "ugo"
      rw [eN]
      have e5 : (((pl + i) % N : Nat) : Int) + 1 = (((pl + i) % N + 1 : Nat) : Int) := by omega
      rw [e5]
      have e6 : ((((pl + i) % N + 1 : Nat) : Int)) % (N : Int) = (((pl + (i + 1)) % N : Nat) : Int) := by
        rw [← Int.natCast_emod, Nat.mod_add_mod]; rfl
      rw [e6]
      exact ⟨⟨_, rfl⟩, rfl, fun j hj2 => by
        by_cases e : j = i
        · subst e; rw [e1, e2, h]
        · exact hj j (by omega)⟩
    · simp only [List.cons.injEq, and_true] at h
      walk_at "ugo"
      exact k _ (by omega) fun _ => by rw [e1, e2]; simpa using h
  · obtain ⟨⟨o, rfl⟩, rfl, hj⟩ := h
    have hm := Nat.mod_lt (pl + (N : Int).toNat) hN0
    walk_at "ugo"
    refine k _ (by omega) ?_
    rintro ⟨i, hi, hne⟩
    obtain ⟨j, hjN, e⟩ := turn_hit (pl := pl) hN0 (show i < N by omega)
    exact absurd (by have := hj j (by omega); rw [e] at this; exact this) hne
theorem c_law_unlike (T : Txt K mg w) : C8.Cal P w K mg base 1 "_law_unlike" sp_law_unlike [] := by
  obtain ⟨fd, F, ok⟩ := ok_law_unlike (P := P) (w := w) (base := base) T
  exact cal_n F T.g_law_unlike (F.bindsN fun _ _ _ _ _ _ us hl => match us, hl with | [_, _], _ => rfl) ok
end
end T

namespace T
open PySem PySem.Spec PyProof.Rows L2 U
open SX (S)
section
variable {P : Program} {w : World} {K : PySem.W.Frag} {mg : PySem.Str → Option Value} {base : Heap}
def Unl (a : List Nat) : Prop := ∃ i, i + 1 < a.length ∧ a[i]? ≠ a[i + 1]?
instance {H : Hp} {Q : VK} {E : XK} {a : List Nat} {pl : Nat} : Go (sp_law_unlike [.str (S a), .int (pl : Int)] H Q E) (Sd (2 ≤ a.length) (Sd (a.length ≤ 10000) (∀ n : Nat, n + 1 < a.length → (Unl a → a[n]? ≠ a[n + 1]?) → Q (.int (n : Int)) H))) := ⟨fun k => ⟨a, pl, rfl, k.1, k.2.1, k.2.2⟩⟩
/-! _law_made -/
/-- t comes of a by such a slip at n -/
structure Made (a k t : List Nat) (n : Nat) : Prop where
  len : t.length ≤ a.length + 1 ∧ a.length ≤ t.length + 1
  grow : k ≠ kLost → a.length ≤ t.length
  lost : k = kLost → n < a.length ∧ t = a.take n ++ a.drop (n + 1)
  extra : k = kExtra → n ≤ a.length ∧ ∃ c, t = a.take n ++ ([c] ++ a.drop n)
  other : k = kOther → n < a.length ∧ ∃ d, t = a.take n ++ ([d] ++ a.drop (n + 1)) ∧ (126 ∉ a → a[n]? ≠ some d)
  turned : k = kTurned → n + 1 < a.length ∧ t = turnT a n ∧ (Unl a → a[n]? ≠ a[n + 1]?)
def sp_law_made : Sp := fun vs H Q _ => ∃ (a k : List Nat) (pl c : Nat), vs = [tx a, tx k, .int (pl : Int), tx [c]] ∧ Kind k ∧ 2 ≤ a.length ∧ a.length ≤ 9000 ∧ ∀ (t : List Nat) (n : Nat) (q : Addr) H', Made a k t n → Ex H H' → TM H' q [tx t, .int (n : Int)] → Q (.ref q) H'
theorem ok_law_made (T : Txt K mg w) : ∃ fd, FunD K d_law_made.name d_law_made.qual d_law_made.params d_law_made.body d_law_made.scope (d_law_made.dvs K) (d_law_made.kws K) (He.fAd K d_law_made.at_) fd ∧ FnOk P w K mg base C8.CX0 2 (He.fAd K d_law_made.at_) fd ["signs", "word", "place", "glyph"] sp_law_made := by
  obtain ⟨fd, F⟩ := T.f_law_made
  refine ⟨fd, F, ?_⟩
  have sc := (show FnScope ["signs", "word", "place", "glyph", "at"] ["signs", "word", "place", "glyph"] (defScope s_law_made) from ⟨rfl, rfl, rfl, by decide +kernel, rfl, by decide +kernel, by decide +kernel⟩)
  refine F.ok sc (fun vs H Q E h => ?_) (fun cdv A outer s H vs Q E hr h => ?_)
  · obtain ⟨a, z, pl, c, rfl, hk, l1, l2, k⟩ := h; rfl
  obtain ⟨a, z, pl, c, rfl, hk, l1, l2, k⟩ := h
  have hu := hr.units
  refine ⟨_, PSs.nox (pss_cons (ps_if (pt_cmpR (U.ou_eq (K := K) hu) (pv 1) (U.pe_s (l := [101, 120, 116, 114, 97]) (by decide +kernel)) (nomark _)) (pss_cons (ps_set (i := 4) sc.nd rfl (by first | exact Or.inl rfl | exact Or.inr rfl) (pe_op U.ou_mod (pv 2) (pe_op (U.ou_add (K := K)) (pe_callB (U.cu_len (K := K)) (by rfl) T.b_len (by decide +kernel) (pa_cons (pv 0) pa_nil)) pe_int)))
    (pss_one (ps_ret (pe_tup (pa_cons (pe_op (U.ou_add (K := K)) (pe_op (U.ou_add (K := K)) (pe_slice (U.su (K := K)) (pv 0) po_none (po_some (pv 4))) (pv 3)) (pe_slice (U.su (K := K)) (pv 0) (po_some (pv 4)) po_none)) (pa_cons (pv 4) pa_nil)))))) pss_nil)
  (pss_cons (ps_set (i := 4) sc.nd rfl (by first | exact Or.inl rfl | exact Or.inr rfl) (pe_op U.ou_mod (pv 2) (pe_callB (U.cu_len (K := K)) (by rfl) T.b_len (by decide +kernel) (pa_cons (pv 0) pa_nil))))
  (pss_cons (ps_if (pt_cmpR (U.ou_eq (K := K) hu) (pv 1) (U.pe_s (l := [108, 111, 115, 116]) (by decide +kernel)) (nomark _)) (pss_one (ps_ret (pe_tup (pa_cons (pe_op (U.ou_add (K := K)) (pe_slice (U.su (K := K)) (pv 0) po_none (po_some (pv 4))) (pe_slice (U.su (K := K)) (pv 0) (po_some (pe_op (U.ou_add (K := K)) (pv 4) pe_int)) po_none)) (pa_cons (pv 4) pa_nil))))) pss_nil)
  (pss_cons (ps_if (pt_cmpR (U.ou_eq (K := K) hu) (pv 1) (U.pe_s (l := [111, 116, 104, 101, 114]) (by decide +kernel)) (nomark _)) (pss_cons (ps_if (pt_cmpR (U.ou_eq (K := K) hu) (pe_ix (U.xu (K := K)) (pv 0) (pv 4) (fun _ _ => rfl)) (pv 3) (nomark _)) (pss_one (ps_set (i := 3) sc.nd rfl (by first | exact Or.inl rfl | exact Or.inr rfl) (U.pe_s (l := [126]) (by decide +kernel)))) pss_nil)
    (pss_one (ps_ret (pe_tup (pa_cons (pe_op (U.ou_add (K := K)) (pe_op (U.ou_add (K := K)) (pe_slice (U.su (K := K)) (pv 0) po_none (po_some (pv 4))) (pv 3)) (pe_slice (U.su (K := K)) (pv 0) (po_some (pe_op (U.ou_add (K := K)) (pv 4) pe_int)) po_none)) (pa_cons (pv 4) pa_nil)))))) pss_nil)
  (pss_cons (ps_set (i := 4) sc.nd rfl (by first | exact Or.inl rfl | exact Or.inr rfl) (C8.pe_c (c_law_unlike T) hr (by decide) rfl (pa_cons (pv 0) (pa_cons (pv 2) pa_nil))))
  (pss_one (ps_ret (pe_tup (pa_cons (pe_op (U.ou_add (K := K)) (pe_op (U.ou_add (K := K)) (pe_op (U.ou_add (K := K)) (pe_slice (U.su (K := K)) (pv 0) po_none (po_some (pv 4))) (pe_ix (U.xu (K := K)) (pv 0) (pe_op (U.ou_add (K := K)) (pv 4) pe_int) (fun _ _ => rfl))) (pe_ix (U.xu (K := K)) (pv 0) (pv 4) (fun _ _ => rfl))) (pe_slice (U.su (K := K)) (pv 0) (po_some (pe_op (U.ou_add (K := K)) (pv 4) pe_int)) po_none)) (pa_cons (pv 4) pa_nil)))))))))), ?_⟩
  walk_at "ust0"
  walk_at "ugo"
  refine br2 (fun h1 => ?_) (fun h1 => ?_)
  · subst h1
    walk_at "ugo"
    have e1 : (pl : Int) % ((a.length : Int) + 1) = ((pl % (a.length + 1) : Nat) : Int) := by rw [Int.natCast_emod]; rfl
    have hm := Nat.mod_lt pl (show 0 < a.length + 1 by omega)
    rw [e1]
    generalize pl % (a.length + 1) = n at hm ⊢
    refine sl_to (by walk_at "usd") (by omega) ?_
    walk_at "ugo"
    refine Sd.k (by rw [z24, List.length_take]; simp; omega) ?_
    walk_at "ugo"
    refine sl_fr (by walk_at "usd") (by omega) ?_
    walk_at "ugo"
    refine Sd.k (by rw [z24]; simp; omega) ?_
    walk_at "ugo"
    refine al_t' fun q H' nw ex tm => ?_
    have e2 : List.take ((n : Int)).toNat a ++ [c] ++ List.drop ((n : Int)).toNat a = a.take n ++ ([c] ++ a.drop n) := by simp
    rw [e2] at tm
    exact k _ n q H' ⟨by simp; omega, fun _ => by simp; omega, (fun e => by cases e), fun _ => ⟨by omega, c, rfl⟩, (fun e => by cases e), (fun e => by cases e)⟩ ex tm
  walk_at "ugo"
  have e1 : (pl : Int) % (a.length : Int) = ((pl % a.length : Nat) : Int) := by omega
  have hm := Nat.mod_lt pl (show 0 < a.length by omega)
  rw [e1]
  generalize pl % a.length = n at hm ⊢
  walk_at "ugo"
  refine br2 (fun h2 => ?_) (fun h2 => ?_)
  · subst h2
    walk_at "ugo"
    refine sl_to (by walk_at "usd") (by omega) ?_
    walk_at "ugo"
    refine sl_fr (by walk_at "usd") (by omega) ?_
    walk_at "ugo"
    refine Sd.k (by rw [z24, List.length_take, List.length_drop]; omega) ?_
    walk_at "ugo"
    refine al_t' fun q H' nw ex tm => ?_
    have e2 : List.take ((n : Int)).toNat a ++ List.drop ((n : Int) + 1).toNat a = a.take n ++ a.drop (n + 1) := by rw [show ((n : Int) + 1).toNat = n + 1 by omega]; simp
    rw [e2] at tm
    exact k _ n q H' ⟨by simp; omega, (fun e => absurd rfl e), fun _ => ⟨by omega, rfl⟩, (fun e => by cases e), (fun e => by cases e), (fun e => by cases e)⟩ ex tm
  walk_at "ugo"
  refine br2 (fun h3 => ?_) (fun h3 => ?_)
  · subst h3
    have e1 : a[n]? = some a[n] := List.getElem?_eq_getElem (by omega)
    walk_at "ugo"
    refine ix_sg (by walk_at "usd") (atI_nat e1) ?_
    walk_at "ugo"
    have fin : ∀ (d : Nat), (126 ∉ a → a[n] ≠ d) → (126 ∉ a → a[n]? ≠ some d) := fun d h h2 e => by
      rw [e1] at e
      injection e with e
      exact h h2 e
    have e3 : ((n : Int) + 1).toNat = n + 1 := by omega
    refine br2 (fun h4 => ?_) (fun h4 => ?_)
    · walk_at "ugo"
      refine sl_to (by walk_at "usd") (by omega) ?_
      walk_at "ugo"
      refine Sd.k (by rw [z24, List.length_take]; simp; omega) ?_
      walk_at "ugo"
      refine sl_fr (by walk_at "usd") (by omega) ?_
      walk_at "ugo"
      refine Sd.k (by rw [z24]; simp; omega) ?_
      walk_at "ugo"
      refine al_t' fun q H' nw ex tm => ?_
      have e2 : List.take ((n : Int)).toNat a ++ [126] ++ List.drop ((n : Int) + 1).toNat a = a.take n ++ ([126] ++ a.drop (n + 1)) := by rw [e3]; simp
      rw [e2] at tm
      exact k _ n q H' ⟨by simp; omega, fun _ => by simp; omega, (fun e => by cases e), (fun e => by cases e), fun _ => ⟨by omega, 126, rfl, fin 126 fun h e => h (by rw [← e]; exact List.getElem_mem _)⟩, (fun e => by cases e)⟩ ex tm
    · walk_at "ugo"
      refine sl_to (by walk_at "usd") (by omega) ?_
      walk_at "ugo"
      refine Sd.k (by rw [z24, List.length_take]; simp; omega) ?_
      walk_at "ugo"
      refine sl_fr (by walk_at "usd") (by omega) ?_
      walk_at "ugo"
      refine Sd.k (by rw [z24]; simp; omega) ?_
      walk_at "ugo"
      refine al_t' fun q H' nw ex tm => ?_
      have e2 : List.take ((n : Int)).toNat a ++ [c] ++ List.drop ((n : Int) + 1).toNat a = a.take n ++ ([c] ++ a.drop (n + 1)) := by rw [e3]; simp
      rw [e2] at tm
      exact k _ n q H' ⟨by simp; omega, fun _ => by simp; omega, (fun e => by cases e), (fun e => by cases e), fun _ => ⟨by omega, c, rfl, fin c fun _ e => h4 (by rw [e])⟩, (fun e => by cases e)⟩ ex tm
  walk_at "ugo"
  intro m hm1 hm2
  walk_at "ugo"
  have e1 : a[m]? = some a[m] := List.getElem?_eq_getElem (by omega)
  have e2 : a[m + 1]? = some a[m + 1] := List.getElem?_eq_getElem hm1
  have ht : z = kTurned := by
    rcases hk with rfl | rfl | rfl | rfl
    · exact absurd rfl h3
    · exact absurd rfl h2
    · exact absurd rfl h1
    · rfl
  subst ht
  refine sl_to (by walk_at "usd") (by omega) ?_
  walk_at "ugo"
  refine ix_sg (by walk_at "usd") (atI_nat (j := m + 1) e2) ?_
  walk_at "ugo"
  refine Sd.k (by rw [z24, List.length_take]; simp; omega) ?_
  walk_at "ugo"
  refine ix_sg (by walk_at "usd") (atI_nat e1) ?_
  walk_at "ugo"
  refine Sd.k (by rw [z24]; simp; omega) ?_
  walk_at "ugo"
  refine sl_fr (by walk_at "usd") (by omega) ?_
  walk_at "ugo"
  refine Sd.k (by rw [z24]; simp; omega) ?_
  walk_at "ugo"
  refine al_t' fun q H' nw ex tm => ?_
  have e3 : List.take ((m : Int)).toNat a ++ [a[m + 1]] ++ [a[m]] ++ List.drop ((m : Int) + 2).toNat a = turnT a m := by
    rw [turnT_eq e1 e2, show ((m : Int) + 2).toNat = m + 2 by omega]; simp
  rw [e3] at tm
  have hl := turn_len hm1
  exact k _ m q H' ⟨by omega, fun _ => by omega, (fun e => by cases e), (fun e => by cases e), (fun e => by cases e), fun _ => ⟨hm1, rfl, hm2⟩⟩ ex tm
theorem c_law_made (T : Txt K mg w) : C8.Cal P w K mg base 2 "_law_made" sp_law_made [] := by
  obtain ⟨fd, F, ok⟩ := ok_law_made (P := P) (w := w) (base := base) T
  exact cal_n F T.g_law_made (F.bindsN fun _ _ _ _ _ _ us hl => match us, hl with | [_, _, _, _], _ => rfl) ok
instance {H : Hp} {Q : VK} {E : XK} {a z : List Nat} {pl c : Nat} : Go (sp_law_made [.str (S a), .str (S z), .int (pl : Int), .str (S [c])] H Q E) (Sd (Kind z) (Sd (2 ≤ a.length) (Sd (a.length ≤ 9000) (∀ (t : List Nat) (n : Nat) (q : Addr) H', Made a z t n → Ex H H' → TM H' q [tx t, .int (n : Int)] → Q (.ref q) H')))) := ⟨fun k => ⟨a, z, pl, c, rfl, k.1, k.2.1, k.2.2.1, k.2.2.2⟩⟩
/-! _law_kind_right -/
def sp_law_kind_right (K : PySem.W.Frag) : Sp := fun vs H Q _ => ∃ (x : Addr) (m : Pt) (b : List Nat), vs = [.ref x, tx m.text2, tx b] ∧ MkO K H x m ∧ m.text2.length ≤ 10000 ∧ b.length ≤ 10000 ∧ ∀ H', Ex H H' → Q (.bl true) H'
theorem ok_law_kind_right (T : Txt K mg w) : ∃ fd, FunD K d_law_kind_right.name d_law_kind_right.qual d_law_kind_right.params d_law_kind_right.body d_law_kind_right.scope (d_law_kind_right.dvs K) (d_law_kind_right.kws K) (He.fAd K d_law_kind_right.at_) fd ∧ FnOk P w K mg base C8.CX0 5 (He.fAd K d_law_kind_right.at_) fd ["spine", "signs", "wording"] (sp_law_kind_right K) := by
  obtain ⟨fd, F⟩ := T.f_law_kind_right
  refine ⟨fd, F, ?_⟩
  have sc := (show FnScope ["spine", "signs", "wording", "told", "due"] ["spine", "signs", "wording"] (defScope s_law_kind_right) from ⟨rfl, rfl, rfl, by decide +kernel, rfl, by decide +kernel, by decide +kernel⟩)
  refine F.ok sc (fun vs H Q E h => ?_) (fun cdv A outer s H vs Q E hr h => ?_)
  · obtain ⟨x, m, b, rfl, mk, l1, l2, k⟩ := h; rfl
  obtain ⟨x, m, b, rfl, mk, l1, l2, k⟩ := h
  have hu := hr.units
  refine ⟨_, PSs.nox (pss_cons (ps_set (i := 3) sc.nd rfl (by first | exact Or.inl rfl | exact Or.inr rfl) (C8.pe_c (c_slip_kind T) hr (by decide) rfl (pa_cons (pv 0) (pa_cons (pv 2) pa_nil))))
  (pss_cons (ps_set (i := 4) sc.nd rfl (by first | exact Or.inl rfl | exact Or.inr rfl) (C8.pe_c (c_law_slip T) hr (by decide) rfl (pa_cons (pv 1) (pa_cons (pv 2) pa_nil))))
  (pss_cons (ps_if (pt_cmpR U.ou_is (pv 4) pe_non (nomark _)) (pss_one (ps_ret (pe_cmpR U.ou_is (pv 3) pe_non (nomark _)))) pss_nil)
  (pss_one (ps_ret (pe_and (pe_callB (U.cu_isi (K := K)) (by rfl) T.b_isinstance (by decide +kernel) (pa_cons (pv 3) (pa_cons (U.pe_ty (n := "str") rfl T.b_str (by decide +kernel)) pa_nil))) (pe_one (pe_cmpR (U.ou_eq (K := K) hu) (pv 3) (pv 4) (nomark _))))))))), ?_⟩
  walk_at "ust0"
  rw [← text_eq m] at l1 ⊢
  walk_at "ugo"
  intro H1 e1
  walk_at "ugo"
  intro H2 e2
  walk_at "ugo"
  have er : Ex H H2 := ⟨Et.et⟩
  cases h : slipK m.text b with
  | none =>
    rw [show kV none = V.non from rfl]
    walk_at "ugo"
    exact k H2 er
  | some z =>
    rw [show kV (some z) = V.str (S z) from rfl]
    walk_at "ugo"
    exact qb (k H2 er) (by simp)
theorem c_law_kind_right (T : Txt K mg w) : C8.Cal P w K mg base 5 "_law_kind_right" (sp_law_kind_right K) [] := by
  obtain ⟨fd, F, ok⟩ := ok_law_kind_right (P := P) (w := w) (base := base) T
  exact cal_n F T.g_law_kind_right (F.bindsN fun _ _ _ _ _ _ us hl => match us, hl with | [_, _, _], _ => rfl) ok
instance {H : Hp} {Q : VK} {E : XK} {x : Addr} {m : Pt} {b : List Nat} [mk : MkO K H x m] : Go (sp_law_kind_right K [.ref x, .str (S m.text2), .str (S b)] H Q E) (Sd (m.text2.length ≤ 10000) (Sd (b.length ≤ 10000) (∀ H', Ex H H' → Q (.bl true) H'))) := ⟨fun k => ⟨x, m, b, rfl, mk, k.1, k.2.1, k.2.2⟩⟩
/-! the signs of a mark's text -/
def Sig (c : Nat) : Prop := c = 32 ∨ c = 46 ∨ Fg c ∨ Lt c
theorem maker_sig {a : List Nat} (h : Maker a) : ∀ c ∈ a, Sig c := by
  obtain ⟨c, t, rfl, hc, ht⟩ := h.ex
  intro d hd
  rcases List.mem_cons.mp hd with rfl | hd
  · exact .inr (.inr (.inr hc))
  · exact .inr (.inr (.inl (ht.all d hd)))
theorem nm_sig (n : Nat) : ∀ c ∈ nm n, Sig c := fun c hc => .inr (.inr (.inl (nm_fig n c hc)))
theorem text_sig {m : Pt} (ok : m.Ok) : ∀ c ∈ m.text2, Sig c := by
  intro c hc
  unfold Pt.text2 Pt.t1 at hc
  rcases List.mem_append.mp hc with hc | hc
  · rcases List.mem_append.mp hc with hc | hc
    · rcases List.mem_append.mp hc with hc | hc
      · rcases List.mem_append.mp hc with hc | hc
        · rcases List.mem_append.mp hc with hc | hc
          · exact .inr (.inr (.inr (ok.l.all c hc)))
          · exact nm_sig _ c hc
        · split at hc
          · cases hc
          · rename_i hp
            rcases List.mem_cons.mp hc with rfl | hc
            · exact .inr (.inl rfl)
            · exact .inr (.inr (.inl ((ok.p.resolve_left hp).all c hc)))
      · unfold handT at hc
        obtain ⟨a, ha, hc⟩ := List.mem_flatMap.mp hc
        rcases List.mem_cons.mp hc with rfl | hc
        · exact .inl rfl
        · exact maker_sig (ok.h a ha).1 c hc
    · cases e : m.age with
      | none => rw [e] at hc; cases hc
      | some n =>
        rw [e] at hc
        rcases List.mem_cons.mp hc with rfl | hc
        · exact .inl rfl
        · exact nm_sig _ c hc
  · cases e : m.twin with
    | none => rw [e] at hc; cases hc
    | some n =>
      rw [e] at hc
      rcases List.mem_cons.mp hc with rfl | hc
      · exact .inl rfl
      rcases List.mem_cons.mp hc with rfl | hc
      · exact .inr (.inr (.inr ⟨by omega, by omega⟩))
      rcases List.mem_cons.mp hc with rfl | hc
      · exact .inr (.inl rfl)
      · exact nm_sig _ c hc
theorem no_126 {m : Pt} (ok : m.Ok) : 126 ∉ m.text2 := fun h => by
  rcases text_sig ok _ h with h | h | h | h
  · cases h
  · cases h
  · exact absurd h.2 (by decide)
  · exact absurd h.2 (by decide)
/-- a letter stands ahead, a figure behind: two neighbours differ -/
theorem unl_of {a : List Nat} {i j x y : Nat} (hij : i ≤ j) (h1 : a[i]? = some x) (h2 : a[j]? = some y) (h : x ≠ y) : Unl a := by
  induction j generalizing y with
  | zero =>
    have : i = 0 := by omega
    subst this
    rw [h1] at h2
    injection h2 with h2
    exact absurd h2 h
  | succ j ih =>
    by_cases e : i = j + 1
    · subst e
      rw [h1] at h2
      injection h2 with h2
      exact absurd h2 h
    · have hlt : j + 1 < a.length := by
        apply Nat.lt_of_not_le
        intro hle
        rw [List.getElem?_eq_none hle] at h2
        cases h2
      have e3 : a[j]? = some a[j] := List.getElem?_eq_getElem (by omega)
      by_cases e4 : x = a[j]
      · refine ⟨j, hlt, ?_⟩
        rw [e3, h2, ← e4]
        intro e
        injection e with e
        exact h e
      · exact ih (by omega) e3 e4
theorem text_unl {m : Pt} (ok : m.Ok) : Unl m.text2 := by
  have hl := ok.l.len
  obtain ⟨c, cs, e⟩ : ∃ c cs, m.lets = c :: cs := List.exists_cons_of_ne_nil (by intro e; rw [e] at hl; simp at hl)
  obtain ⟨d, ds, e2⟩ : ∃ d ds, nm m.num = d :: ds := List.exists_cons_of_ne_nil (TL.numL_ne m.num)
  have hc := ok.l.all c (by rw [e]; simp)
  have hd := nm_fig m.num d (by rw [e2]; simp)
  have t : ∃ r, m.text2 = c :: cs ++ (d :: r) := by
    unfold Pt.text2 Pt.t1
    rw [e, e2]
    simp
  obtain ⟨r, t⟩ := t
  refine unl_of (i := 0) (j := cs.length + 1) (x := c) (y := d) (by omega) (by rw [t]; rfl) ?_ (by omega)
  rw [t, List.getElem?_append_right (by simp)]
  simp
theorem text_two {m : Pt} (ok : m.Ok) : 2 ≤ m.text2.length := by
  obtain ⟨i, h, _⟩ := text_unl ok
  omega
end
end T

namespace T
open PySem PySem.Spec PyProof.Rows L2 U
open SX (S)
section
variable {P : Program} {w : World} {K : PySem.W.Frag} {mg : PySem.Str → Option Value} {base : Heap}
instance {H : Hp} {Q : VK} {E : XK} {q : Addr} {m : Pt} [pt : PtL H q m] : Go (sp_law_text [.ref q] H Q E) (Sd m.W (Q (tx m.text2) H)) := ⟨fun k => ⟨q, m, rfl, pt, k.1, k.2⟩⟩
instance {H : Hp} {Q : VK} {E : XK} {q : Addr} {m : Pt} [pt : PtL H q m] : Go (sp_law_mark K [.ref q] H Q E) (Sd m.Ok (∀ x H', Nw H x → Ex H H' → MkO K H' x m → Q (.ref x) H')) := ⟨fun k => ⟨q, m, rfl, pt, k.1, k.2⟩⟩
theorem slp {H : Hp} {Q : VK} {E : XK} {x : Addr} {m : Pt} {k t : List Nat} {n : Nat} {g : V} {s : List Nat} [mk : MkO K H x m] (l : m.text2.length ≤ 10000) (ok : SlipOk m.text2 k n g s) (e : slipT m.text2 k n s = t) (q : Q (tx t) H) : sp_slipped K [.ref x, .str (S k), .int (n : Int), g] H Q E :=
  ⟨x, m, k, n, g, s, rfl, mk, by rw [text_eq]; exact l, by rw [text_eq]; exact ok, by rw [text_eq, e]; exact q⟩
theorem made_slip {a k t : List Nat} {n : Nat} (h : Made a k t n) (hk : Kind k) (h126 : 126 ∉ a) (hu : Unl a) : slipK a t = some k := by
  rcases hk with rfl | rfl | rfl | rfl
  · obtain ⟨h1, d, rfl, h3⟩ := h.other rfl
    exact slip_other h1 (h3 h126)
  · obtain ⟨h1, rfl⟩ := h.lost rfl
    exact slip_lost h1
  · obtain ⟨h1, c, rfl⟩ := h.extra rfl
    exact slip_extra h1
  · obtain ⟨h1, rfl, h3⟩ := h.turned rfl
    exact slip_turned h1 (h3 hu)
/-! _law_right -/
def sp_law_right (K : PySem.W.Frag) : Sp := fun vs H Q _ => ∃ (q x : Addr) (m : Pt) (k : List Nat) (pl c : Nat), vs = [.ref q, .ref x, tx k, .int (pl : Int), tx [c]] ∧ PtL H q m ∧ MkO K H x m ∧ m.Ok ∧ m.Sm ∧ Kind k ∧ ∀ H', Ex H H' → Q (.bl true) H'
theorem ok_law_right (T : Txt K mg w) : ∃ fd, FunD K d_law_right.name d_law_right.qual d_law_right.params d_law_right.body d_law_right.scope (d_law_right.dvs K) (d_law_right.kws K) (He.fAd K d_law_right.at_) fd ∧ FnOk P w K mg base C8.CX0 5 (He.fAd K d_law_right.at_) fd ["parts", "spine", "word", "place", "glyph"] (sp_law_right K) := by
  obtain ⟨fd, F⟩ := T.f_law_right
  refine ⟨fd, F, ?_⟩
  have sc := (show FnScope ["parts", "spine", "word", "place", "glyph", "signs", "due", "at", "rows", "stands", "told"] ["parts", "spine", "word", "place", "glyph"] (defScope s_law_right) from ⟨rfl, rfl, rfl, by decide +kernel, rfl, by decide +kernel, by decide +kernel⟩)
  refine F.ok sc (fun vs H Q E h => ?_) (fun cdv A outer s H vs Q E hr h => ?_)
  · obtain ⟨q, x, m, z, pl, c, rfl, pt, mk, ok, sm, hk, k⟩ := h; rfl
  obtain ⟨q, x, m, z, pl, c, rfl, pt, mk, ok, sm, hk, k⟩ := h
  have hu := hr.units
  refine ⟨_, PSs.nox (pss_cons (ps_set (i := 5) sc.nd rfl (by first | exact Or.inl rfl | exact Or.inr rfl) (C8.pe_c (c_law_text T) hr (by decide) rfl (pa_cons (pv 0) pa_nil)))
  (pss_cons (ps_asg (C8.pe_c (c_law_made T) hr (by decide) rfl (pa_cons (pv 5) (pa_cons (pv 2) (pa_cons (pv 3) (pa_cons (pv 4) pa_nil))))) (U.pg_tup' (K := K) (n := 2) rfl (pgs_cons (pg_name (i := 6) sc.nd rfl (by first | exact Or.inl rfl | exact Or.inr rfl)) (pgs_cons (pg_name (i := 7) sc.nd rfl (by first | exact Or.inl rfl | exact Or.inr rfl)) pgs_nil))))
  (pss_cons (ps_if (PW.pt (pw_or (pt_cmpR (U.ou_eq (K := K) hu) (pv 2) (U.pe_s (l := [108, 111, 115, 116]) (by decide +kernel)) (nomark _)) (pw_or1 (pt_cmpR (U.ou_eq (K := K) hu) (pv 2) (U.pe_s (l := [116, 117, 114, 110, 101, 100]) (by decide +kernel)) (nomark _))))) (pss_one (ps_set (i := 8) sc.nd rfl (by first | exact Or.inl rfl | exact Or.inr rfl) (pe_lst (pa_cons (C8.pe_c (c_slipped_3 T) hr (by decide) rfl (pa_cons (pv 1) (pa_cons (pv 2) (pa_cons (pv 7) pa_nil)))) (pa_cons (U.pe_ck (c_slipped_sign T) hr (by decide) rfl (pa_cons (pv 1) (pa_cons (pv 2) (pa_cons (pv 7) pa_nil))) (pk_cons (pv 4) pk_nil)) (pa_cons (C8.pe_c (c_slipped T) hr (by decide) rfl (pa_cons (pv 1) (pa_cons (pv 2) (pa_cons (pv 7) (pa_cons pe_non pa_nil))))) pa_nil)))))) (pss_cons (ps_set (i := 9) sc.nd rfl (by first | exact Or.inl rfl | exact Or.inr rfl) (pe_ix (U.xu (K := K)) (pv 6) (pv 7) (fun _ _ => rfl)))
    (pss_one (ps_set (i := 8) sc.nd rfl (by first | exact Or.inl rfl | exact Or.inr rfl) (pe_lst (pa_cons (C8.pe_c (c_slipped T) hr (by decide) rfl (pa_cons (pv 1) (pa_cons (pv 2) (pa_cons (pv 7) (pa_cons (pv 9) pa_nil))))) (pa_cons (U.pe_ck (c_slipped_sign T) hr (by decide) rfl (pa_cons (pv 1) (pa_cons (pv 2) (pa_cons (pv 7) pa_nil))) (pk_cons (pv 9) pk_nil)) pa_nil)))))))
  (pss_cons (ps_if (pt_not (pt_val (pe_callB (U.cu_all (K := K) rfl) (by rfl) T.b_all (by decide +kernel) (pa_cons (pe_lc (own := [("told", 10)]) (by rfl) sc.nd (U.pi_list' (K := K) (pv 8)) (blkOk_by (own := [("told", 10)]) (N := ["parts", "spine", "word", "place", "glyph", "signs", "due", "at", "rows", "stands", "told"]) (sc := (defScope s_law_right)) (by decide +kernel)) (fun _ _ _ _ _ => (pg_name (i := 10) sc.nd rfl (by first | exact Or.inl rfl | exact Or.inr rfl))) (fun _ _ _ _ _ => pts_nil) (fun _ _ _ _ _ => (pe_and (pe_callB (U.cu_isi (K := K)) (by rfl) T.b_isinstance (by decide +kernel) (pa_cons (pv 10) (pa_cons (U.pe_ty (n := "str") rfl T.b_str (by decide +kernel)) pa_nil))) (pe_one (pe_cmpR (U.ou_eq (K := K) hu) (pv 10) (pv 6) (nomark _)))))) pa_nil)))) (pss_one (ps_ret pe_bl)) pss_nil)
  (pss_one (ps_ret (pe_and (pe_cmpR (U.ou_eq (K := K) hu) (C8.pe_c (c_slip_kind T) hr (by decide) rfl (pa_cons (pv 1) (pa_cons (pv 6) pa_nil))) (pv 2) (nomark _)) (pe_one (pe_cmpR (U.ou_eq (K := K) hu) (pe_callTy (U.cu_strO (c_m_str T) hr (by decide)) (by rfl) T.b_str (by decide +kernel) (pa_cons (pv 1) pa_nil)) (pv 5) (nomark _)))))))))), ?_⟩
  walk_at "ust0"
  obtain ⟨dx, t0, ir, tr⟩ := mk.ex
  have w0 := ok_w ok sm
  have tl := text_len w0
  have t2 := text_two ok
  have tl1 : m.text.length ≤ 10000 := by rw [text_eq]; omega
  have tl3 : m.text.length ≤ 100000 := by omega
  walk_at "ugo"
  intro t n d H1 md ex1 tm1
  have hS := made_slip md hk (no_126 ok) (text_unl ok)
  have hlen := md.len
  have htl : t.length ≤ 10000 := by omega
  have mk1 : MkO K H1 x m := inferInstance
  have tl2 : m.text2.length ≤ 10000 := by omega
  walk_at "ugo"
  refine br2 (fun h1 => ?_) (fun h1 => ?_)
  · have hz : z = kLost := h1
    subst hz
    have so : ∀ g : V, SlipOk m.text2 kLost n g [] := fun g => ⟨hk, fun _ => (md.lost rfl).1, (by intro e; cases e), (by intro e; cases e), (by intro e; cases e)⟩
    have hs : slipT m.text2 kLost n [] = t := by rw [(md.lost rfl).2]; rfl
    walk_at "ugo"
    refine slp tl2 (so _) hs ?_
    walk_at "ugo"
    refine slp tl2 (so _) hs ?_
    walk_at "ugo"
    refine slp tl2 (so _) hs ?_
    walk_at "ugo"
    refine al_l fun l H2 nw2 ex2 lm2 => ?_
    walk_at "ugo"
    refine lc_l' (fun _ => some (.bl true)) (by simp [z24]) (fun v H' A B hv e hA hB => ?_) (fun D H3 hD e3 hL => ?_)
    · have hv : v = tx t := by simpa using hv
      subst hv
      walk_at "ugo"
      exact hA _ (by rw [decide_eq_true rfl])
    have hL : LM H3 D ([true, true, true].map V.bl) := hL
    walk_at "ugo"
    refine all_b (LR.lr (K := K) (H := H3) (a := D)) ?_
    rw [show ([true, true, true].all id) = true from rfl]
    walk_at "ugo"
    intro H4 e4
    walk_at "ugo"
    rw [text_eq, hS, show kV (some _) = V.str (S _) from rfl]
    walk_at "ugo"
    rw [decide_eq_true rfl]
    walk_at "ugo"
    exact qb (k H4 ⟨Et.et⟩) (by rw [text_eq]; simp)
  walk_at "ugo"
  refine br2 (fun h2 => ?_) (fun h2 => ?_)
  · have hz : z = kTurned := h2
    subst hz
    obtain ⟨g1, g2, g3⟩ := md.turned rfl
    have so : ∀ g : V, SlipOk m.text2 kTurned n g [] := fun g => ⟨hk, (by intro e; cases e), fun _ => ⟨g1, g3 (text_unl ok)⟩, (by intro e; cases e), (by intro e; cases e)⟩
    have hs : slipT m.text2 kTurned n [] = t := by rw [g2]; rfl
    walk_at "ugo"
    refine slp tl2 (so _) hs ?_
    walk_at "ugo"
    refine slp tl2 (so _) hs ?_
    walk_at "ugo"
    refine slp tl2 (so _) hs ?_
    walk_at "ugo"
    refine al_l fun l H2 nw2 ex2 lm2 => ?_
    walk_at "ugo"
    refine lc_l' (fun _ => some (.bl true)) (by simp [z24]) (fun v H' A B hv e hA hB => ?_) (fun D H3 hD e3 hL => ?_)
    · have hv : v = tx t := by simpa using hv
      subst hv
      walk_at "ugo"
      exact hA _ (by rw [decide_eq_true rfl])
    have hL : LM H3 D ([true, true, true].map V.bl) := hL
    walk_at "ugo"
    refine all_b (LR.lr (K := K) (H := H3) (a := D)) ?_
    rw [show ([true, true, true].all id) = true from rfl]
    walk_at "ugo"
    intro H4 e4
    walk_at "ugo"
    rw [text_eq, hS, show kV (some _) = V.str (S _) from rfl]
    walk_at "ugo"
    rw [decide_eq_true rfl]
    walk_at "ugo"
    exact qb (k H4 ⟨Et.et⟩) (by rw [text_eq]; simp)
  obtain ⟨dd, hd, so, hs⟩ : ∃ dd, t[n]? = some dd ∧ SlipOk m.text2 z n (tx [dd]) [dd] ∧ slipT m.text2 z n [dd] = t := by
    rcases hk with rfl | rfl | rfl | rfl
    · obtain ⟨g1, d1, g2, g3⟩ := md.other rfl
      exact ⟨d1, by rw [g2, at_other g1, if_pos rfl], ⟨.inl rfl, (by intro e; cases e), (by intro e; cases e), (by intro e; cases e), fun _ => ⟨g1, d1, rfl, rfl, g3 (no_126 ok)⟩⟩, by rw [g2]; rfl⟩
    · exact absurd rfl h1
    · obtain ⟨g1, d1, g2⟩ := md.extra rfl
      refine ⟨d1, ?_, ⟨.inr (.inr (.inl rfl)), (by intro e; cases e), (by intro e; cases e), fun _ => ⟨g1, d1, rfl, rfl⟩, (by intro e; cases e)⟩, by rw [g2]; rfl⟩
      rw [g2, List.getElem?_append_right (by rw [List.length_take]; omega), List.length_take, Nat.min_eq_left g1]
      simp
    · exact absurd rfl h2
  walk_at "ugo"
  refine ix_sg (by walk_at "usd") (atI_nat hd) ?_
  walk_at "ugo"
  refine slp tl2 so hs ?_
  walk_at "ugo"
  refine slp tl2 so hs ?_
  walk_at "ugo"
  refine al_l fun l H2 nw2 ex2 lm2 => ?_
  walk_at "ugo"
  refine lc_l' (fun _ => some (.bl true)) (by simp [z24]) (fun v H' A B hv e hA hB => ?_) (fun D H3 hD e3 hL => ?_)
  · have hv : v = tx t := by simpa using hv
    subst hv
    walk_at "ugo"
    exact hA _ (by rw [decide_eq_true rfl])
  have hL : LM H3 D ([true, true].map V.bl) := hL
  walk_at "ugo"
  refine all_b (LR.lr (K := K) (H := H3) (a := D)) ?_
  rw [show ([true, true].all id) = true from rfl]
  walk_at "ugo"
  intro H4 e4
  walk_at "ugo"
  rw [text_eq, hS, show kV (some _) = V.str (S _) from rfl]
  walk_at "ugo"
  rw [decide_eq_true rfl]
  walk_at "ugo"
  exact qb (k H4 ⟨Et.et⟩) (by rw [text_eq]; simp)
theorem c_law_right (T : Txt K mg w) : C8.Cal P w K mg base 5 "_law_right" (sp_law_right K) [] := by
  obtain ⟨fd, F, ok⟩ := ok_law_right (P := P) (w := w) (base := base) T
  exact cal_n F T.g_law_right (F.bindsN fun _ _ _ _ _ _ us hl => match us, hl with | [_, _, _, _, _], _ => rfl) ok
end
end T

namespace T
open PySem PySem.Spec PyProof.Rows L2 U
open SX (S)
section
variable {P : Program} {w : World} {K : PySem.W.Frag} {mg : PySem.Str → Option Value} {base : Heap}
instance {H : Hp} {Q : VK} {E : XK} {c : Int} : Go (sp_law_pool [.int c] H Q E) (∀ p H', Nw H p → Ex H H' → PL H' p → Q (.ref p) H') := ⟨fun k => ⟨c, rfl, k⟩⟩
instance {H : Hp} {Q : VK} {E : XK} {p : Addr} [pl : PL H p] : Go (sp_law_sign [.ref p] H Q E) (∀ c H', Mu H p H' → PL H' p → Q (tx [c]) H') := ⟨fun k => ⟨p, rfl, pl, k⟩⟩
instance {H : Hp} {Q : VK} {E : XK} {q p : Addr} {at_ : Nat} {m : Pt} [pt : PtL H q m] [pl : PL H p] : Go (sp_law_near [.ref q, .int (at_ : Int), .ref p] H Q E) (Sd m.Ok (Sd m.Sm (Sd (at_ < 6) (∀ r m' H', Nw H r → PtL H' r m' → m'.W → Mu H p H' → PL H' p → Q (.ref r) H')))) := ⟨fun k => ⟨q, p, at_, m, rfl, pt, k.1, k.2.1, pl, k.2.2.1, k.2.2.2⟩⟩
instance {H : Hp} {Q : VK} {E : XK} {q x : Addr} {m : Pt} {z : List Nat} {pl c : Nat} [pt : PtL H q m] [mk : MkO K H x m] : Go (sp_law_right K [.ref q, .ref x, .str (S z), .int (pl : Int), .str (S [c])] H Q E) (Sd m.Ok (Sd m.Sm (Sd (Kind z) (∀ H', Ex H H' → Q (.bl true) H')))) := ⟨fun k => ⟨q, x, m, z, pl, c, rfl, pt, mk, k.1, k.2.1, k.2.2.1, k.2.2.2⟩⟩
theorem isK : ∀ v ∈ ([tx kOther, tx kLost, tx kExtra, tx kTurned] : List V), ∃ k, v = tx k ∧ Kind k := by
  intro v h
  simp only [List.mem_cons, List.not_mem_nil, or_false] at h
  rcases h with rfl | rfl | rfl | rfl
  · exact ⟨_, rfl, .inl rfl⟩
  · exact ⟨_, rfl, .inr (.inl rfl)⟩
  · exact ⟨_, rfl, .inr (.inr (.inl rfl))⟩
  · exact ⟨_, rfl, .inr (.inr (.inr rfl))⟩
/-- a pair of a kind and a place -/
def PK' (H : Hp) (z : V) : Prop := ∃ (q : Addr) (k : List Nat) (n : Nat), z = .ref q ∧ TM H q [tx k, .int (n : Int)] ∧ Kind k
def sp_law (K : PySem.W.Frag) : Sp := fun vs H Q _ => ∃ (a : Addr) (ns : List Int), vs = [.ref a] ∧ SqL K H a (ns.map V.int) ∧ ns.length ≤ 63 ∧ ∀ H', Q (.bl true) H'
theorem cut_mem {xs : List V} {lo hi : Option Int} {v : V} (h : v ∈ cutV xs lo hi) : v ∈ xs := List.mem_of_mem_drop (List.mem_of_mem_take h)
theorem ok_law (T : Txt K mg w) : ∃ fd, FunD K d_law.name d_law.qual d_law.params d_law.body d_law.scope (d_law.dvs K) (d_law.kws K) (He.fAd K d_law.at_) fd ∧ FnOk P w K mg base C8.CX0 7 (He.fAd K d_law.at_) fd ["script"] (sp_law K) := by
  obtain ⟨fd, F⟩ := T.f_law
  refine ⟨fd, F, ?_⟩
  have sc := (show FnScope ["script", "cell", "pool", "word", "second", "place", "again", "at", "glyph", "parts", "spine", "rows", "signs", "once", "twice", "near", "wording", "way", "number"] ["script"] (defScope s_law) from ⟨rfl, rfl, rfl, by decide +kernel, rfl, by decide +kernel, by decide +kernel⟩)
  refine F.ok sc (fun vs H Q E h => ?_) (fun cdv A outer s H vs Q E hr h => ?_)
  · obtain ⟨a, ns, rfl, sq, hn, k⟩ := h; rfl
  obtain ⟨a, ns, rfl, sq, hn, k⟩ := h
  have hu := hr.units
  refine ⟨_, PSs.nox (pss_cons (ps_for PassesOwn.never rfl (U.pi_list' (K := K) (pe_op (U.ou_add (K := K)) (pe_slice (U.su (K := K)) (pv 0) po_none (po_some pe_int)) (pe_lst (pa_cons pe_int pa_nil)))) (pg_name (i := 1) sc.nd rfl (by first | exact Or.inl rfl | exact Or.inr rfl)) (pss_cons (ps_set (i := 2) sc.nd rfl (by first | exact Or.inl rfl | exact Or.inr rfl) (C8.pe_c (c_law_pool T) hr (by decide) rfl (pa_cons (pv 1) pa_nil)))
    (pss_cons (ps_set (i := 3) sc.nd rfl (by first | exact Or.inl rfl | exact Or.inr rfl) (pe_ix (U.xu (K := K)) (pe_lst (pa_cons (U.pe_s (l := [111, 116, 104, 101, 114]) (by decide +kernel)) (pa_cons (U.pe_s (l := [108, 111, 115, 116]) (by decide +kernel)) (pa_cons (U.pe_s (l := [101, 120, 116, 114, 97]) (by decide +kernel)) (pa_cons (U.pe_s (l := [116, 117, 114, 110, 101, 100]) (by decide +kernel)) pa_nil))))) (C8.pe_c (c_law_take T) hr (by decide) rfl (pa_cons (pv 2) (pa_cons pe_int pa_nil))) (fun _ _ => rfl)))
    (pss_cons (ps_set (i := 4) sc.nd rfl (by first | exact Or.inl rfl | exact Or.inr rfl) (pe_ix (U.xu (K := K)) (pe_lst (pa_cons (U.pe_s (l := [111, 116, 104, 101, 114]) (by decide +kernel)) (pa_cons (U.pe_s (l := [108, 111, 115, 116]) (by decide +kernel)) (pa_cons (U.pe_s (l := [101, 120, 116, 114, 97]) (by decide +kernel)) (pa_cons (U.pe_s (l := [116, 117, 114, 110, 101, 100]) (by decide +kernel)) pa_nil))))) (C8.pe_c (c_law_take T) hr (by decide) rfl (pa_cons (pv 2) (pa_cons pe_int pa_nil))) (fun _ _ => rfl)))
    (pss_cons (ps_set (i := 5) sc.nd rfl (by first | exact Or.inl rfl | exact Or.inr rfl) (C8.pe_c (c_law_take T) hr (by decide) rfl (pa_cons (pv 2) (pa_cons pe_int pa_nil))))
    (pss_cons (ps_set (i := 6) sc.nd rfl (by first | exact Or.inl rfl | exact Or.inr rfl) (C8.pe_c (c_law_take T) hr (by decide) rfl (pa_cons (pv 2) (pa_cons pe_int pa_nil))))
    (pss_cons (ps_set (i := 7) sc.nd rfl (by first | exact Or.inl rfl | exact Or.inr rfl) (C8.pe_c (c_law_take T) hr (by decide) rfl (pa_cons (pv 2) (pa_cons pe_int pa_nil))))
    (pss_cons (ps_set (i := 8) sc.nd rfl (by first | exact Or.inl rfl | exact Or.inr rfl) (C8.pe_c (c_law_sign T) hr (by decide) rfl (pa_cons (pv 2) pa_nil)))
    (pss_cons (ps_set (i := 9) sc.nd rfl (by first | exact Or.inl rfl | exact Or.inr rfl) (C8.pe_c (c_law_parts T) hr (by decide) rfl (pa_cons (pv 2) pa_nil)))
    (pss_cons (ps_set (i := 10) sc.nd rfl (by first | exact Or.inl rfl | exact Or.inr rfl) (C8.pe_c (c_law_mark T) hr (by decide) rfl (pa_cons (pv 9) pa_nil)))
    (pss_cons (ps_set (i := 11) sc.nd rfl (by first | exact Or.inl rfl | exact Or.inr rfl) (pe_lst (pa_cons (pe_tup (pa_cons (pv 3) (pa_cons (pv 5) pa_nil))) (pa_cons (pe_tup (pa_cons (pv 4) (pa_cons (pv 6) pa_nil))) (pa_cons (pe_tup (pa_cons (U.pe_s (l := [108, 111, 115, 116]) (by decide +kernel)) (pa_cons (pe_op (U.ou_add (K := K)) (pv 5) pe_int) pa_nil))) (pa_cons (pe_tup (pa_cons (U.pe_s (l := [108, 111, 115, 116]) (by decide +kernel)) (pa_cons (pv 6) pa_nil))) (pa_cons (pe_tup (pa_cons (pv 3) (pa_cons (pv 5) pa_nil))) pa_nil)))))))
    (pss_cons (ps_if (pt_not (pt_val (pe_callB (U.cu_all (K := K) rfl) (by rfl) T.b_all (by decide +kernel) (pa_cons (pe_lc (own := [("way", 17), ("number", 18)]) (by rfl) sc.nd (U.pi_list' (K := K) (pv 11)) (blkOk_by (own := [("way", 17), ("number", 18)]) (N := ["script", "cell", "pool", "word", "second", "place", "again", "at", "glyph", "parts", "spine", "rows", "signs", "once", "twice", "near", "wording", "way", "number"]) (sc := (defScope s_law)) (by decide +kernel)) (fun _ _ _ _ _ => (U.pg_tup' (K := K) (n := 2) rfl (pgs_cons (pg_name (i := 17) sc.nd rfl (by first | exact Or.inl rfl | exact Or.inr rfl)) (pgs_cons (pg_name (i := 18) sc.nd rfl (by first | exact Or.inl rfl | exact Or.inr rfl)) pgs_nil)))) (fun _ _ _ _ _ => pts_nil) (fun _ _ _ _ _ => (C8.pe_c (c_law_right T) hr (by decide) rfl (pa_cons (pv 9) (pa_cons (pv 10) (pa_cons (pv 17) (pa_cons (pv 18) (pa_cons (pv 8) pa_nil)))))))) pa_nil)))) (pss_one (ps_ret pe_bl)) pss_nil)
    (pss_cons (ps_set (i := 12) sc.nd rfl (by first | exact Or.inl rfl | exact Or.inr rfl) (C8.pe_c (c_law_text T) hr (by decide) rfl (pa_cons (pv 9) pa_nil)))
    (pss_cons (ps_set (i := 13) sc.nd rfl (by first | exact Or.inl rfl | exact Or.inr rfl) (pe_ix (U.xu (K := K)) (C8.pe_c (c_law_made T) hr (by decide) rfl (pa_cons (pv 12) (pa_cons (pv 3) (pa_cons (pv 5) (pa_cons (pv 8) pa_nil))))) pe_int (fun _ _ => rfl)))
    (C8.pss_cut (ps_set (i := 14) sc.nd rfl (by first | exact Or.inl rfl | exact Or.inr rfl) (pe_ifExp (pt_cmpR (U.ou_ne (K := K) hu) (pv 3) (U.pe_s (l := [108, 111, 115, 116]) (by decide +kernel)) (nomark _)) (pe_ix (U.xu (K := K)) (C8.pe_c (c_law_made T) hr (by decide) rfl (pa_cons (pv 13) (pa_cons (pv 4) (pa_cons (pv 6) (pa_cons (U.pe_s (l := [55]) (by decide +kernel)) pa_nil))))) pe_int (fun _ _ => rfl)) (pv 13)))
    (C8.pss_cut (ps_set (i := 15) sc.nd rfl (by first | exact Or.inl rfl | exact Or.inr rfl) (pe_ifExp (pt_cmpR (U.ou_ne (K := K) hu) (pv 3) (U.pe_s (l := [108, 111, 115, 116]) (by decide +kernel)) (nomark _)) (pe_ix (U.xu (K := K)) (C8.pe_c (c_law_made T) hr (by decide) rfl (pa_cons (pv 13) (pa_cons (pv 4) (pa_cons (pe_op (U.ou_add (K := K)) (pv 5) (pe_op U.ou_mod (pv 6) pe_int)) (pa_cons (pv 8) pa_nil))))) pe_int (fun _ _ => rfl)) (pe_op (U.ou_add (K := K)) (pe_slice (U.su (K := K)) (pv 13) (po_some pe_int) po_none) (pe_slice (U.su (K := K)) (pv 13) po_none (po_some pe_int)))))
    (pss_one (ps_for PassesOwn.never rfl (U.pi_list' (K := K) (pe_lst (pa_cons (pv 13) (pa_cons (pv 14) (pa_cons (pv 15) (pa_cons (pv 12) (pa_cons (C8.pe_c (c_law_text T) hr (by decide) rfl (pa_cons (C8.pe_c (c_law_near T) hr (by decide) rfl (pa_cons (pv 9) (pa_cons (pv 7) (pa_cons (pv 2) pa_nil)))) pa_nil)) (pa_cons (U.pe_rev (K := K) (pv 12)) (pa_cons (U.pe_s (l := []) (by decide +kernel)) pa_nil))))))))) (pg_name (i := 16) sc.nd rfl (by first | exact Or.inl rfl | exact Or.inr rfl)) (pss_one (ps_if (PW.pt (pw_or (pt_not (pt_val (C8.pe_c (c_law_kind_right T) hr (by decide) rfl (pa_cons (pv 10) (pa_cons (pv 12) (pa_cons (pv 16) pa_nil)))))) (pw_or1 (pt_not (pt_val (C8.pe_c (c_law_kind_right T) hr (by decide) rfl (pa_cons (C8.pe_c (c_law_mark T) hr (by decide) rfl (pa_cons (pv 9) pa_nil)) (pa_cons (pv 12) (pa_cons (pv 16) pa_nil))))))))) (pss_one (ps_ret pe_bl)) pss_nil))))))))))))))))))))
  (pss_one (ps_ret pe_bl))), ?_⟩
  walk_at "ust0"
  haveI : LR K H a (ns.map V.int) := ⟨sq⟩
  have hnl : (ns.map V.int).length = ns.length := List.length_map ..
  walk_at "ugo"
  refine al_l fun l1 H1 nw1 ex1 lm1 => ?_
  walk_at "ugo"
  refine al_l fun l2 H2 nw2 ex2 lm2 => ?_
  have hcl := cutV_length (ns.map V.int) none (some 16)
  walk_at "ugo"
  refine al_l fun l3 H3 nw3 ex3 lm3 => ?_
  walk_at "ugo"
  refine for_l (xs := cutV (ns.map V.int) none (some 16) ++ [.int 5]) (fun i σ H' => (∃ o1 o2 o3 o4 o5 o6 o7 o8 o9 o10 o11 o12 o13 o14 o15 o16 o17 o18, σ = [some (.ref a), o1, o2, o3, o4, o5, o6, o7, o8, o9, o10, o11, o12, o13, o14, o15, o16, o17, o18]) ∧ Ex H3 H') ⟨⟨_, _, _, _, _, _, _, _, _, _, _, _, _, _, _, _, _, _, rfl⟩, ⟨fun _ _ h => h⟩⟩ (fun i σ H' hi h => ?_) (fun i x σ H' hi hx h => ?_) (fun σ H' h => ?_)
  · obtain ⟨_, e⟩ := h
    exact (inferInstance : LR K H' l3 _).lr
  rotate_left
  · obtain ⟨⟨_, _, _, _, _, _, _, _, _, _, _, _, _, _, _, _, _, _, rfl⟩, _⟩ := h
    walk_at "ugo"
    exact k _
  obtain ⟨⟨o1, o2, o3, o4, o5, o6, o7, o8, o9, o10, o11, o12, o13, o14, o15, o16, o17, o18, rfl⟩, e3⟩ := h
  obtain ⟨cell, rfl⟩ : ∃ c, x = V.int c := by
    rcases List.mem_append.mp (List.mem_of_getElem? hx) with h | h
    · obtain ⟨c, _, e⟩ := List.mem_map.mp (cut_mem h)
      exact ⟨c, e.symm⟩
    · exact ⟨5, List.mem_singleton.mp h⟩
  walk_at "ugo"
  intro p H4 nw4 ex4 pl4
  walk_at "ugo"
  refine al_l fun w1 H5 nw5 ex5 lm5 => ?_
  walk_at "ugo"
  intro r1 H6 hr1 m6 p6
  walk_at "ugo"
  obtain ⟨v, hv, ev⟩ := pick (xs := [tx kOther, tx kLost, tx kExtra, tx kTurned]) (r := r1) (by simp; omega)
  obtain ⟨word, rfl, hword⟩ := isK v hv
  refine ix_is ev ?_
  walk_at "ugo"
  refine al_l fun w2 H7 nw7 ex7 lm7 => ?_
  walk_at "ugo"
  intro r2 H8 hr2 m8 p8
  walk_at "ugo"
  obtain ⟨v2, hv2, ev2⟩ := pick (xs := [tx kOther, tx kLost, tx kExtra, tx kTurned]) (r := r2) (by simp; omega)
  obtain ⟨second, rfl, hsecond⟩ := isK v2 hv2
  refine ix_is ev2 ?_
  walk_at "ugo"
  intro place H9 hplace m9 p9
  walk_at "ugo"
  intro again H10 hagain m10 p10
  walk_at "ugo"
  intro at_ H11 hat m11 p11
  walk_at "ugo"
  intro g H12 m12 p12
  walk_at "ugo"
  intro q m H13 nw13 pt13 ok sm m13 p13
  walk_at "ugo"
  intro x H14 nw14 ex14 mk14
  have w0 := ok_w ok sm
  have tl := text_len w0
  have t2 := text_two ok
  walk_at "ugo"
  refine al_t' fun u1 H15 nw15 ex15 tm15 => ?_
  walk_at "ugo"
  refine al_t' fun u2 H16 nw16 ex16 tm16 => ?_
  walk_at "ugo"
  rw [show (place : Int) + 1 = ((place + 1 : Nat) : Int) by omega]
  refine al_t' fun u3 H17 nw17 ex17 tm17 => ?_
  walk_at "ugo"
  refine al_t' fun u4 H18 nw18 ex18 tm18 => ?_
  walk_at "ugo"
  refine al_t' fun u5 H19 nw19 ex19 tm19 => ?_
  walk_at "ugo"
  refine al_l fun rows H20 nw20 ex20 lm20 => ?_
  walk_at "ugo"
  refine lc_l1' (fun _ => .bl true) (by simp [z24]) (fun z H' A hz e hA => ?_) (fun D H21 hD e21 hL => ?_)
  · obtain ⟨uu, kk, nn, rfl, tmu, hku⟩ : ∃ (uu : Addr) (kk : List Nat) (nn : Nat), z = .ref uu ∧ TM H' uu [tx kk, .int (nn : Int)] ∧ Kind kk := by
      simp only [List.mem_cons, List.not_mem_nil, or_false] at hz
      rcases hz with rfl | rfl | rfl | rfl | rfl
      · exact ⟨u1, word, place, rfl, inferInstance, hword⟩
      · exact ⟨u2, second, again, rfl, inferInstance, hsecond⟩
      · exact ⟨u3, kLost, place + 1, rfl, inferInstance, .inr (.inl rfl)⟩
      · exact ⟨u4, kLost, again, rfl, inferInstance, .inr (.inl rfl)⟩
      · exact ⟨u5, word, place, rfl, inferInstance, hword⟩
    walk_at "ugo"
    intro H3 e3
    walk_at "ugo"
    exact hA H3 e3
  have hL : LM H21 D ([true, true, true, true, true].map V.bl) := hL
  walk_at "ugo"
  refine all_b (LR.lr (K := K) (H := H21) (a := D)) ?_
  rw [show ([true, true, true, true, true].all id) = true from rfl]
  walk_at "ugo"
  intro t1 n1 d1 H22 md1 ex22 tm22
  walk_at "ugo"
  refine ix_is (v := tx t1) (atI_nat (j := 0) rfl) ?_
  walk_at "ugo"
  have l1 := md1.len
  refine cut_ (fun σ H' => (∃ t2, σ = [some (.ref a), some (.int cell), some (.ref p), some (tx word), some (tx second), some (.int (place : Int)), some (.int (again : Int)), some (.int (at_ : Int)), some (tx [g]), some (.ref q), some (.ref x), some (.ref rows), some (tx m.text2), some (tx t1), some (tx t2), o15, o16, o17, o18] ∧ t2.length ≤ 2000) ∧ Ex H22 H') ?_ (fun σ H23 h => ?_)
  · walk_at "ugo"
    refine br2 (fun h => ?_) (fun h => ?_)
    · walk_at "ugo"
      exact ⟨⟨t1, rfl, by omega⟩, ⟨fun _ _ h => h⟩⟩
    · have hg := md1.grow h
      walk_at "ugo"
      intro t n d H24 md ex24 tm24
      have := md.len
      walk_at "ugo"
      refine ix_is (v := tx t) (atI_nat (j := 0) rfl) ?_
      walk_at "ugo"
      exact ⟨⟨t, rfl, by omega⟩, ex24⟩
  obtain ⟨⟨t2, rfl, hl2⟩, e23⟩ := h
  walk_at "ugo"
  refine cut_ (fun σ H' => (∃ t3, σ = [some (.ref a), some (.int cell), some (.ref p), some (tx word), some (tx second), some (.int (place : Int)), some (.int (again : Int)), some (.int (at_ : Int)), some (tx [g]), some (.ref q), some (.ref x), some (.ref rows), some (tx m.text2), some (tx t1), some (tx t2), some (tx t3), o16, o17, o18] ∧ t3.length ≤ 2000) ∧ Ex H23 H') ?_ (fun σ H25 h => ?_)
  · walk_at "ugo"
    refine br2 (fun h => ?_) (fun h => ?_)
    · walk_at "ugo"
      refine sl_fr (by rw [z24]; omega) (by omega) ?_
      walk_at "ugo"
      refine sl_to (by rw [z24]; omega) (by omega) ?_
      walk_at "ugo"
      refine Sd.k (by rw [z24, List.length_take, List.length_drop]; omega) ?_
      walk_at "ugo"
      exact ⟨⟨_, rfl, by rw [List.length_append, List.length_take, List.length_drop]; omega⟩, ⟨fun _ _ h => h⟩⟩
    · have hg := md1.grow h
      walk_at "ugo"
      rw [show (place : Int) + (again : Int) % 3 = ((place + again % 3 : Nat) : Int) by omega]
      walk_at "ugo"
      intro t n d H24 md ex24 tm24
      have := md.len
      walk_at "ugo"
      refine ix_is (v := tx t) (atI_nat (j := 0) rfl) ?_
      walk_at "ugo"
      exact ⟨⟨t, rfl, by omega⟩, ex24⟩
  obtain ⟨⟨t3, rfl, hl3⟩, e25⟩ := h
  have hat6 : at_ < 6 := by omega
  walk_at "ugo"
  intro rr m2 H26 nw26 pt26 w26 m26 p26
  have tl26 := text_len w26
  walk_at "ugo"
  refine al_l fun ws H27 nw27 ex27 lm27 => ?_
  walk_at "ugo"
  have tb : m.text2.reverse.length ≤ 2000 := by rw [List.length_reverse]; omega
  refine for_l (xs := [tx t1, tx t2, tx t3, tx m.text2, tx m2.text2, tx m.text2.reverse, tx []]) (fun i σ H' => (∃ o17 o18 o16, σ = [some (.ref a), some (.int cell), some (.ref p), some (tx word), some (tx second), some (.int (place : Int)), some (.int (again : Int)), some (.int (at_ : Int)), some (tx [g]), some (.ref q), some (.ref x), some (.ref rows), some (tx m.text2), some (tx t1), some (tx t2), some (tx t3), o16, o17, o18]) ∧ Ex H27 H') ⟨⟨_, _, _, rfl⟩, ⟨fun _ _ h => h⟩⟩ (fun i σ H' hi h => ?_) (fun i z σ H' hi hx h => ?_) (fun σ H' h => ?_)
  · obtain ⟨_, e⟩ := h
    exact (inferInstance : LR K H' ws _).lr
  · obtain ⟨⟨o16, o17, o18, rfl⟩, e⟩ := h
    obtain ⟨b, rfl, hb⟩ : ∃ b, z = tx b ∧ b.length ≤ 2000 := by
      have hz := List.mem_of_getElem? hx
      simp only [List.mem_cons, List.not_mem_nil, or_false] at hz
      rcases hz with rfl | rfl | rfl | rfl | rfl | rfl | rfl
      · exact ⟨_, rfl, by omega⟩
      · exact ⟨_, rfl, by omega⟩
      · exact ⟨_, rfl, by omega⟩
      · exact ⟨_, rfl, by omega⟩
      · exact ⟨_, rfl, by omega⟩
      · exact ⟨_, rfl, by omega⟩
      · exact ⟨_, rfl, by simp⟩
    walk_at "ugo"
    intro H28 e28
    walk_at "ugo"
    intro x2 H29 nw29 ex29 mk29
    walk_at "ugo"
    intro H30 e30
    walk_at "ugo"
    exact ⟨⟨_, _, _, rfl⟩, ⟨Et.et⟩⟩
  · obtain ⟨⟨_, _, _, rfl⟩, _⟩ := h
    walk_at "ugo"
    exact ⟨⟨_, _, _, _, _, _, _, _, _, _, _, _, _, _, _, _, _, _, rfl⟩, ⟨Et.et⟩⟩
theorem c_law (T : Txt K mg w) : C8.Cal P w K mg base 7 "law" (sp_law K) [] := by
  obtain ⟨fd, F, ok⟩ := ok_law (P := P) (w := w) (base := base) T
  exact cal_n F T.g_law (F.bindsN fun _ _ _ _ _ _ us hl => match us, hl with | [_], _ => rfl) ok
end
end T

namespace T
open PySem PySem.Spec PyProof.Rows L2 U
theorem fun_same {K : PySem.W.Frag} {x qual : PySem.Str} {params : Arguments} {body : List Stmt} {scope : Scope} {dvs : List V} {kws : List (PySem.Str × V)} {f : Addr} {fd fd' : FuncData} (F : FunD K x qual params body scope dvs kws f fd) (F' : FunD K x qual params body scope dvs kws f fd') : fd = fd' := by
  obtain ⟨_, _, _, _, _, _, _, _, _, _, rfl, lk, _⟩ := F.ex
  obtain ⟨_, _, _, _, _, _, _, _, _, _, rfl, lk', _⟩ := F'.ex
  have e := lk.symm.trans lk'
  injection e with e
  injection e with _ _ e
  injection e
/-- the law's def keeps its promise, over every base -/
theorem facts {P : Program} {w : World} {K : PySem.W.Frag} {h : Heap} {mg : PySem.Str → Option Value} {f : Addr} (X : K.In h) (G : h.Ns mainGlobals mg) (hfa : mg ("law" : PySem.Str) = some (.ref f)) (c : He.SaysX fa fn ts [] ex w h K) :
    ∃ fd : FuncData, (∀ (s : Shared) (v : Value), BindsTo s fd ⟨[v], []⟩ [("script", v)]) ∧ ∀ base : Heap, K.In base → base.Ns mainGlobals mg → FnOk P w K mg base C8.CX0 7 f fd ["script"] (sp_law K) := by
  have T := txt_of X G c
  have e := hfa.symm.trans T.g_law
  injection e with e
  injection e with e
  subst e
  obtain ⟨fd, F, _⟩ := ok_law (P := P) (w := w) (base := h) T
  have b := FunD.bindsA (ps := ["script"]) F fun _ _ _ _ _ _ us hl => match us, hl with | [_], _ => rfl
  refine ⟨fd, fun s v => b s [v] rfl, fun base _ _ => ?_⟩
  obtain ⟨fd', F', ok⟩ := ok_law (P := P) (w := w) (base := base) T
  have e2 : fd' = fd := fun_same F' F
  subst e2
  exact ok
end T
open PySem PySem.W PySem.Calls PyProof.Rows
theorem PySem.Challenge.cw_sievemarks_k32_slips_made_holds : PySem.Challenge.rw_sievemarks_k32_slips_made.Holds := by
  w_on; o_law
  refine HandSHeadRun.head_any (r := OpenLaw.row PySem.Challenge.rw_sievemarks_k32_slips_made) (q := view (OpenLaw.row PySem.Challenge.rw_sievemarks_k32_slips_made).prog [80]) (H := T.hk) (ob := T.ob) (M := 6000) (loose := T.loose) (d := HandSHeadRun.topDef (OpenLaw.row PySem.Challenge.rw_sievemarks_k32_slips_made).prog 80) (kwd := []) T.ob_eq
    (by kernel_rfl) (fun s => by kernel_rfl) T.run (by kernel_rfl) (by kernel_rfl) (by kernel_rfl) (by rfl) (by first | assumption | decide +kernel) (by decide +kernel) ⟨rfl, rfl, rfl, rfl, rfl, by decide +kernel⟩ ?hw ?hc
  case hw => w_witness2
  case hc =>
    refine L2.walk_ofE (l := PySem.Challenge.rw_sievemarks_k32_slips_made) (n := 63) (k := 7) (x := "script") (CX := C8.CX0) rfl (by decide) (by kernel_rfl) ⟨rfl, by decide, by decide⟩ ?F (fun _ _ _ _ z => z)
    intro w mg fa h Y G hmg0
    obtain ⟨K, KX, c⟩ := Y
    have hmg : mg ("law" : PySem.Str) = some (.ref fa) := by
      have e : (HandSHeadRun.topDef (OpenLaw.row PySem.Challenge.rw_sievemarks_k32_slips_made).prog 80).name = ("law" : PySem.Str) := by kernel_rfl
      rw [← e]
      exact hmg0
    obtain ⟨fd, hb, hF⟩ := T.facts (P := (PySem.Challenge.rw_sievemarks_k32_slips_made).prog) (w := w) KX G hmg c
    exact ⟨K, fd, T.sp_law K, KX, hb, fun H a ns hl _ hS => ⟨a, ns, rfl, hS, hl, fun _ => rfl⟩, hF⟩

