import PyProof.Rows.All
import Wide.All
import OpenK.AllK
import Wide.FinOn
import KE.KStateDown
import Lean
import HandS.ForMost
import HandS.ForExc
import HandS.ExcInit
import HandS.ExcOwn
import HandS.HeadHook1
import HandS.Defaults
import HandS.MakeKw
import HandS.Codes
import HandS.Flow
import HandS.Style
import HandS.Wide
import HandS.FStr
import HandS.IsInst
import HandS.StrMore
import HandS.OwnEq
import HandS.TupAny
import HandS.Lambda
import HandS.RaiseMore
import HandS.Walk
import PyProof.AutoSeq1
import KE.KCallOwn
import HandS.More
import HandS.ExcField
import HandS.ExcIs
import HandS.TryOnly
import HandS.TryMany
import KE.SortKeyHeap
import HandS.Keys
import HandS.SortKw
import HandS.EndTab
import HandS.HeadHook4
import PyProof.TupleOfSeq
import KE.DataCmp
import HandS.NoneIn
import HandS.Head0
import HandS.Head1
import HandS.Head2
import HandS.HeadEnd
import HandS.HeadHook2
import HandS.HeadHook3
import HandS.HeadWalk
import PySem.Challenge.RW_sievemarks_k15_joined
set_option Elab.async false
set_option linter.all false
set_option maxRecDepth 100000
set_option maxHeartbeats 4000000
/-! U0: what the head is asked besides; the tables of code objects -/
namespace U
open PySem PySem.Spec PyProof.Rows L2
/-- the tables of code objects of the defs that make lambdas, with the lambdas' names -/
class QN where
  tabs : List (Addr × Str)
def eqV (a b : Option (Option Value)) : Bool := decide (a = b)
def meB (K : PySem.W.Frag) (C : Addr) : Bool := eqV (PySem.W.specialIn K (.ref C) "__getattribute__") (some (some (.builtin "type.__getattribute__"))) && (PySem.W.readsIn K C (.type "type") && (match PySem.W.findCls K (.ref C) (.type "type") "__init__" with
  | some (.val v) => decide (v = .builtin "ValueError.__init__")
  | _ => false))
def oexB (K : PySem.W.Frag) (C : Addr) : Bool := (match K.lookup C with
  | some ⟨.type "type", _, .cls cd, sl⟩ => (match cd.mro, sl.toList with
    | .ref C' :: bm, [_, _, _, _, some (.builtin n), _] => decide (C' = C) && (decide (n = "ValueError.__new__") && (!cd.hasDel && (cd.hasDict && PySem.HandSPX.refsVE bm)))
    | _, _ => false)
  | _ => false) && (eqV (PySem.W.findIn K (.ref C) "__setattr__") (some (some (.builtin "object.__setattr__"))) && (decide (PySem.W.subIn K (.ref C) (.type "BaseException") = some true) && (decide (PySem.W.typeIn K (.ref C) = some (.type "type")) && PySem.W.keepIn K (.ref C))))
def excB (K : PySem.W.Frag) (D : Addr) : Bool := eqV (PySem.W.findIn K (.ref D) "__getattribute__") (some (some (.builtin "BaseException.__getattribute__"))) && (eqV (PySem.W.findIn K (.ref D) "__getattr__") (some none) && (decide (PySem.W.subIn K (.ref D) (.type "BaseException") = some true) && (PySem.W.hasDictIn K D && (eqV (PySem.W.findIn K (.ref D) "__class__") (some (some (.builtin "object.__class__"))) && (eqV (PySem.W.specialIn K (.builtin "object.__class__") "__get__") (some (some (.builtin "getset_descriptor.__get__"))) && (decide (PySem.W.takesIn K (.builtin "object.__class__") = some true) && decide (PySem.W.mroIn K D (.type "object") = some true)))))))
def ownNeB (K : PySem.W.Frag) (C : Addr) : Bool := eqV (PySem.W.findIn K (.ref C) "__ne__") (some (some (.builtin "object.__ne__"))) && (decide (PySem.W.mroIn K C (.type "object") = some true) && (eqV (PySem.W.findIn K (.ref C) "__class__") (some (some (.builtin "object.__class__"))) && (eqV (PySem.W.specialIn K (.builtin "object.__class__") "__get__") (some (some (.builtin "getset_descriptor.__get__"))) && (decide (PySem.W.takesIn K (.builtin "object.__class__") = some true) && ((PySem.W.clsIn K C).isSome && PySem.W.typeIn K (.ref C) == some (.type "type"))))))
/-! the head's question, asked of the interpreter's own statics too (a class's attribute is read past them) -/
def asY (g : Addr → Option Obj) (n : Nat) : List Addr := He.asD g n ++ [cStatics]
def obsY (n : Nat) (fa : List He.Fa) (fn : List He.DefD) (ts : List He.Tab) (tf : List He.Defn) (ex : PySem.W.Frag → Bool) (g : Addr → Option Obj) : He.AlX :=
  (He.obsT fa fn ts (He.frT g (asY g n)), ex (He.frT g (asY g n)) && He.tabsB g tf (He.frT g (asY g n)))
theorem saysY_of {n : Nat} {fa : List He.Fa} {fn : List He.DefD} {ts : List He.Tab} {tf : List He.Defn} {ex : PySem.W.Frag → Bool} {w : World} {h : Heap} (e : obsY n fa fn ts tf ex h.get? = He.valX fn ts w) : He.SaysX fa fn ts tf ex w h (He.frT h.get? (asY h.get? n)) := by
  have e1 := congrArg (fun z : He.AlX => z.1) e
  have e2 := congrArg (fun z : He.AlX => z.2) e
  obtain ⟨h1, h2⟩ := He.ba (show (ex (He.frT h.get? (asY h.get? n)) && He.tabsB h.get? tf (He.frT h.get? (asY h.get? n))) = true from e2)
  have key : ∀ p ∈ tf, PySem.W.codeHdIn (He.frT h.get? (asY h.get? n)) (He.cT (He.frT h.get? (asY h.get? n)) p).1 (He.cT (He.frT h.get? (asY h.get? n)) p).2 = true ∧ ∃ o, h.get? (He.cT (He.frT h.get? (asY h.get? n)) p).2 = some o ∧ He.emptyTab o = true := fun p hp => by
    obtain ⟨h3, h4⟩ := He.ba (List.all_eq_true.mp h2 p hp)
    split at h4
    · rename_i o q
      exact ⟨h3, o, q, h4⟩
    · cases h4
  refine ⟨e1, h1, fun p hp => (key p hp).1, fun p hp => ?_, fun p hp => ?_⟩
  · obtain ⟨_, o, q, z⟩ := key p hp
    exact He.frT_none q z
  · obtain ⟨_, o, q, z⟩ := key p hp
    rw [q, He.emptyTab_eq z]
def hookY (n : Nat) (fa : List He.Fa) (fn : List He.DefD) (ts : List He.Tab) (tf : List He.Defn) (ex : PySem.W.Frag → Bool) : PySem.W.Hook where
  α := He.AlX
  obs := fun s => obsY n fa fn ts tf ex s.heap.get?
  val := fun w => He.valX fn ts w
  says := fun w h => ∃ K : PySem.W.Frag, K.In h ∧ He.SaysX fa fn ts tf ex w h K
  of := fun _ _ e => ⟨_, He.frT_in, saysY_of e⟩
  keeps := fun _ _ _ ⟨K, hK, c⟩ k => ⟨K, PySem.W.Frag.In.keeps hK k, ⟨c.t, c.more, c.hd, c.out, fun p hp => k _ _ (c.empty p hp)⟩⟩
theorem obsY_eq {n : Nat} {fa : List He.Fa} {fn : List He.DefD} {ts : List He.Tab} {tf : List He.Defn} {ex : PySem.W.Frag → Bool} {g : Addr → Option Obj} {s : Shared} (h : ∀ a, g a = s.heap.get? a) : obsY n fa fn ts tf ex g = (hookY n fa fn ts tf ex).obs s := by
  have e : g = s.heap.get? := funext h
  rw [e] <;> rfl
end U

namespace T
open PySem PySem.Spec PyProof.Rows L2
def top (i : Nat) : Stmt := PySem.Challenge.pw_sievemarks_k15_joined.main.body.getD i (.Pass ⟨0, 0, 0, 0⟩)
abbrev s_wall : Stmt := top 0
def d_wall : He.DefD := ⟨("_wall", none), "_wall", "_wall", defArgs s_wall, defBody s_wall, defScope s_wall, [], []⟩
abbrev s_NoLetters_init : Stmt := inClass (top 3) 0
def d_NoLetters_init : He.DefD := ⟨("NoLetters", some "__init__"), "__init__", "NoLetters.__init__", defArgs s_NoLetters_init, defBody s_NoLetters_init, defScope s_NoLetters_init, [], []⟩
abbrev s_NoNumber_init : Stmt := inClass (top 4) 0
def d_NoNumber_init : He.DefD := ⟨("NoNumber", some "__init__"), "__init__", "NoNumber.__init__", defArgs s_NoNumber_init, defBody s_NoNumber_init, defScope s_NoNumber_init, [], []⟩
abbrev s_NoPoints_init : Stmt := inClass (top 5) 0
def d_NoPoints_init : He.DefD := ⟨("NoPoints", some "__init__"), "__init__", "NoPoints.__init__", defArgs s_NoPoints_init, defBody s_NoPoints_init, defScope s_NoPoints_init, [], []⟩
abbrev s_NoMakers_init : Stmt := inClass (top 6) 0
def d_NoMakers_init : He.DefD := ⟨("NoMakers", some "__init__"), "__init__", "NoMakers.__init__", defArgs s_NoMakers_init, defBody s_NoMakers_init, defScope s_NoMakers_init, [], []⟩
abbrev s_NoMaker_init : Stmt := inClass (top 7) 0
def d_NoMaker_init : He.DefD := ⟨("NoMaker", some "__init__"), "__init__", "NoMaker.__init__", defArgs s_NoMaker_init, defBody s_NoMaker_init, defScope s_NoMaker_init, [], []⟩
abbrev s_NoYear_init : Stmt := inClass (top 8) 0
def d_NoYear_init : He.DefD := ⟨("NoYear", some "__init__"), "__init__", "NoYear.__init__", defArgs s_NoYear_init, defBody s_NoYear_init, defScope s_NoYear_init, [], []⟩
abbrev s_NoCopy_init : Stmt := inClass (top 9) 0
def d_NoCopy_init : He.DefD := ⟨("NoCopy", some "__init__"), "__init__", "NoCopy.__init__", defArgs s_NoCopy_init, defBody s_NoCopy_init, defScope s_NoCopy_init, [], []⟩
abbrev s_NotRising_init : Stmt := inClass (top 10) 0
def d_NotRising_init : He.DefD := ⟨("NotRising", some "__init__"), "__init__", "NotRising.__init__", defArgs s_NotRising_init, defBody s_NotRising_init, defScope s_NotRising_init, [], []⟩
abbrev s_order : Stmt := top 12
def d_order : He.DefD := ⟨("order", none), "order", "order", defArgs s_order, defBody s_order, defScope s_order, [], []⟩
abbrev s_first_wrong : Stmt := top 13
def d_first_wrong : He.DefD := ⟨("first_wrong", none), "first_wrong", "first_wrong", defArgs s_first_wrong, defBody s_first_wrong, defScope s_first_wrong, [], []⟩
abbrev s_need_rising : Stmt := top 14
def d_need_rising : He.DefD := ⟨("need_rising", none), "need_rising", "need_rising", defArgs s_need_rising, defBody s_need_rising, defScope s_need_rising, [], []⟩
abbrev s_joined : Stmt := top 15
def d_joined : He.DefD := ⟨("joined", none), "joined", "joined", defArgs s_joined, defBody s_joined, defScope s_joined, [], []⟩
abbrev s_place_in : Stmt := top 16
def d_place_in : He.DefD := ⟨("place_in", none), "place_in", "place_in", defArgs s_place_in, defBody s_place_in, defScope s_place_in, [], []⟩
abbrev s_is_whole : Stmt := top 22
def d_is_whole : He.DefD := ⟨("is_whole", none), "is_whole", "is_whole", defArgs s_is_whole, defBody s_is_whole, defScope s_is_whole, [.non], []⟩
abbrev s_figures_of : Stmt := top 23
def d_figures_of : He.DefD := ⟨("figures_of", none), "figures_of", "figures_of", defArgs s_figures_of, defBody s_figures_of, defScope s_figures_of, [], []⟩
abbrev s_is_name : Stmt := top 24
def d_is_name : He.DefD := ⟨("is_name", none), "is_name", "is_name", defArgs s_is_name, defBody s_is_name, defScope s_is_name, [], []⟩
abbrev s_is_figures : Stmt := top 25
def d_is_figures : He.DefD := ⟨("is_figures", none), "is_figures", "is_figures", defArgs s_is_figures, defBody s_is_figures, defScope s_is_figures, [], []⟩
abbrev s_is_points : Stmt := top 26
def d_is_points : He.DefD := ⟨("is_points", none), "is_points", "is_points", defArgs s_is_points, defBody s_is_points, defScope s_is_points, [], []⟩
abbrev s_is_maker : Stmt := top 27
def d_is_maker : He.DefD := ⟨("is_maker", none), "is_maker", "is_maker", defArgs s_is_maker, defBody s_is_maker, defScope s_is_maker, [], []⟩
abbrev s_is_letters : Stmt := top 28
def d_is_letters : He.DefD := ⟨("is_letters", none), "is_letters", "is_letters", defArgs s_is_letters, defBody s_is_letters, defScope s_is_letters, [], []⟩
abbrev s_need_year : Stmt := top 34
def d_need_year : He.DefD := ⟨("need_year", none), "need_year", "need_year", defArgs s_need_year, defBody s_need_year, defScope s_need_year, [], []⟩
abbrev s_need_copy : Stmt := top 35
def d_need_copy : He.DefD := ⟨("need_copy", none), "need_copy", "need_copy", defArgs s_need_copy, defBody s_need_copy, defScope s_need_copy, [], []⟩
abbrev s_makers_in : Stmt := top 36
def d_makers_in : He.DefD := ⟨("makers_in", none), "makers_in", "makers_in", defArgs s_makers_in, defBody s_makers_in, defScope s_makers_in, [], []⟩
abbrev s_Mark_init : Stmt := inClass (top 37) 0
def d_Mark_init : He.DefD := ⟨("Mark", some "__init__"), "__init__", "Mark.__init__", defArgs s_Mark_init, defBody s_Mark_init, defScope s_Mark_init, [.str "", .non, .non, .non], []⟩
abbrev s_Mark_text_of : Stmt := inClass (top 37) 1
def d_Mark_text_of : He.DefD := ⟨("Mark", some "text_of"), "text_of", "Mark.text_of", defArgs s_Mark_text_of, defBody s_Mark_text_of, defScope s_Mark_text_of, [], []⟩
abbrev s_Mark_eq : Stmt := inClass (top 37) 2
def d_Mark_eq : He.DefD := ⟨("Mark", some "__eq__"), "__eq__", "Mark.__eq__", defArgs s_Mark_eq, defBody s_Mark_eq, defScope s_Mark_eq, [], []⟩
abbrev s_Mark_str : Stmt := inClass (top 37) 3
def d_Mark_str : He.DefD := ⟨("Mark", some "__str__"), "__str__", "Mark.__str__", defArgs s_Mark_str, defBody s_Mark_str, defScope s_Mark_str, [], []⟩
abbrev s_Mark_repr : Stmt := inClass (top 37) 4
def d_Mark_repr : He.DefD := ⟨("Mark", some "__repr__"), "__repr__", "Mark.__repr__", defArgs s_Mark_repr, defBody s_Mark_repr, defScope s_Mark_repr, [], []⟩
abbrev s_Mark_len : Stmt := inClass (top 37) 5
def d_Mark_len : He.DefD := ⟨("Mark", some "__len__"), "__len__", "Mark.__len__", defArgs s_Mark_len, defBody s_Mark_len, defScope s_Mark_len, [], []⟩
abbrev s_Mark_letters : Stmt := inClass (top 37) 6
def d_Mark_letters : He.DefD := ⟨("Mark", some "letters"), "letters", "Mark.letters", defArgs s_Mark_letters, defBody s_Mark_letters, defScope s_Mark_letters, [], []⟩
abbrev s_Mark_number : Stmt := inClass (top 37) 7
def d_Mark_number : He.DefD := ⟨("Mark", some "number"), "number", "Mark.number", defArgs s_Mark_number, defBody s_Mark_number, defScope s_Mark_number, [], []⟩
abbrev s_Mark_points : Stmt := inClass (top 37) 8
def d_Mark_points : He.DefD := ⟨("Mark", some "points"), "points", "Mark.points", defArgs s_Mark_points, defBody s_Mark_points, defScope s_Mark_points, [], []⟩
abbrev s_Mark_makers : Stmt := inClass (top 37) 9
def d_Mark_makers : He.DefD := ⟨("Mark", some "makers"), "makers", "Mark.makers", defArgs s_Mark_makers, defBody s_Mark_makers, defScope s_Mark_makers, [], []⟩
abbrev s_Mark_year : Stmt := inClass (top 37) 10
def d_Mark_year : He.DefD := ⟨("Mark", some "year"), "year", "Mark.year", defArgs s_Mark_year, defBody s_Mark_year, defScope s_Mark_year, [], []⟩
abbrev s_Mark_parts : Stmt := inClass (top 37) 12
def d_Mark_parts : He.DefD := ⟨("Mark", some "parts"), "parts", "Mark.parts", defArgs s_Mark_parts, defBody s_Mark_parts, defScope s_Mark_parts, [], []⟩
abbrev s_Mark_key : Stmt := inClass (top 37) 13
def d_Mark_key : He.DefD := ⟨("Mark", some "key"), "key", "Mark.key", defArgs s_Mark_key, defBody s_Mark_key, defScope s_Mark_key, [], []⟩
abbrev s_Mark_ahead : Stmt := inClass (top 37) 14
def d_Mark_ahead : He.DefD := ⟨("Mark", some "ahead"), "ahead", "Mark.ahead", defArgs s_Mark_ahead, defBody s_Mark_ahead, defScope s_Mark_ahead, [], []⟩
abbrev s_law_cell_at : Stmt := top 39
def d_law_cell_at : He.DefD := ⟨("_law_cell_at", none), "_law_cell_at", "_law_cell_at", defArgs s_law_cell_at, defBody s_law_cell_at, defScope s_law_cell_at, [], []⟩
abbrev s_law_pool : Stmt := top 40
def d_law_pool : He.DefD := ⟨("_law_pool", none), "_law_pool", "_law_pool", defArgs s_law_pool, defBody s_law_pool, defScope s_law_pool, [], []⟩
abbrev s_law_take : Stmt := top 41
def d_law_take : He.DefD := ⟨("_law_take", none), "_law_take", "_law_take", defArgs s_law_take, defBody s_law_take, defScope s_law_take, [], []⟩
abbrev s_law_figures : Stmt := top 42
def d_law_figures : He.DefD := ⟨("_law_figures", none), "_law_figures", "_law_figures", defArgs s_law_figures, defBody s_law_figures, defScope s_law_figures, [], []⟩
abbrev s_law_maker : Stmt := top 43
def d_law_maker : He.DefD := ⟨("_law_maker", none), "_law_maker", "_law_maker", defArgs s_law_maker, defBody s_law_maker, defScope s_law_maker, [], []⟩
abbrev s_law_parts : Stmt := top 44
def d_law_parts : He.DefD := ⟨("_law_parts", none), "_law_parts", "_law_parts", defArgs s_law_parts, defBody s_law_parts, defScope s_law_parts, [], []⟩
abbrev s_law_near_word : Stmt := top 45
def d_law_near_word : He.DefD := ⟨("_law_near_word", none), "_law_near_word", "_law_near_word", defArgs s_law_near_word, defBody s_law_near_word, defScope s_law_near_word, [], []⟩
abbrev s_law_near_makers : Stmt := top 46
def d_law_near_makers : He.DefD := ⟨("_law_near_makers", none), "_law_near_makers", "_law_near_makers", defArgs s_law_near_makers, defBody s_law_near_makers, defScope s_law_near_makers, [], []⟩
abbrev s_law_near_year : Stmt := top 47
def d_law_near_year : He.DefD := ⟨("_law_near_year", none), "_law_near_year", "_law_near_year", defArgs s_law_near_year, defBody s_law_near_year, defScope s_law_near_year, [], []⟩
abbrev s_law_near_copy : Stmt := top 48
def d_law_near_copy : He.DefD := ⟨("_law_near_copy", none), "_law_near_copy", "_law_near_copy", defArgs s_law_near_copy, defBody s_law_near_copy, defScope s_law_near_copy, [], []⟩
abbrev s_law_near : Stmt := top 49
def d_law_near : He.DefD := ⟨("_law_near", none), "_law_near", "_law_near", defArgs s_law_near, defBody s_law_near, defScope s_law_near, [], []⟩
abbrev s_law_mark : Stmt := top 50
def d_law_mark : He.DefD := ⟨("_law_mark", none), "_law_mark", "_law_mark", defArgs s_law_mark, defBody s_law_mark, defScope s_law_mark, [], []⟩
abbrev s_law_key : Stmt := top 51
def d_law_key : He.DefD := ⟨("_law_key", none), "_law_key", "_law_key", defArgs s_law_key, defBody s_law_key, defScope s_law_key, [], []⟩
abbrev s_law_order : Stmt := top 52
def d_law_order : He.DefD := ⟨("_law_order", none), "_law_order", "_law_order", defArgs s_law_order, defBody s_law_order, defScope s_law_order, [], []⟩
abbrev s_law_whole : Stmt := top 53
def d_law_whole : He.DefD := ⟨("_law_whole", none), "_law_whole", "_law_whole", defArgs s_law_whole, defBody s_law_whole, defScope s_law_whole, [], []⟩
abbrev s_law_cells : Stmt := top 54
def d_law_cells : He.DefD := ⟨("_law_cells", none), "_law_cells", "_law_cells", defArgs s_law_cells, defBody s_law_cells, defScope s_law_cells, [], []⟩
abbrev s_law_sides : Stmt := top 55
def d_law_sides : He.DefD := ⟨("_law_sides", none), "_law_sides", "_law_sides", defArgs s_law_sides, defBody s_law_sides, defScope s_law_sides, [], []⟩
abbrev s_law_same : Stmt := top 56
def d_law_same : He.DefD := ⟨("_law_same", none), "_law_same", "_law_same", defArgs s_law_same, defBody s_law_same, defScope s_law_same, [], []⟩
abbrev s_law_marks : Stmt := top 57
def d_law_marks : He.DefD := ⟨("_law_marks", none), "_law_marks", "_law_marks", defArgs s_law_marks, defBody s_law_marks, defScope s_law_marks, [], []⟩
abbrev s_law_both : Stmt := top 58
def d_law_both : He.DefD := ⟨("_law_both", none), "_law_both", "_law_both", defArgs s_law_both, defBody s_law_both, defScope s_law_both, [], []⟩
abbrev s_law_places : Stmt := top 59
def d_law_places : He.DefD := ⟨("_law_places", none), "_law_places", "_law_places", defArgs s_law_places, defBody s_law_places, defScope s_law_places, [], []⟩
abbrev s_law_refused : Stmt := top 60
def d_law_refused : He.DefD := ⟨("_law_refused", none), "_law_refused", "_law_refused", defArgs s_law_refused, defBody s_law_refused, defScope s_law_refused, [], []⟩
abbrev s_law_spoilt : Stmt := top 61
def d_law_spoilt : He.DefD := ⟨("_law_spoilt", none), "_law_spoilt", "_law_spoilt", defArgs s_law_spoilt, defBody s_law_spoilt, defScope s_law_spoilt, [], []⟩
abbrev s_law : Stmt := top 62
def d_law : He.DefD := ⟨("law", none), "law", "law", defArgs s_law, defBody s_law, defScope s_law, [], []⟩
def fn : List He.DefD := ([d_NotRising_init, d_order, d_first_wrong, d_need_rising, d_joined, d_place_in, d_is_whole, d_figures_of, d_is_name, d_is_figures, d_is_points, d_is_maker, d_is_letters, d_need_year, d_need_copy, d_makers_in, d_Mark_init, d_Mark_text_of, d_Mark_eq, d_Mark_str] : List He.DefD) ++ ([d_Mark_key, d_Mark_ahead, d_law_cell_at, d_law_pool, d_law_take, d_law_figures, d_law_maker, d_law_parts, d_law_near_word, d_law_near_makers, d_law_near_year, d_law_near_copy, d_law_near, d_law_mark, d_law_key, d_law_order, d_law_whole, d_law_cells, d_law_sides, d_law_same] : List He.DefD) ++ ([d_law_marks, d_law_both, d_law_places, d_law_refused, d_law_spoilt, d_law] : List He.DefD)
def fa : List He.Fa := ([.glo "MarkError", .glo "NotRising", .noat "NotRising" "at", .meth "NotRising" "__init__", .glo "order", .glo "first_wrong", .glo "need_rising", .glo "joined", .glo "place_in", .str "LETTERS" "abcdefghijklmnopqrstuvwxyz", .str "FIGURES" "0123456789", .int "LONGEST" 6, .int "PART" 60, .glo "is_whole", .glo "figures_of", .glo "is_name", .glo "is_figures", .glo "is_points", .glo "is_maker", .glo "is_letters"] : List He.Fa) ++ ([.int "MOST_MAKERS" 3, .int "FIRST_YEAR" 1000, .int "LAST_YEAR" 2999, .int "GREATEST" 9999, .glo "need_year", .glo "need_copy", .glo "makers_in", .glo "Mark", .cls "Mark", .mkr "Mark", .noat "Mark" "kept_copy", .noat "Mark" "kept_letters", .noat "Mark" "kept_makers", .noat "Mark" "kept_number", .noat "Mark" "kept_points", .noat "Mark" "kept_text", .noat "Mark" "kept_year", .meth "Mark" "text_of", .meth "Mark" "__eq__", .meth "Mark" "__str__"] : List He.Fa) ++ ([.meth "Mark" "key", .meth "Mark" "ahead", .glo "_law_cell_at", .glo "_law_pool", .glo "_law_take", .glo "_law_figures", .glo "_law_maker", .glo "_law_parts", .glo "_law_near_word", .glo "_law_near_makers", .glo "_law_near_year", .glo "_law_near_copy", .glo "_law_near", .glo "_law_mark", .glo "_law_key", .glo "_law_order", .glo "_law_whole", .glo "_law_cells", .glo "_law_sides", .glo "_law_same"] : List He.Fa) ++ ([.glo "_law_marks", .glo "_law_both", .glo "_law_places", .glo "_law_refused", .glo "_law_spoilt", .glo "law", .free "len", .free "isinstance", .free "all", .free "max", .free "int", .free "str", .free "bool", .free "list", .free "tuple", .free "range", .free "zip", .free "sorted", .free "divmod", .free "ValueError"] : List He.Fa)
def ts : List He.Tab := []
def tf : List He.Defn := [("_law_sides", none)]
def inB (K : PySem.W.Frag) (x k : PySem.Str) : Bool := match PySem.W.nsIn K (He.ga K x) k with | some (some _) => true | _ => false
def tabsK (K : PySem.W.Frag) : List (PySem.Addr × PySem.Str) := [((He.cT K ("_law_sides", none)).2, ((d_law_sides.qual ++ ".<locals>." ++ "<lambda>") : PySem.Str))]
def exs (K : PySem.W.Frag) : List Bool := [U.meB K (He.ga K "MarkError"), U.oexB K (He.ga K "NotRising"), U.excB K (He.ga K "NotRising"), U.ownNeB K (He.ga K "Mark"), decide (PySem.W.kitOne K (.ref (He.ga K "NotRising")) (.ref (He.ga K "MarkError")) = some true), decide (PySem.W.kitOne K (.ref (He.ga K "NotRising")) (.type "ValueError") = some true), decide (PySem.W.exmOne K (.ref (He.ga K "NotRising")) (.ref (He.ga K "NotRising")) = some true)]
def ex (K : PySem.W.Frag) : Bool := (exs K).all id
set_option maxHeartbeats 0
abbrev R : PySem.W.OpenRow := PySem.W.OpenLaw.row PySem.Challenge.rw_sievemarks_k15_joined
abbrev hk : PySem.W.Hook := U.hookY 4 fa fn ts tf ex
def ob (s : PySem.W.SharedT) : He.AlX := U.obsY 4 fa fn ts tf ex (HandSHeadRun.getT s)
theorem ob_eq (s : PySem.W.SharedT) : ob s = hk.obs s.abs := U.obsY_eq (HandSHeadRun.getT_eq s)
def loose : List PySem.Str := (["FIGURES", "FIRST_YEAR", "GREATEST", "LAST_YEAR", "LETTERS", "LONGEST", "MOST_MAKERS", "Mark", "MarkError", "NoCopy", "NoLetters", "NoMaker", "NoMakers", "NoNumber", "NoPoints", "NoYear", "NotRising", "PART", "_law_both", "_law_cell_at"] : List PySem.Str) ++ (["_law_cells", "_law_figures", "_law_key", "_law_maker", "_law_mark", "_law_marks", "_law_near", "_law_near_copy", "_law_near_makers", "_law_near_word", "_law_near_year", "_law_order", "_law_parts", "_law_places", "_law_pool", "_law_refused", "_law_same", "_law_sides", "_law_spoilt", "_law_take"] : List PySem.Str) ++ (["_law_whole", "_wall", "figures_of", "first_wrong", "is_figures", "is_letters", "is_maker", "is_name", "is_points", "is_whole", "joined", "makers_in", "need_copy", "need_rising", "need_year", "order", "place_in"] : List PySem.Str)
abbrev RunT (w : World) : Prop := HandSHeadRun.RunEq R (PySem.W.view R.prog [62]) hk ob 6000 loose w
theorem run0 (w : World) : RunT (w.withFollow "special-get-raises" false) := by
  intro os
  kernel_rfl
theorem run1 (w : World) : RunT (w.withFollow "special-get-raises" true) := by
  intro os
  kernel_rfl
theorem run (w : World) : RunT w := PySem.W.byRow2 "special-get-raises" (P := RunT) run0 run1 w
end T

set_option maxHeartbeats 4000000
/-! U: readings that go by themselves. Facts of the heap are classes, a reading's next step is an instance. -/
namespace U
open PySem PySem.Spec PyProof.Rows L2

/-- one step of a reading: G is shown by G' -/
class Go (G : Prop) (G' : outParam Prop) : Prop where
  go : G' → G
/-- no table of code objects -/
def NT (o : HO) : Prop := ∀ ps, o ≠ .tbl ps
theorem nt_l {xs : List V} : NT (.lst xs) := fun _ z => nomatch z
theorem nt_t {xs : List V} : NT (.tup xs) := fun _ z => nomatch z
theorem nt_f {o : Obj} {u : HO} : NT (.frz o u) := fun _ z => nomatch z
theorem nt_i {C dx : Addr} {fs : List (Str × V)} : NT (.ins C dx fs) := fun _ z => nomatch z
theorem nt_x {fs : List (Str × V)} : NT (.xd fs) := fun _ z => nomatch z
variable [QN]
/-- H' knows all that H knows, but at p; tables of code objects may grow -/
structure KpB (p : Addr → Prop) (H H' : Hp) : Prop where
  at_ : ∀ a o, ¬ p a → H a = some o → NT o → H' a = some o
  tab : LamX.Tabs QN.tabs H → LamX.Tabs QN.tabs H'
abbrev Kp := KpB fun _ => False
theorem Kp.a {H H' : Hp} (k : Kp H H') {a : Addr} {o : HO} (h : H a = some o) (n : NT o) : H' a = some o := k.at_ a o (fun z => z) h n
theorem KpB.b {p : Addr} {H H' : Hp} (k : KpB (· = p) H H') {a : Addr} {o : HO} (z : a ≠ p) (h : H a = some o) (n : NT o) : H' a = some o := k.at_ a o z h n
theorem kp_rfl {p : Addr → Prop} {H : Hp} : KpB p H H := ⟨fun _ _ _ h _ => h, fun h => h⟩
theorem kp_all {H H' : Hp} (e : ∀ a o, H a = some o → H' a = some o) : Kp H H' := ⟨fun a o _ h _ => e a o h, fun h => h.ext e⟩
/-- what is neither a table nor of the code may change -/
theorem kp_but {p : Addr} {H H' : Hp} {u : HO} (hp : H p = some u) (h1 : NT u) (h2 : ∀ φ, u ≠ .ext φ) (e : ∀ a o, a ≠ p → H a = some o → H' a = some o) : KpB (· = p) H H' := by
  refine ⟨fun a o z h _ => e a o z h, fun ts p' hp' => ?_⟩
  obtain ⟨ps, e1, e2, e3⟩ := ts p' hp'
  refine ⟨ps, e _ _ (fun z => ?_) e1, e2, fun pos cv hc => ?_⟩
  · rw [z, hp] at e1
    exact h1 ps (Option.some.inj e1)
  · obtain ⟨c, r1, r2⟩ := e3 pos cv hc
    refine ⟨c, r1, e _ _ (fun z => ?_) r2⟩
    rw [z, hp] at r2
    exact h2 _ (Option.some.inj r2)
/-- H' knows all that H knows -/
class Ex (H : outParam Hp) (H' : Hp) : Prop where
  ex : Kp H H'
/-- at a a list is to be read -/
class LR (K : PySem.W.Frag) (H : Hp) (a : Addr) (xs : outParam (List V)) : Prop where
  lr : SqL K H a xs
/-- at a a tuple is to be read -/
class TR (K : PySem.W.Frag) (H : Hp) (a : Addr) (xs : outParam (List V)) : Prop where
  tr : SqT K H a xs
/-- at a a list of one's own -/
class LM (H : Hp) (a : Addr) (xs : outParam (List V)) : Prop where
  lm : H a = some (.lst xs)
/-- at a an instance -/
class IR (H : Hp) (a : Addr) (C : outParam Addr) (dx : outParam Addr) (fs : outParam (List (Str × V))) : Prop where
  ir : H a = some (.ins C dx fs)
/-- a was new at H -/
class Nw (H : outParam Hp) (a : Addr) : Prop where
  nw : ∀ o, NT o → H a ≠ some o
theorem nw_of {H : Hp} {a : Addr} (h : H a = none) : Nw H a := ⟨fun o _ e => by
  rw [h] at e
  cases e⟩
theorem Nw.ne {H : Hp} {a p : Addr} {o : HO} (w : Nw H p) (h : H a = some o) (n : NT o) : a ≠ p := fun z => w.nw o n (by rw [← z]; exact h)
class Ne' (a b : Addr) : Prop where
  ne : a ≠ b
/-- all but the list at p is known on -/
class Mu (H : outParam Hp) (p : outParam Addr) (H' : Hp) : Prop where
  mu : KpB (· = p) H H'
  was : ∃ xs, H p = some (.lst xs)

theorem ex_rd {H H' : Hp} {a : Addr} {u : HO} (n : NT u) (e : Kp H H') (h : Rd H a u) : Rd H' a u := by
  rcases h with h | ⟨o, h⟩
  · exact .inl (e.a h n)
  · exact .inr ⟨o, e.a h nt_f⟩
theorem ex_l {K : PySem.W.Frag} {H H' : Hp} {a : Addr} {xs : List V} (e : Kp H H') (h : SqL K H a xs) : SqL K H' a xs := by
  rcases h with h | h
  · exact .inl (ex_rd nt_l e h)
  · exact .inr h
theorem ex_t {K : PySem.W.Frag} {H H' : Hp} {a : Addr} {xs : List V} (e : Kp H H') (h : SqT K H a xs) : SqT K H' a xs := by
  rcases h with h | h
  · exact .inl (ex_rd nt_t e h)
  · exact .inr h
section
variable {K : PySem.W.Frag} {H H' H0 : Hp} {a p : Addr} {xs : List V}
instance [Ex H H'] [LR K H a xs] : LR K H' a xs := ⟨ex_l (Ex.ex (H := H)) LR.lr⟩
instance [Ex H H'] [TR K H a xs] : TR K H' a xs := ⟨ex_t (Ex.ex (H := H)) TR.tr⟩
instance [Ex H H'] [LM H a xs] : LM H' a xs := ⟨(Ex.ex (H := H)).a (LM.lm (H := H)) nt_l⟩
instance {C dx : Addr} {fs : List (Str × V)} [Ex H H'] [IR H a C dx fs] : IR H' a C dx fs := ⟨(Ex.ex (H := H)).a (IR.ir (H := H)) nt_i⟩
instance [LM H a xs] : LR K H a xs := ⟨.inl (.inl LM.lm)⟩
theorem mu_t (m : Mu H p H') (h : SqT K H a xs) : SqT K H' a xs := by
  obtain ⟨zs, hz⟩ := m.was
  rcases h with (h | ⟨o, h⟩) | h
  · exact .inl (.inl (m.mu.b (ne_of h hz (by intro z; cases z)) h nt_t))
  · exact .inl (.inr ⟨o, m.mu.b (ne_of h hz (by intro z; cases z)) h nt_f⟩)
  · exact .inr h
instance [m : Mu H p H'] [TR K H a xs] : TR K H' a xs := ⟨mu_t m TR.tr⟩
instance {C dx : Addr} {fs : List (Str × V)} [m : Mu H p H'] [IR H a C dx fs] : IR H' a C dx fs := by
  obtain ⟨zs, hz⟩ := m.was
  have h := IR.ir (H := H) (a := a) (C := C) (dx := dx) (fs := fs)
  exact ⟨m.mu.b (ne_of h hz (by intro z; cases z)) h nt_i⟩
theorem mu_l (m : Mu H p H') (n : a ≠ p) (h : SqL K H a xs) : SqL K H' a xs := by
  rcases h with (h | ⟨o, h⟩) | h
  · exact .inl (.inl (m.mu.b n h nt_l))
  · exact .inl (.inr ⟨o, m.mu.b n h nt_f⟩)
  · exact .inr h
instance [m : Mu H p H'] [n : Ne' a p] [LR K H a xs] : LR K H' a xs := ⟨mu_l m n.ne LR.lr⟩
instance [m : Mu H p H'] [n : Ne' a p] [h : LM H a xs] : LM H' a xs := ⟨m.mu.b n.ne h.lm nt_l⟩
instance [w : Nw H0 p] [h : LM H0 a xs] : Ne' a p := ⟨w.ne h.lm nt_l⟩
instance [w : Nw H0 a] [h : LM H0 p xs] : Ne' a p := ⟨(w.ne h.lm nt_l).symm⟩
/-- from H on all is known: chains -/
class Et (H H' : Hp) : Prop where
  et : Kp H H'
instance (priority := 2000) : Et H H := ⟨kp_rfl⟩
theorem kp_tr {p : Addr → Prop} {H1 H2 : Hp} (a : KpB p H H1) (b : Kp H1 H2) : KpB p H H2 := ⟨fun c o n h t => b.a (a.at_ c o n h t) t, fun h => b.tab (a.tab h)⟩
instance {H1 H2 : Hp} [e : Ex H1 H2] [t : Et H H1] : Et H H2 := ⟨kp_tr t.et e.ex⟩
theorem kp_nw {r : Addr → Prop} {H1 H2 H0 : Hp} (m : KpB (· = p) H1 H2) (w : Nw H0 p) (t : KpB r H H0) (u : KpB r H H1) : KpB r H H2 := by
  refine ⟨fun a o n h k => ?_, fun h => m.tab (u.tab h)⟩
  exact m.b (w.ne (t.at_ a o n h k) k) (u.at_ a o n h k) k
instance {H1 H2 H0 : Hp} [m : Mu H1 p H2] [w : Nw H0 p] [t : Et H H0] [u : Et H H1] : Et H H2 := ⟨kp_nw m.mu w t.et u.et⟩
end

/-! ### the frame's values -/
class Nth (σ : List (Option V)) (i : Nat) (v : outParam V) : Prop where
  nth : σ[i]? = some (some v)
instance {v : V} {l : List (Option V)} : Nth (some v :: l) 0 v := ⟨rfl⟩
instance {v : V} {o : Option V} {l : List (Option V)} {i : Nat} [h : Nth l i v] : Nth (o :: l) (i + 1) v := ⟨by have := h.nth; simpa using this⟩
class SetN (σ : List (Option V)) (i : Nat) (v : Option V) (σ' : outParam (List (Option V))) : Prop where
  eq : σ.set i v = σ'
instance {v o : Option V} {l : List (Option V)} : SetN (o :: l) 0 v (v :: l) := ⟨rfl⟩
instance {v o : Option V} {l l' : List (Option V)} {i : Nat} [h : SetN l i v l'] : SetN (o :: l) (i + 1) v (o :: l') := ⟨by have := h.eq; simp [this]⟩

/-! ### steps: structure -/
section
variable {σ σ' : L2.St} {H : Hp} {Q : VK} {i : Nat} {v x y : V} {ta tb tc te : TE} {t u tA tB' : TT} {D : Ends} {ts tw tz : TS} {g : TG} {r : R2} {tl : TA} {K : PySem.W.Frag} {b : Bool} {R : Bool → Hp → Prop} {A B : Prop}
instance [h : Nth σ i v] : Go (tVar i σ H Q) (Q v H) := ⟨fun k => ⟨v, h.nth, k⟩⟩
instance : Go (tC v σ H Q) (Q v H) := ⟨fun k => k⟩
instance : Go (tOp r ta tb σ H Q) (ta σ H fun x H1 => tb σ H1 fun y H2 => r x y H2 Q) := ⟨fun k => k⟩
instance {r : V → Hp → VK → Prop} : Go (tUn r ta σ H Q) (ta σ H fun x H1 => r x H1 Q) := ⟨fun k => k⟩
instance {R : List V → Hp → Prop} : Go (tNil σ H R) (R [] H) := ⟨fun k => k⟩
instance {R : List V → Hp → Prop} : Go (tCons ta tl σ H R) (ta σ H fun x H1 => tl σ H1 fun xs H2 => R (x :: xs) H2) := ⟨fun k => k⟩
/-- written arguments and defaults together -/
class App (xs ys : List V) (zs : outParam (List V)) : Prop where
  eq : xs ++ ys = zs
instance {ys : List V} : App [] ys ys := ⟨rfl⟩
instance {x : V} {xs ys zs : List V} [h : App xs ys zs] : App (x :: xs) ys (x :: zs) := ⟨by rw [List.cons_append, h.eq]⟩
def callG (sp : Sp) (vs dvs : List V) (H : Hp) (Q : VK) (E : XK) : Prop := sp (vs ++ dvs) H Q E
instance {sp : Sp} {dvs : List V} {E : XK} : Go (tCall sp dvs E tl σ H Q) (tl σ H fun vs H1 => callG sp vs dvs H1 Q E) := ⟨fun k => k⟩
instance {sp : Sp} {vs dvs zs : List V} {E : XK} [h : App vs dvs zs] : Go (callG sp vs dvs H Q E) (sp zs H Q E) := ⟨fun k => by unfold callG; rw [h.eq]; exact k⟩
instance {r : List V → Hp → VK → Prop} : Go (tCB r tl σ H Q) (tl σ H fun vs H1 => r vs H1 Q) := ⟨fun k => k⟩
instance : Go (tTup tl σ H Q) (tl σ H fun xs H1 => xs.length ≤ sizeLine ∧ ∀ p, H1 p = none → Q (.ref p) (upd H1 p (.tup xs))) := ⟨fun k => k⟩
instance : Go (tLst tl σ H Q) (tl σ H fun xs H1 => xs.length ≤ sizeLine ∧ ∀ p, H1 p = none → Q (.ref p) (upd H1 p (.lst xs))) := ⟨fun k => k⟩
instance : Go (tIf t ta tb σ H Q) (t σ H fun c H1 => if c = true then ta σ H1 Q else tb σ H1 Q) := ⟨fun k => k⟩
instance : Go (tAnd t u σ H R) (t σ H fun c H1 => if c = true then u σ H1 R else R false H1) := ⟨fun k => k⟩
instance : Go (tOr t u σ H R) (t σ H fun c H1 => if c = true then R true H1 else u σ H1 R) := ⟨fun k => k⟩
instance : Go (tNot t σ H R) (t σ H fun c H1 => R (!c) H1) := ⟨fun k => k⟩
/-- a value that is a truth -/
def isB (x : V) (H : Hp) (R : Bool → Hp → Prop) : Prop := ∃ c, x = .bl c ∧ R c H
instance : Go (isB (.bl b) H R) (R b H) := ⟨fun k => ⟨b, rfl, k⟩⟩
instance : Go (tB te σ H R) (te σ H fun x H1 => isB x H1 R) := ⟨fun k => k⟩
instance : Go (tTest te σ H R) (te σ H fun x H1 => isB x H1 R) := ⟨fun k => k⟩
instance : Go (tAndV ta tb σ H Q) (ta σ H fun x H1 => isB x H1 fun c H2 => if c = true then tb σ H2 Q else Q (.bl false) H2) := ⟨fun k => k⟩
instance : Go (tOrV ta tb σ H Q) (ta σ H fun x H1 => isB x H1 fun c H2 => if c = true then Q (.bl true) H2 else tb σ H2 Q) := ⟨fun k => k⟩
instance : Go (tNotV ta σ H Q) (ta σ H fun x H1 => isB x H1 fun c H2 => Q (.bl (!c)) H2) := ⟨fun k => k⟩
instance : Go (if true = true then A else B) A := ⟨fun k => by rw [if_pos rfl]; exact k⟩
instance : Go (if false = true then A else B) B := ⟨fun k => by rw [if_neg Bool.false_ne_true]; exact k⟩
instance : Go (if (!b) = true then A else B) (if b = true then B else A) := ⟨fun k => by cases b <;> simpa using k⟩
/-! statements -/
instance : Go (tSeq ts tz D σ H) (ts { D with nx := tz D } σ H) := ⟨fun k => k⟩
instance : Go (tNext D σ H) (D.nx σ H) := ⟨fun k => k⟩
instance : Go (tBreak D σ H) (D.bk σ H) := ⟨fun k => k⟩
instance : Go (tCont D σ H) (D.ct σ H) := ⟨fun k => k⟩
instance : Go (tRet te D σ H) (te σ H D.rt) := ⟨fun k => k⟩
instance : Go (tRetN D σ H) (D.rt .non H) := ⟨fun k => k⟩
instance : Go (tDrop te D σ H) (te σ H fun _ H1 => D.nx σ H1) := ⟨fun k => k⟩
instance : Go (tAsg te g D σ H) (te σ H fun x H1 => g x σ H1 D.nx) := ⟨fun k => k⟩
instance : Go (tIfS t ts tw D σ H) (t σ H fun c H1 => if c = true then ts D σ H1 else tw D σ H1) := ⟨fun k => k⟩
instance {R : L2.St → Hp → Prop} [h : SetN σ i (some v) σ'] : Go (gName i v σ H R) (R σ' H) := ⟨fun k => by unfold gName; rw [h.eq]; exact k⟩
instance {ti : TIp} [h : Nth σ i x] : Go (tAug i te ti D σ H) (te σ H fun y H1 => ti x y H1 fun z H2 => gName i z σ H2 D.nx) := ⟨fun k => ⟨x, h.nth, k⟩⟩
variable {n b' c : L2.St → Hp → Prop} {rt : VK}
instance : Go (Ends.nx ⟨n, rt, b', c⟩ σ H) (n σ H) := ⟨fun k => k⟩
instance : Go (Ends.bk ⟨n, rt, b', c⟩ σ H) (b' σ H) := ⟨fun k => k⟩
instance : Go (Ends.ct ⟨n, rt, b', c⟩ σ H) (c σ H) := ⟨fun k => k⟩
instance : Go (Ends.rt ⟨n, rt, b', c⟩ v H) (rt v H) := ⟨fun k => k⟩
end
end U

namespace U
variable [QN]
open PySem PySem.Spec PyProof.Rows L2
open SX (S)
/-! ### new objects -/
def newL (xs : List V) (H : Hp) (Q : VK) : Prop := ∀ p, H p = none → Q (.ref p) (upd H p (.lst xs))
def newT (xs : List V) (H : Hp) (Q : VK) : Prop := ∀ p, H p = none → Q (.ref p) (upd H p (.tup xs))
theorem ex_new {H : Hp} {p : Addr} {o : HO} (h : H p = none) : Ex H (upd H p o) := ⟨kp_all fun a u e => by
  rw [upd_ne (ne_of_none e h)]
  exact e⟩
theorem al_l {xs : List V} {H : Hp} {Q : VK} (k : ∀ (p : Addr) (H' : Hp), Nw H p → Ex H H' → LM H' p xs → Q (.ref p) H') : newL xs H Q := fun p h => k p _ (nw_of h) (ex_new h) ⟨upd_same⟩
theorem al_t {K : PySem.W.Frag} {xs : List V} {H : Hp} {Q : VK} (k : ∀ (p : Addr) (H' : Hp), Nw H p → Ex H H' → TR K H' p xs → Q (.ref p) H') : newT xs H Q := fun p h => k p _ (nw_of h) (ex_new h) ⟨.inl (.inl upd_same)⟩
/-- a list of one's own is changed -/
def setL (p : Addr) (xs : List V) (H : Hp) (Q : Hp → Prop) : Prop := Q (upd H p (.lst xs))
theorem mu_l' {p : Addr} {xs ys : List V} {H : Hp} {Q : Hp → Prop} [h : LM H p ys] (k : ∀ H', Mu H p H' → LM H' p xs → Q H') : setL p xs H Q := k _ ⟨kp_but h.lm nt_l (fun _ z => nomatch z) fun a o n e => by rw [upd_ne n]; exact e, ⟨ys, h.lm⟩⟩ ⟨upd_same⟩

/-! ### asides -/
def Sd (P G : Prop) : Prop := P ∧ G
theorem Sd.k {P G : Prop} (p : P) (g : G) : Sd P G := ⟨p, g⟩
/-! ### operators -/
section
variable {K : PySem.W.Frag} {H : Hp} {Q : VK} {i j : Int} {a b : List Nat} {p q : Addr} {xs ys : List V} {x y : V} {X : Cx} {k l : Bool} {z u : Str}
def uAdd (K : PySem.W.Frag) : R2 := fun x y H Q => rI0 (fun i j => .int (i + j)) x y H Q ∨ (∃ i j, x = .str i ∧ y = .str j ∧ i.length + j.length ≤ sizeLine ∧ Q (.str (i ++ j)) H) ∨ rCat x y H Q ∨ rCatA K x y H Q
theorem ou_add (hK : X.K = K := by rfl) : OpR X (binaryOp .Add) (uAdd K) := by
  subst hK
  exact op_add.or (op_add_str.or (op_cat.or op_catA))
instance : Go (uAdd K (.int i) (.int j) H Q) (Q (.int (i + j)) H) := ⟨fun h => .inl ⟨i, j, rfl, rfl, h⟩⟩
instance : Go (uAdd K (.str (S a)) (.str (S b)) H Q) (Sd (a.length + b.length ≤ sizeLine) (Q (.str (S (a ++ b))) H)) := ⟨fun h => .inr (.inl ⟨_, _, rfl, rfl, by rw [SX.S_len, SX.S_len]; exact h.1, by rw [SX.S_cat]; exact h.2⟩)⟩
instance [h1 : LM H p xs] [h2 : LM H q ys] : Go (uAdd K (.ref p) (.ref q) H Q) (Sd (xs.length + ys.length ≤ sizeLine) (newL (xs ++ ys) H Q)) := ⟨fun h => .inr (.inr (.inl ⟨p, q, xs, ys, rfl, rfl, h1.lm, h2.lm, h.1, h.2⟩))⟩
def uSub : R2 := rI0 (fun i j => .int (i - j))
theorem ou_sub : OpR X (binaryOp .Sub) uSub := op_sub
instance : Go (uSub (.int i) (.int j) H Q) (Q (.int (i - j)) H) := ⟨fun h => ⟨i, j, rfl, rfl, h⟩⟩
/-- a product of ints: together less than a million bits -/
def uMul (K : PySem.W.Frag) : R2 := fun x y H Q => rI CMulW (fun i j => .int (i * j)) x y H Q ∨ rRep x y H Q
theorem ou_mul (hK : X.K = K := by rfl) : OpR X (binaryOp .Mult) (uMul K) := by
  subst hK
  exact op_mulW.or op_rep
instance : Go (uMul K (.int i) (.int j) H Q) (Sd (CMulW i j) (Q (.int (i * j)) H)) := ⟨fun h => .inl ⟨i, j, rfl, rfl, h⟩⟩
def uFdiv : R2 := rI CDivW (fun i j => .int (i / j))
theorem ou_fdiv : OpR X (binaryOp .FloorDiv) uFdiv := op_fdivW
instance : Go (uFdiv (.int i) (.int j) H Q) (Sd (CDivW i j) (Q (.int (i / j)) H)) := ⟨fun h => ⟨i, j, rfl, rfl, h⟩⟩
def uMod : R2 := rI (fun _ j => 0 < j) (fun i j => .int (i % j))
theorem ou_mod : OpR X (binaryOp .Mod) uMod := op_mod
instance : Go (uMod (.int i) (.int j) H Q) (Sd (0 < j) (Q (.int (i % j)) H)) := ⟨fun h => ⟨i, j, rfl, rfl, h⟩⟩
def uPow : R2 := rI CPow (fun i j => .int (i ^ j.toNat))
theorem ou_pow : OpR X (binaryOp .Pow) uPow := op_pow
instance : Go (uPow (.int i) (.int j) H Q) (Sd (CPow i j) (Q (.int (i ^ j.toNat)) H)) := ⟨fun h => ⟨i, j, rfl, rfl, h⟩⟩
instance : Go (rU (fun i => V.int (-i)) (.int i) H Q) (Q (.int (-i)) H) := ⟨fun h => ⟨i, rfl, h⟩⟩
/-! comparisons -/
def uEq (K : PySem.W.Frag) : R2 := fun x y H Q => rEq x y H Q ∨ rEqD K x y H Q
def uNe (K : PySem.W.Frag) : R2 := fun x y H Q => rNe x y H Q ∨ rNeD K x y H Q
theorem ou_eq (hu : X.A.units + 64 < cLine) (hK : X.K = K := by rfl) : OpR X (compareOp .Eq) (uEq K) := by
  subst hK
  exact op_eq.or (op_eqD hu)
theorem ou_ne (hu : X.A.units + 64 < cLine) (hK : X.K = K := by rfl) : OpR X (compareOp .NotEq) (uNe K) := by
  subst hK
  exact op_ne.or (op_neD hu)
theorem dec_v {p : Prop} {x y : V} [Decidable p] (h : x = y ↔ p) : decide (x = y) = decide p := by simp [h]
instance : Go (uEq K (.int i) (.int j) H Q) (Q (.bl (decide (i = j))) H) := ⟨fun h => .inl ⟨rfl, by rw [dec_v (p := i = j) ⟨fun e => V.int.inj e, fun e => by rw [e]⟩]; exact h⟩⟩
instance : Go (uNe K (.int i) (.int j) H Q) (Q (.bl (!decide (i = j))) H) := ⟨fun h => .inl ⟨rfl, by rw [dec_v (p := i = j) ⟨fun e => V.int.inj e, fun e => by rw [e]⟩]; exact h⟩⟩
instance : Go (uEq K (.str (S a)) (.str (S b)) H Q) (Q (.bl (decide (a = b))) H) := ⟨fun h => .inl ⟨rfl, by rw [dec_v (p := a = b) ⟨fun e => SX.S_inj (V.str.inj e), fun e => by rw [e]⟩]; exact h⟩⟩
instance : Go (uNe K (.str (S a)) (.str (S b)) H Q) (Q (.bl (!decide (a = b))) H) := ⟨fun h => .inl ⟨rfl, by rw [dec_v (p := a = b) ⟨fun e => SX.S_inj (V.str.inj e), fun e => by rw [e]⟩]; exact h⟩⟩
def uLt : R2 := fun x y H Q => rI0 (fun i j => .bl (decide (i < j))) x y H Q ∨ (∃ i j, x = .str i ∧ y = .str j ∧ Q (.bl (decide (i.cps.toList < j.cps.toList))) H)
def uLe : R2 := fun x y H Q => rI0 (fun i j => .bl (decide (i ≤ j))) x y H Q ∨ (∃ i j, x = .str i ∧ y = .str j ∧ Q (.bl (!decide (j.cps.toList < i.cps.toList))) H)
def uGt : R2 := fun x y H Q => rI0 (fun i j => .bl (decide (j < i))) x y H Q ∨ (∃ i j, x = .str i ∧ y = .str j ∧ Q (.bl (decide (j.cps.toList < i.cps.toList))) H)
def uGe : R2 := fun x y H Q => rI0 (fun i j => .bl (decide (j ≤ i))) x y H Q ∨ (∃ i j, x = .str i ∧ y = .str j ∧ Q (.bl (!decide (i.cps.toList < j.cps.toList))) H)
theorem ou_lt : OpR X (compareOp .Lt) uLt := op_lt.or op_lt_str
theorem ou_le : OpR X (compareOp .LtE) uLe := op_le.or op_le_str
theorem ou_gt : OpR X (compareOp .Gt) uGt := op_gt.or op_gt_str
theorem ou_ge : OpR X (compareOp .GtE) uGe := op_ge.or op_ge_str
instance : Go (uLt (.int i) (.int j) H Q) (Q (.bl (decide (i < j))) H) := ⟨fun h => .inl ⟨i, j, rfl, rfl, h⟩⟩
instance : Go (uLe (.int i) (.int j) H Q) (Q (.bl (decide (i ≤ j))) H) := ⟨fun h => .inl ⟨i, j, rfl, rfl, h⟩⟩
instance : Go (uGt (.int i) (.int j) H Q) (Q (.bl (decide (j < i))) H) := ⟨fun h => .inl ⟨i, j, rfl, rfl, h⟩⟩
instance : Go (uGe (.int i) (.int j) H Q) (Q (.bl (decide (j ≤ i))) H) := ⟨fun h => .inl ⟨i, j, rfl, rfl, h⟩⟩
def uIs : R2 := fun x y H Q => (y = .non ∧ Q (.bl (decide (x = .non))) H) ∨ rIsB x y H Q
def uIsN : R2 := fun x y H Q => (y = .non ∧ Q (.bl (!decide (x = .non))) H) ∨ rNotB x y H Q
theorem ou_is : OpR X (compareOp .Is) uIs := op_isN.or op_isBl
theorem ou_isn : OpR X (compareOp .IsNot) uIsN := op_notN.or op_notBl
instance : Go (uIs x .non H Q) (Q (.bl (decide (x = .non))) H) := ⟨fun h => .inl ⟨rfl, h⟩⟩
instance : Go (uIsN x .non H Q) (Q (.bl (!decide (x = .non))) H) := ⟨fun h => .inl ⟨rfl, h⟩⟩
instance : Go (uIs (.bl k) (.bl l) H Q) (Q (.bl (decide (k = l))) H) := ⟨fun h => .inr ⟨k, l, rfl, rfl, h⟩⟩
/-- what is none is told at once -/
instance : Go (if decide (V.non = .non) = true then x = y else x = x) (x = y) := ⟨fun h => by rw [if_pos (by decide)]; exact h⟩
def uIn (K : PySem.W.Frag) : R2 := fun x y H Q => (∃ (c : Nat) (z : Str), x = .str ⟨#[c]⟩ ∧ y = .str z ∧ Q (.bl (decide (c ∈ z.cps.toList))) H) ∨ rIn K false x y H Q
def uNi (K : PySem.W.Frag) : R2 := fun x y H Q => (∃ (c : Nat) (z : Str), x = .str ⟨#[c]⟩ ∧ y = .str z ∧ Q (.bl (!decide (c ∈ z.cps.toList))) H) ∨ rIn K true x y H Q
theorem ou_in (hK : X.K = K := by rfl) : OpR X (compareOp .In) (uIn K) := by
  subst hK
  exact op_in_sign.or op_in_seq
theorem ou_ni (hK : X.K = K := by rfl) : OpR X (compareOp .NotIn) (uNi K) := by
  subst hK
  exact op_notIn_sign.or op_notIn_seq
variable {c : Nat}
instance : Go (uIn K (.str (S [c])) (.str (S a)) H Q) (Q (.bl (decide (c ∈ a))) H) := ⟨fun h => .inl ⟨c, S a, rfl, rfl, h⟩⟩
instance : Go (uNi K (.str (S [c])) (.str (S a)) H Q) (Q (.bl (!decide (c ∈ a))) H) := ⟨fun h => .inl ⟨c, S a, rfl, rfl, h⟩⟩
/-! items -/
def uIx (K : PySem.W.Frag) : R2 := rIx K
theorem xu (hK : X.K = K := by rfl) : IxR X (uIx K) := by
  subst hK
  exact ix_seq
def ixG (xs : List V) (i : Int) (H : Hp) (Q : VK) : Prop := ∃ v, atI xs i = some v ∧ Q v H
def ixS (a : List Nat) (i : Int) (H : Hp) (Q : VK) : Prop := a.length ≤ sizeLine ∧ ∃ c, atI a i = some c ∧ Q (.str (S [c])) H
instance (priority := 1100) [h1 : LR K H p xs] : Go (uIx K (.ref p) (.int i) H Q) (ixG xs i H Q) := ⟨fun ⟨v, e, h⟩ => .inl ⟨p, xs, i, v, rfl, rfl, h1.lr, e, h⟩⟩
instance [h1 : TR K H p xs] : Go (uIx K (.ref p) (.int i) H Q) (ixG xs i H Q) := ⟨fun ⟨v, e, h⟩ => .inr (.inl ⟨p, xs, i, v, rfl, rfl, h1.tr, e, h⟩)⟩
instance : Go (uIx K (.str (S a)) (.int i) H Q) (ixS a i H Q) := ⟨fun ⟨z, c, e, h⟩ => .inr (.inr ⟨S a, i, c, rfl, rfl, by rw [SX.S_len]; exact z, e, h⟩)⟩
theorem ix_is {v : V} (e : atI xs i = some v) (h : Q v H) : ixG xs i H Q := ⟨v, e, h⟩
theorem ix_sg (z : a.length ≤ sizeLine) (e : atI a i = some c) (h : Q (.str (S [c])) H) : ixS a i H Q := ⟨z, c, e, h⟩
/-! slices -/
def uSl (K : PySem.W.Frag) : V → Option Int → Option Int → Hp → VK → Prop := fun x lo hi H Q => rSlL K x lo hi H Q ∨ C8.rSlX x lo hi H Q ∨ rSlA K x lo hi H Q
theorem su (hK : X.K = K := by rfl) : SlR X (uSl K) := by
  subst hK
  exact sl_list.or (C8.sl_txt.or sl_tupA)
variable {lo hi : Option Int}
instance (priority := 1100) [h1 : LR K H p xs] : Go (uSl K (.ref p) lo hi H Q) (newL (cutV xs lo hi) H Q) := ⟨fun h => .inl ⟨p, xs, rfl, h1.lr, h⟩⟩
def slS (a : List Nat) (lo hi : Option Int) (H : Hp) (Q : VK) : Prop := a.length ≤ sizeLine ∧ ∃ b, Txt.slice (S a) lo hi = S b ∧ Q (.str (S b)) H
instance : Go (uSl K (.str (S a)) lo hi H Q) (slS a lo hi H Q) := ⟨fun ⟨z, b, e, h⟩ => .inr (.inl ⟨S a, rfl, by rw [SX.S_len]; exact z, by rw [e]; exact h⟩)⟩
theorem sl_to (z : a.length ≤ sizeLine) (h0 : 0 ≤ i) (h : Q (.str (S (a.take i.toNat))) H) : slS a none (some i) H Q := ⟨z, _, SX.slice_to h0, h⟩
theorem sl_fr (z : a.length ≤ sizeLine) (h0 : 0 ≤ i) (h : Q (.str (S (a.drop i.toNat))) H) : slS a (some i) none H Q := ⟨z, _, SX.slice_from h0, h⟩
variable {σ : L2.St} {te : TE} {tl th : TO} {R : Option Int → Hp → Prop}
instance {r : V → Option Int → Option Int → Hp → VK → Prop} : Go (tSl r te tl th σ H Q) (te σ H fun x H1 => tl σ H1 fun l H2 => th σ H2 fun u H3 => r x l u H3 Q) := ⟨fun h => h⟩
instance : Go (tNoPart σ H R) (R none H) := ⟨fun h => h⟩
def isI (x : V) (H : Hp) (R : Option Int → Hp → Prop) : Prop := ∃ i, x = .int i ∧ R (some i) H
instance : Go (tPart te σ H R) (te σ H fun x H1 => isI x H1 R) := ⟨fun h => h⟩
instance : Go (isI (.int i) H R) (R (some i) H) := ⟨fun h => ⟨i, rfl, h⟩⟩
end
end U

namespace U
variable [QN]
open PySem PySem.Spec PyProof.Rows L2
open SX (S)
/-! ### names, texts -/
section
variable {X : Cx} {x : Str} {pos : Pos}
theorem pe_gi {n : Int} (hg : Gl X x) (h : ∃ t, X.mg x = some (.int n t)) (hd : (x == ("__debug__" : Str)) = false := by decide) : PE X (.Name x pos) (tC (.int n)) := by
  obtain ⟨t, h⟩ := h
  exact pe_glob hg h ⟨t, rfl⟩ hd
theorem pe_gs {z : Str} {l : List Nat} (hg : Gl X x) (h : ∃ t, X.mg x = some (.str z t)) (hz : z = S l := by decide +kernel) (hd : (x == ("__debug__" : Str)) = false := by decide) : PE X (.Name x pos) (tC (.str (S l))) := by
  obtain ⟨t, h⟩ := h
  subst hz
  exact pe_glob hg h ⟨t, rfl⟩ hd
theorem pe_ty {n : String} (hg : Gl X x) (hm : X.mg x = none) (hv : bootBuiltins x = some (.type n)) (hn : x ≠ "__name__" := by decide) (hd : (x == ("__debug__" : Str)) = false := by decide) : PE X (.Name x pos) (tC (.ty n)) := pe_bltn hg hm hv rfl hn hd
theorem pe_s {z : Str} {j : Nat} (l : List Nat) (h : z = S l := by decide +kernel) : PE X (.Constant (.str z) j pos) (tC (.str (S l))) := by
  subst h
  exact pe_str
end
/-! ### asides: a side condition, then on -/
theorem z24 : sizeLine = 16777216 := rfl
section
variable {K : PySem.W.Frag} {σ σ' : L2.St} {H H1 : Hp} {Q : VK} {i j : Int} {a b : List Nat} {p q : Addr} {xs ys : List V} {x y v : V} {X : Cx} {k l : Bool} {z u : Str} {A B : Prop} {P G : Prop} {n m : Nat}
/-- what is none, told at once -/
instance : Go (if decide (V.non = V.non) = true then A else B) A := ⟨fun h => by rw [if_pos (by decide)]; exact h⟩
instance : Go (if decide (V.int i = V.non) = true then A else B) B := ⟨fun h => by rw [if_neg (by simp)]; exact h⟩
instance : Go (if decide (V.str z = V.non) = true then A else B) B := ⟨fun h => by rw [if_neg (by simp)]; exact h⟩
instance : Go (if decide (V.ref p = V.non) = true then A else B) B := ⟨fun h => by rw [if_neg (by simp)]; exact h⟩
instance : Go (if decide (V.bl k = V.non) = true then A else B) B := ⟨fun h => by rw [if_neg (by simp)]; exact h⟩
/-- branches by a proposition -/
theorem brT {p : Prop} [Decidable p] (h : p) (k : A) : if decide p = true then A else B := by rw [if_pos (decide_eq_true h)]; exact k
theorem brF {p : Prop} [Decidable p] (h : ¬ p) (k : B) : if decide p = true then A else B := by rw [if_neg (by simp [h])]; exact k
theorem br2 {p : Prop} [Decidable p] (h : p → A) (h' : ¬ p → B) : if decide p = true then A else B := by
  by_cases e : p
  · exact brT e (h e)
  · exact brF e (h' e)
theorem brb {c : Bool} (h : c = true → A) (h' : c = false → B) : if c = true then A else B := by
  cases c
  · exact h' rfl
  · exact h rfl
theorem pi_list' {tg l : Expr} {tl : TE} (hl : PE X l tl) (hK : X.K = K := by rfl) : PI X tg l (iList K tl) := by
  subst hK
  exact pi_list hl
theorem pi_tup' {tg l : Expr} {tl : TE} (hl : PE X l tl) (hK : X.K = K := by rfl) : PI X tg l (iTup K tl) := by
  subst hK
  exact pi_tup hl
theorem pe_fld' {e : Expr} {f : Str} {pos : Pos} {ta : TE} (he : PE X e ta) (hb : attributeBase e f X.env (eval e X.env) = eval e X.env) (hK : X.K = K := by rfl) : PE X (.Attribute e f pos) (tFld K ta f) := by
  subst hK
  exact pe_fld he hb
instance {r r' : R2} {ta tb tc : TE} : Go (tChain r r' ta tb tc σ H Q) (ta σ H fun x H1 => tb σ H1 fun y H2 => r x y H2 fun z H3 => isB z H3 fun k H4 => if k = true then tc σ H4 fun w H5 => r' y w H5 Q else Q (.bl false) H4) := ⟨fun k => k⟩
/-! ### builtin calls -/
def uLen (K : PySem.W.Frag) : List V → Hp → VK → Prop := fun xs H Q => ∃ x n, xs = [x] ∧ LenV K x H n ∧ Q (.int n) H
theorem cu_len (hK : X.K = K := by rfl) : CallR X (.builtin "len") (uLen K) := by
  subst hK
  exact call_len
instance (priority := 1100) [h : LR K H p xs] : Go (uLen K [.ref p] H Q) (Q (.int xs.length) H) := ⟨fun k => ⟨_, _, rfl, .inl ⟨xs, h.lr, rfl⟩, k⟩⟩
instance [h : TR K H p xs] : Go (uLen K [.ref p] H Q) (Q (.int xs.length) H) := ⟨fun k => ⟨_, _, rfl, .inr ⟨xs, h.tr, rfl⟩, k⟩⟩
instance : Go (uLen K [.str (S a)] H Q) (Sd (a.length ≤ sizeLine) (Q (.int a.length) H)) := ⟨fun k => ⟨_, a.length, rfl, ⟨by rw [SX.S_len]; exact k.1, (SX.S_len a).symm⟩, k.2⟩⟩
/-! isinstance -/
def uIsi (K : PySem.W.Frag) : List V → Hp → VK → Prop := fun xs H Q => rIsi K xs H Q ∨ rIsiT K xs H Q
theorem cu_isi (hK : X.K = K := by rfl) : CallR X (.builtin "isinstance") (uIsi K) := by
  subst hK
  exact call_isi.or call_isiT
theorem isi_b {x : V} {T t : String} {b : Bool} (ty : TyX K H x (.type t)) (h : kitB t T = some b) (k : Q (.bl b) H) : uIsi K [x, .ty T] H Q := .inl ⟨x, .ty T, _, _, b, rfl, .ty T, ty, kit_ty h, k⟩
theorem kb_ss : kitB "str" "str" = some true := by decide +kernel
theorem kb_si : kitB "str" "int" = some false := by decide +kernel
theorem kb_sb : kitB "str" "bool" = some false := by decide +kernel
theorem kb_sl : kitB "str" "list" = some false := by decide +kernel
theorem kb_st : kitB "str" "tuple" = some false := by decide +kernel
theorem kb_ii : kitB "int" "int" = some true := by decide +kernel
theorem kb_ib : kitB "int" "bool" = some false := by decide +kernel
theorem kb_is : kitB "int" "str" = some false := by decide +kernel
theorem kb_il : kitB "int" "list" = some false := by decide +kernel
theorem kb_it : kitB "int" "tuple" = some false := by decide +kernel
theorem kb_bi : kitB "bool" "int" = some true := by decide +kernel
theorem kb_bb : kitB "bool" "bool" = some true := by decide +kernel
theorem kb_bs : kitB "bool" "str" = some false := by decide +kernel
theorem kb_bl : kitB "bool" "list" = some false := by decide +kernel
theorem kb_bt : kitB "bool" "tuple" = some false := by decide +kernel
theorem kb_ns : kitB "NoneType" "str" = some false := by decide +kernel
theorem kb_ni : kitB "NoneType" "int" = some false := by decide +kernel
theorem kb_nb : kitB "NoneType" "bool" = some false := by decide +kernel
theorem kb_nl : kitB "NoneType" "list" = some false := by decide +kernel
theorem kb_nt : kitB "NoneType" "tuple" = some false := by decide +kernel
theorem kb_ll : kitB "list" "list" = some true := by decide +kernel
theorem kb_ls : kitB "list" "str" = some false := by decide +kernel
theorem kb_li : kitB "list" "int" = some false := by decide +kernel
theorem kb_lb : kitB "list" "bool" = some false := by decide +kernel
theorem kb_lt : kitB "list" "tuple" = some false := by decide +kernel
theorem kb_tt : kitB "tuple" "tuple" = some true := by decide +kernel
theorem kb_ts : kitB "tuple" "str" = some false := by decide +kernel
theorem kb_ti : kitB "tuple" "int" = some false := by decide +kernel
theorem kb_tb : kitB "tuple" "bool" = some false := by decide +kernel
theorem kb_tl : kitB "tuple" "list" = some false := by decide +kernel
instance : Go (uIsi K [.str z, .ty "str"] H Q) (Q (.bl true) H) := ⟨isi_b (.base (.str z)) kb_ss⟩
instance : Go (uIsi K [.str z, .ty "int"] H Q) (Q (.bl false) H) := ⟨isi_b (.base (.str z)) kb_si⟩
instance : Go (uIsi K [.int i, .ty "int"] H Q) (Q (.bl true) H) := ⟨isi_b (.base (.int i)) kb_ii⟩
instance : Go (uIsi K [.int i, .ty "bool"] H Q) (Q (.bl false) H) := ⟨isi_b (.base (.int i)) kb_ib⟩
instance : Go (uIsi K [.int i, .ty "str"] H Q) (Q (.bl false) H) := ⟨isi_b (.base (.int i)) kb_is⟩
instance : Go (uIsi K [.bl k, .ty "int"] H Q) (Q (.bl true) H) := ⟨isi_b (.base (.bl k)) kb_bi⟩
instance : Go (uIsi K [.bl k, .ty "bool"] H Q) (Q (.bl true) H) := ⟨isi_b (.base (.bl k)) kb_bb⟩
instance : Go (uIsi K [.bl k, .ty "str"] H Q) (Q (.bl false) H) := ⟨isi_b (.base (.bl k)) kb_bs⟩
instance : Go (uIsi K [.non, .ty "str"] H Q) (Q (.bl false) H) := ⟨isi_b (.base .non) kb_ns⟩
instance : Go (uIsi K [.non, .ty "int"] H Q) (Q (.bl false) H) := ⟨isi_b (.base .non) kb_ni⟩
theorem ty_l (h : SqL K H p xs) : TyX K H (.ref p) (.type "list") := by
  rcases h with (h | ⟨o, h⟩) | ⟨o, us, n, h, c, _⟩
  · exact .base (.lst h)
  · exact .base (.frz h)
  · exact .kList h c
theorem ty_t (h : SqT K H p xs) : TyX K H (.ref p) (.type "tuple") := by
  rcases h with (h | ⟨o, h⟩) | ⟨o, us, n, h, c, _⟩
  · exact .base (.tup h)
  · exact .fTuple h
  · exact .kTuple h c
/-- isinstance(x, (list, tuple)) -/
theorem isi_lt {tp : Addr} (hT : H tp = some (.tup [.ty "list", .ty "tuple"])) (h : SqL K H p xs) (k : Q (.bl true) H) : uIsi K [.ref p, .ref tp] H Q :=
  .inr ⟨.ref p, tp, _, _, _, true, rfl, hT, .cons (.ty "list") (.cons (.ty "tuple") .nil), ty_l h, kitAny_cons (kit_ty kb_ll) (fun e => nomatch e) (fun _ => rfl), k⟩
theorem isi_lt_t {tp : Addr} (hT : H tp = some (.tup [.ty "list", .ty "tuple"])) (h : SqT K H p xs) (k : Q (.bl true) H) : uIsi K [.ref p, .ref tp] H Q :=
  .inr ⟨.ref p, tp, _, _, _, true, rfl, hT, .cons (.ty "list") (.cons (.ty "tuple") .nil), ty_t h, kitAny_cons (kit_ty kb_tl) (fun _ => kitAny_cons (kit_ty kb_tt) (fun e => nomatch e) (fun _ => rfl)) (fun e => nomatch e), k⟩
/-! sum, any, all, max, min, list, tuple, int, str -/
theorem all_b {p : Addr} {bs : List Bool} (h : SqL K H p (bs.map V.bl)) (k : Q (.bl (bs.all id)) H) : rAll K [.ref p] H Q := ⟨p, bs, rfl, h, k⟩
theorem any_b {p : Addr} {bs : List Bool} (h : SqL K H p (bs.map V.bl)) (k : Q (.bl (bs.any id)) H) : rAny K [.ref p] H Q := ⟨p, bs, rfl, h, k⟩
theorem sum_i {p : Addr} {ns : List Int} (h : SqL K H p (ns.map V.int)) (k : Q (.int ns.sum) H) : rSum K [.ref p] H Q := ⟨p, ns, rfl, h, k⟩
theorem cu_all (hc : X.calm = true) (hK : X.K = K := by rfl) : CallR X (.builtin "all") (rAll K) := by
  subst hK
  exact cr_all hc
theorem cu_any (hc : X.calm = true) (hK : X.K = K := by rfl) : CallR X (.builtin "any") (rAny K) := by
  subst hK
  exact cr_any hc
theorem cu_sum (hc : X.calm = true) (hK : X.K = K := by rfl) : CallR X (.builtin "sum") (rSum K) := by
  subst hK
  exact cr_sum hc
def uInt : List V → Hp → VK → Prop := fun xs H Q => ((∃ i, xs = [.int i] ∧ Q (.int i) H) ∨ ∃ k, xs = [.bl k] ∧ Q (.int (if k then 1 else 0)) H) ∨ ∃ a n, xs = [.str a] ∧ intText? a = some n ∧ a.length ≤ 640 ∧ Q (.int n) H
theorem cu_int : CallR X (.type "int") uInt := call_int1.or call_int_str
instance : Go (uInt [.int i] H Q) (Q (.int i) H) := ⟨fun h => .inl (.inl ⟨i, rfl, h⟩)⟩
def uStr : List V → Hp → VK → Prop := fun xs H Q => (∃ i, xs = [.int i] ∧ i.natAbs.log2 < 1920 ∧ Q (.str (toString i)) H) ∨ ∃ a, xs = [.str a] ∧ Q (.str a) H
theorem cu_str : CallR X (.type "str") uStr := call_str_int.or SkE.call_str_str
/-- the figures of a whole number that is none below 0 -/
def nm (n : Nat) : List Nat := TL.numL n
theorem ts_nat (n : Nat) : (toString ((n : Nat) : Int) : Str) = S (nm n) := SX.num_S n
instance : Go (uStr [.str z] H Q) (Q (.str z) H) := ⟨fun h => .inr ⟨z, rfl, h⟩⟩
theorem str_n (h : n < 10 ^ 60) (k : Q (.str (S (nm n))) H) : uStr [.int (n : Int)] H Q := .inl ⟨n, rfl, by
  show n.log2 < 1920
  exact Nat.lt_trans (PySem.Flt.log2_lt_of (k := 200) (by decide) (Nat.lt_of_lt_of_le h (by decide))) (by decide), by rw [ts_nat]; exact k⟩
def uLst (K : PySem.W.Frag) : List V → Hp → VK → Prop := fun xs H Q => ∃ p ys, xs = [.ref p] ∧ (SqL K H p ys ∨ SqT K H p ys) ∧ ∀ l, H l = none → Q (.ref l) (upd H l (.lst ys))
theorem cu_lst (hK : X.K = K := by rfl) : CallR X (.type "list") (uLst K) := by
  subst hK
  exact call_list_of
instance (priority := 1100) [h : LR K H p xs] : Go (uLst K [.ref p] H Q) (newL xs H Q) := ⟨fun k => ⟨p, xs, rfl, .inl h.lr, k⟩⟩
instance [h : TR K H p xs] : Go (uLst K [.ref p] H Q) (newL xs H Q) := ⟨fun k => ⟨p, xs, rfl, .inr h.tr, k⟩⟩
def uTup (K : PySem.W.Frag) : List V → Hp → VK → Prop := fun xs H Q => ∃ p ys, xs = [.ref p] ∧ ((SqL K H p ys ∧ ∀ l, H l = none → Q (.ref l) (upd H l (.tup ys))) ∨ (SqT K H p ys ∧ Q (.ref p) H))
theorem cu_tup (hK : X.K = K := by rfl) : CallR X (.type "tuple") (uTup K) := by
  subst hK
  exact call_tuple_of
instance (priority := 1100) [h : LR K H p xs] : Go (uTup K [.ref p] H Q) (newT xs H Q) := ⟨fun k => ⟨p, xs, rfl, .inl ⟨h.lr, k⟩⟩⟩
instance [h : TR K H p xs] : Go (uTup K [.ref p] H Q) (Q (.ref p) H) := ⟨fun k => ⟨p, xs, rfl, .inr ⟨h.tr, k⟩⟩⟩
def uMax : List V → Hp → VK → Prop := fun xs H Q => ∃ i j, xs = [.int i, .int j] ∧ Q (.int (if j > i then j else i)) H
theorem cu_max (hc : X.calm = true) : CallR X (.builtin "max") uMax := call_max2 hc
instance : Go (uMax [.int i, .int j] H Q) (Q (.int (max i j)) H) := ⟨fun h => ⟨i, j, rfl, by
  rw [show (if j > i then j else i) = max i j by omega]
  exact h⟩⟩
def uMin : List V → Hp → VK → Prop := fun xs H Q => ∃ i j, xs = [.int i, .int j] ∧ Q (.int (if j < i then j else i)) H
theorem cu_min (hc : X.calm = true) : CallR X (.builtin "min") uMin := call_min2 hc
instance : Go (uMin [.int i, .int j] H Q) (Q (.int (min i j)) H) := ⟨fun h => ⟨i, j, rfl, by
  rw [show (if j < i then j else i) = min i j by omega]
  exact h⟩⟩
/-! ### lists: a new one, a tuple; methods -/
instance {tl : TA} : Go (tLst tl σ H Q) (tl σ H fun xs H1 => Sd (xs.length ≤ sizeLine) (newL xs H1 Q)) := ⟨fun k => k⟩
instance {tl : TA} : Go (tTup tl σ H Q) (tl σ H fun xs H1 => Sd (xs.length ≤ sizeLine) (newT xs H1 Q)) := ⟨fun k => k⟩
instance {T : String} {r : V → List V → Hp → VK → Prop} {to : TE} {t : TA} : Go (tBM K T r to t σ H Q) (to σ H fun x H1 => tyV K T x H1 ∧ t σ H1 fun xs H2 => r x xs H2 Q) := ⟨fun k => k⟩
instance {T : String} {r : V → List V → Hp → VK → Prop} {to : TE} : Go (tBM0 K T r to σ H Q) (to σ H fun x H1 => tyV K T x H1 ∧ r x [] H1 Q) := ⟨fun k => k⟩
theorem tyl (h : LM H p xs) : tyV K "list" (.ref p) H := by
  exact .inl ⟨rfl, xs, .inl (.inl h.lm)⟩
instance [h : LM H p xs] : Go (tyV K "list" (.ref p) H ∧ G) G := ⟨fun k => ⟨tyl h, k⟩⟩
instance [h : LM H p xs] : Go (rAppend (.ref p) [y] H Q) (Sd (xs.length < sizeLine) (setL p (xs ++ [y]) H fun H' => Q .non H')) := ⟨fun k => ⟨p, xs, y, rfl, rfl, h.lm, k.1, k.2⟩⟩
/-! ### to the end of a def; names for the steps -/
theorem cal_n {P : Program} {w : World} {K : PySem.W.Frag} {mg : PySem.Str → Option Value} {base : Heap} {k : Nat} {x qual : PySem.Str} {params : Arguments} {body : List Stmt} {scope : Scope} {f : Addr} {fd : FuncData} {ps : List PySem.Str} {sp : Sp}
    (F : FunD K x qual params body scope [] [] f fd) (g : mg x = some (.ref f)) (b : Binds K fd ps []) (ok : FnOk P w K mg base C8.CX0 k f fd ps sp) : C8.Cal P w K mg base k x sp [] := ⟨f, fd, ps, [], ok, g, F.kp, b, .nil⟩
theorem cal_d {P : Program} {w : World} {K : PySem.W.Frag} {mg : PySem.Str → Option Value} {base : Heap} {k : Nat} {x qual : PySem.Str} {params : Arguments} {body : List Stmt} {scope : Scope} {f : Addr} {fd : FuncData} {ps : List PySem.Str} {sp : Sp} {dvs dv : List V}
    (F : FunD K x qual params body scope dvs [] f fd) (g : mg x = some (.ref f)) (b : ∃ ds, Vals dv ds ∧ Binds K fd ps ds) (ok : FnOk P w K mg base C8.CX0 k f fd ps sp) : C8.Cal P w K mg base k x sp dv := by
  obtain ⟨ds, r, b⟩ := b
  exact ⟨f, fd, ps, ds, ok, g, F.kp, b, r⟩
theorem cx_K {CX : CXT} {P : Program} {w : World} {K : PySem.W.Frag} {mg : Str → Option Value} {base : Heap} {N : List Str} {qual : Str} {scope : Scope} {f : Addr} {cd : Value} {A : Around} {outer : List Env} {s : Shared} {H : Hp} {E : XK} : (cxOf CX P w K mg base N qual scope f cd A outer s H E).nox.K = K := rfl
theorem cx_K0 {CX : CXT} {P : Program} {w : World} {K : PySem.W.Frag} {mg : Str → Option Value} {base : Heap} {N : List Str} {qual : Str} {scope : Scope} {f : Addr} {cd : Value} {A : Around} {outer : List Env} {s : Shared} {H : Hp} {E : XK} : (cxOf CX P w K mg base N qual scope f cd A outer s H E).K = K := rfl
theorem cx_prog {CX : CXT} {P : Program} {w : World} {K : PySem.W.Frag} {mg : Str → Option Value} {base : Heap} {N : List Str} {qual : Str} {scope : Scope} {f : Addr} {cd : Value} {A : Around} {outer : List Env} {s : Shared} {H : Hp} {E : XK} : (cxOf CX P w K mg base N qual scope f cd A outer s H E).nox.prog = P := rfl
theorem cx_w {CX : CXT} {P : Program} {w : World} {K : PySem.W.Frag} {mg : Str → Option Value} {base : Heap} {N : List Str} {qual : Str} {scope : Scope} {f : Addr} {cd : Value} {A : Around} {outer : List Env} {s : Shared} {H : Hp} {E : XK} : (cxOf CX P w K mg base N qual scope f cd A outer s H E).nox.w = w := rfl
theorem qb {a b : Bool} (k : Q (.bl a) H) (e : a = b) : Q (.bl b) H := e ▸ k
theorem qv {x y : V} (k : Q x H) (e : x = y) : Q y H := e ▸ k
end
end U

namespace U
variable [QN]
open PySem PySem.Spec PyProof.Rows L2
open SX (S)
/-! ### walks -/
def forG (J : It) (g : TG) (tb : TS) (D : Ends) (σ : L2.St) (H1 : Hp) : Prop := ∃ W : Nat → Nat → L2.St → Hp → Prop, (∃ m, W 0 m σ H1) ∧ ∀ i m σ H, W i m σ H →
  (J.stop i H ∧ D.nx σ H) ∨ (J.go i H ∧ ∃ N : L2.St → Hp → Prop, (∀ σ' H', N σ' H' → ∃ m', m' < m ∧ W (i + 1) m' σ' H') ∧ ∀ x H', J.yld i H x H' → g x σ H' fun σ2 H2 => tb { D with nx := N, ct := N, bk := D.nx } σ2 H2)
def lcG (J : It) (g : TG) (tt : TT) (te : TE) (vs : List Nat) (σ : L2.St) (H1 : Hp) (Q : VK) : Prop := ∀ D, H1 D = none → ∃ W : Nat → Nat → Hp → Prop, (∃ m, W 0 m (upd H1 D (.lst []))) ∧ ∀ i m H, W i m H →
  (J.stop i H ∧ Q (.ref D) H) ∨ (J.go i H ∧ ∃ Nx : Hp → Prop, (∀ H', Nx H' → ∃ m', m' < m ∧ W (i + 1) m' H') ∧ ∀ x H', J.yld i H x H' → g x (wipe σ vs) H' fun σ2 H2 => wipe σ2 vs = wipe σ vs ∧ tt σ2 H2 fun b H3 =>
    if b = true then te σ2 H3 fun y H4 => ∃ acc, H4 D = some (.lst acc) ∧ acc.length < sizeLine ∧ Nx (upd H4 D (.lst (acc ++ [y]))) else Nx H3)
section
variable {K : PySem.W.Frag} {σ σ' : L2.St} {H H1 : Hp} {Q : VK} {i j : Int} {a b : List Nat} {p q : Addr} {xs ys : List V} {x y v : V} {g : TG} {tb : TS} {D : Ends} {tt : TT} {te : TE} {vs : List Nat} {R : It → Hp → Prop} {wi : TI} {ta : TA}
instance : Go (tFor wi g tb D σ H) (wi σ H fun J H1 => forG J g tb D σ H1) := ⟨fun k => k⟩
instance : Go (tLc wi g tt te vs σ H Q) (wi σ H fun J H1 => lcG J g tt te vs σ H1 Q) := ⟨fun k => k⟩
def iL (K : PySem.W.Frag) (x : V) (H : Hp) (R : It → Hp → Prop) : Prop := ∃ a, x = .ref a ∧ (∃ xs, SqL K H a xs) ∧ R (Itl K a) H
def iT (K : PySem.W.Frag) (x : V) (H : Hp) (R : It → Hp → Prop) : Prop := ∃ a, x = .ref a ∧ (∃ xs, SqT K H a xs) ∧ R (Itt K a) H
def iS (x : V) (H : Hp) (R : It → Hp → Prop) : Prop := ∃ z, x = .str z ∧ R (Its z) H
instance : Go (iList K te σ H R) (te σ H fun x H1 => iL K x H1 R) := ⟨fun k => k⟩
instance : Go (iTup K te σ H R) (te σ H fun x H1 => iT K x H1 R) := ⟨fun k => k⟩
instance : Go (iStr te σ H R) (te σ H fun x H1 => iS x H1 R) := ⟨fun k => k⟩
instance [h : LR K H p xs] : Go (iL K (.ref p) H R) (R (Itl K p) H) := ⟨fun k => ⟨p, rfl, ⟨xs, h.lr⟩, k⟩⟩
instance [h : TR K H p xs] : Go (iT K (.ref p) H R) (R (Itt K p) H) := ⟨fun k => ⟨p, rfl, ⟨xs, h.tr⟩, k⟩⟩
instance {z : Str} : Go (iS (.str z) H R) (R (Its z) H) := ⟨fun k => ⟨z, rfl, k⟩⟩
def iR1 (vs : List V) (H : Hp) (R : It → Hp → Prop) : Prop := ∃ j : Int, vs = [.int j] ∧ -(2 ^ 62) ≤ j ∧ j < 2 ^ 62 ∧ R (Itr 0 j.toNat) H
def iR2 (vs : List V) (H : Hp) (R : It → Hp → Prop) : Prop := ∃ i j : Int, vs = [.int i, .int j] ∧ (-(2 ^ 62) ≤ i ∧ i < 2 ^ 62 ∧ -(2 ^ 62) ≤ j ∧ j < 2 ^ 62) ∧ R (Itr i (j - i).toNat) H
instance : Go (iRng1 ta σ H R) (ta σ H fun vs H1 => iR1 vs H1 R) := ⟨fun k => k⟩
instance : Go (iRng2 ta σ H R) (ta σ H fun vs H1 => iR2 vs H1 R) := ⟨fun k => k⟩
instance : Go (iR1 [.int i] H R) (Sd (-(2 ^ 62) ≤ i ∧ i < 2 ^ 62) (R (Itr 0 i.toNat) H)) := ⟨fun k => ⟨i, rfl, k.1.1, k.1.2, k.2⟩⟩
instance : Go (iR2 [.int i, .int j] H R) (Sd (-(2 ^ 62) ≤ i ∧ i < 2 ^ 62 ∧ -(2 ^ 62) ≤ j ∧ j < 2 ^ 62) (R (Itr i (j - i).toNat) H)) := ⟨fun k => ⟨i, j, rfl, k.1, k.2⟩⟩
/-! for -/
variable {n : Nat} {G : Hp → Prop} {Y : Nat → Hp → V → Hp → Prop} {J : It}
theorem for_w (w : Walk J n G Y) (Pv : Nat → L2.St → Hp → Prop) (h0 : Pv 0 σ H) (hG : ∀ i σ H, i ≤ n → Pv i σ H → G H)
    (hs : ∀ i x σ H H', i < n → Pv i σ H → Y i H x H' → g x σ H' fun σ2 H2 => tb { D with nx := Pv (i + 1), ct := Pv (i + 1), bk := D.nx } σ2 H2) (hd : ∀ σ H, Pv n σ H → D.nx σ H) : forG J g tb D σ H := for_it w Pv h0 hG hs hd
/-- over range -/
theorem for_r (Pv : Nat → L2.St → Hp → Prop) (h0 : Pv 0 σ H) (hs : ∀ k σ H, k < n → Pv k σ H → g (.int (i + (k : Nat))) σ H fun σ2 H2 => tb { D with nx := Pv (k + 1), ct := Pv (k + 1), bk := D.nx } σ2 H2) (hd : ∀ σ H, Pv n σ H → D.nx σ H) : forG (Itr i n) g tb D σ H :=
  for_w walk_range Pv h0 (fun _ _ _ _ _ => trivial) (fun k x σ H H' hk p y => by
    obtain ⟨rfl, rfl⟩ := y
    exact hs k σ _ hk p) hd
/-- over a list -/
theorem for_l (Pv : Nat → L2.St → Hp → Prop) (h0 : Pv 0 σ H) (hG : ∀ i σ H, i ≤ xs.length → Pv i σ H → SqL K H p xs) (hs : ∀ k x σ H, k < xs.length → xs[k]? = some x → Pv k σ H → g x σ H fun σ2 H2 => tb { D with nx := Pv (k + 1), ct := Pv (k + 1), bk := D.nx } σ2 H2) (hd : ∀ σ H, Pv xs.length σ H → D.nx σ H) : forG (Itl K p) g tb D σ H :=
  for_w (walk_list (xs := xs)) Pv h0 hG (fun k x σ H H' hk p y => by
    obtain ⟨rfl, e⟩ := y
    exact hs k x σ _ hk e p) hd
theorem for_t (Pv : Nat → L2.St → Hp → Prop) (h0 : Pv 0 σ H) (hG : ∀ i σ H, i ≤ xs.length → Pv i σ H → SqT K H p xs) (hs : ∀ k x σ H, k < xs.length → xs[k]? = some x → Pv k σ H → g x σ H fun σ2 H2 => tb { D with nx := Pv (k + 1), ct := Pv (k + 1), bk := D.nx } σ2 H2) (hd : ∀ σ H, Pv xs.length σ H → D.nx σ H) : forG (Itt K p) g tb D σ H :=
  for_w (walk_tup (xs := xs)) Pv h0 hG (fun k x σ H H' hk p y => by
    obtain ⟨rfl, e⟩ := y
    exact hs k x σ _ hk e p) hd
theorem for_s (Pv : Nat → L2.St → Hp → Prop) (h0 : Pv 0 σ H) (hs : ∀ k c σ H, k < a.length → a[k]? = some c → Pv k σ H → g (.str (S [c])) σ H fun σ2 H2 => tb { D with nx := Pv (k + 1), ct := Pv (k + 1), bk := D.nx } σ2 H2) (hd : ∀ σ H, Pv a.length σ H → D.nx σ H) : forG (Its (S a)) g tb D σ H :=
  for_w (walk_str (z := S a)) Pv h0 (fun _ _ _ _ _ => trivial) (fun k x σ H H' hk p y => by
    obtain ⟨rfl, c, e, rfl⟩ := y
    exact hs k c σ _ (by simpa [S] using hk) (by simpa [S] using e) p) (fun σ H p => hd σ H (by simpa [S] using p))
/-! comprehensions that leave the heap as it is: what is made of each -/
theorem fm_take {α β : Type} (r : α → Option β) (l : List α) {k : Nat} {x : α} (e : l[k]? = some x) : (l.take (k + 1)).filterMap r = (l.take k).filterMap r ++ (r x).toList := by
  rw [List.take_succ, e, List.filterMap_append]
  cases h : r x <;> simp [h]
/-- one turn of a comprehension, ends put in -/
def turn (g : TG) (tt : TT) (te : TE) (vs : List Nat) (σw : L2.St) (x : V) (H : Hp) (A : V → Hp → Prop) (B : Hp → Prop) : Prop := g x σw H fun σ2 H2 => wipe σ2 vs = σw ∧ tt σ2 H2 fun b H3 => if b = true then te σ2 H3 A else B H3
theorem ex_up {H H' : Hp} {D : Addr} {o : HO} (nw : H D = none) (e : ∀ a o, H a = some o → H' a = some o) : ∀ a u, H a = some u → (upd H' D o) a = some u := fun a u h => by
  rw [upd_ne (ne_of_none h nw)]
  exact e a u h
theorem lc_core0 {α : Type} {l : List α} (w : Walk J l.length G Y) (f : α → V) (r : α → Option V) {σw : L2.St} (hw : wipe σ vs = σw) (hl : l.length ≤ sizeLine) (hG : ∀ H', Ex H H' → G H')
    (hy : ∀ i H x H', i < l.length → Y i H x H' → H' = H ∧ ∃ z, l[i]? = some z ∧ x = f z)
    (ht : ∀ z H' A B, z ∈ l → Ex H H' → (∀ y, r z = some y → A y H') → (r z = none → B H') → turn g tt te vs σw (f z) H' A B)
    (k : ∀ D H', Nw H D → Ex H H' → LM H' D (l.filterMap r) → Q (.ref D) H') : lcG J g tt te vs σ H Q := by
  intro D hD
  refine lc_it w (fun i H' => (∀ a o, H a = some o → H' a = some o) ∧ H' D = some (.lst ((l.take i).filterMap r))) ⟨ex_up hD (fun _ _ h => h), by rw [upd_same]; rfl⟩ (fun i H' _ p => hG H' ⟨kp_all p.1⟩) (fun i x H1 H2 hi p y => ?_) (fun H' p => k D H' (nw_of hD) ⟨kp_all p.1⟩ ⟨by have := p.2; rwa [List.take_length] at this⟩)
  obtain ⟨rfl, z, hz, rfl⟩ := hy i H1 x H2 hi y
  rw [hw]
  refine ht z _ _ _ (List.mem_of_getElem? hz) ⟨kp_all p.1⟩ (fun y hr => ⟨_, p.2, ?_, ex_up hD p.1, ?_⟩) (fun hr => ⟨p.1, ?_⟩)
  · have h1 := List.length_filterMap_le r (l.take i)
    have h2 : (l.take i).length ≤ i := List.length_take_le i l
    omega
  · rw [upd_same, fm_take r l hz, hr]; rfl
  · rw [p.2, fm_take r l hz, hr]; simp
/-- over a text -/
theorem lc_s {σw : L2.St} (hw : wipe σ vs = σw) (r : Nat → Option V) (hl : a.length ≤ sizeLine) (ht : ∀ c H' A B, c ∈ a → Ex H H' → (∀ y, r c = some y → A y H') → (r c = none → B H') → turn g tt te vs σw (.str (S [c])) H' A B)
    (k : ∀ D H', Nw H D → Ex H H' → LM H' D (a.filterMap r) → Q (.ref D) H') : lcG (Its (S a)) g tt te vs σ H Q :=
  lc_core0 (l := a) (G := fun _ => True) (Y := fun i H v H' => H' = H ∧ ∃ c, a[i]? = some c ∧ v = .str (S [c])) (by
    have w := walk_str (z := S a)
    refine ⟨fun i H hi h => w.goes i H (by simpa [S] using hi) trivial, fun H h => ?_, fun i H x H' hi h y => ?_⟩
    · have := w.stops H trivial
      simpa [S] using this
    · obtain ⟨e, c, ec, ex⟩ := w.yields i H x H' (by simpa [S] using hi) trivial y
      exact ⟨e, c, by simpa [S] using ec, ex⟩) (fun c => .str (S [c])) r hw hl (fun _ _ => trivial) (fun i H x H' hi y => y) ht k
/-- over a range -/
theorem lc_r {m : Nat} {σw : L2.St} (hw : wipe σ vs = σw) (r : Nat → Option V) (hl : m ≤ sizeLine) (ht : ∀ z H' A B, z < m → Ex H H' → (∀ y, r z = some y → A y H') → (r z = none → B H') → turn g tt te vs σw (.int (i + (z : Nat))) H' A B)
    (k : ∀ D H', Nw H D → Ex H H' → LM H' D ((List.range m).filterMap r) → Q (.ref D) H') : lcG (Itr i m) g tt te vs σ H Q :=
  lc_core0 (l := List.range m) (G := fun _ => True) (Y := YFn fun z => .int (i + (z : Nat))) (by rw [List.length_range]; exact walk_range) (fun z : Nat => .int (i + (z : Nat))) r hw (by simpa using hl) (fun _ _ => trivial)
    (fun j H x H' hj y => ⟨y.1, j, List.getElem?_range (by simpa using hj), y.2⟩) (fun z H' A B hz => ht z H' A B (by simpa using hz)) k
/-- over a list -/
theorem lc_l {σw : L2.St} [hx : LR K H p xs] (hw : wipe σ vs = σw) (r : V → Option V) (hl : xs.length ≤ sizeLine) (ht : ∀ z H' A B, z ∈ xs → Ex H H' → (∀ y, r z = some y → A y H') → (r z = none → B H') → turn g tt te vs σw z H' A B)
    (k : ∀ D H', Nw H D → Ex H H' → LM H' D (xs.filterMap r) → Q (.ref D) H') : lcG (Itl K p) g tt te vs σ H Q :=
  lc_core0 (l := xs) (walk_list (xs := xs)) id r hw hl (fun H' e => ex_l e.ex hx.lr) (fun j H x H' hj y => ⟨y.1, x, y.2, rfl⟩) ht k
theorem lc_t {σw : L2.St} [hx : TR K H p xs] (hw : wipe σ vs = σw) (r : V → Option V) (hl : xs.length ≤ sizeLine) (ht : ∀ z H' A B, z ∈ xs → Ex H H' → (∀ y, r z = some y → A y H') → (r z = none → B H') → turn g tt te vs σw z H' A B)
    (k : ∀ D H', Nw H D → Ex H H' → LM H' D (xs.filterMap r) → Q (.ref D) H') : lcG (Itt K p) g tt te vs σ H Q :=
  lc_core0 (l := xs) (walk_tup (xs := xs)) id r hw hl (fun H' e => ex_t e.ex hx.tr) (fun j H x H' hj y => ⟨y.1, x, y.2, rfl⟩) ht k
variable {A : V → Hp → Prop} {B : Hp → Prop} {σw : L2.St}
instance : Go (turn g tYes te vs σw x H A B) (g x σw H fun σ2 H2 => Sd (wipe σ2 vs = σw) (te σ2 H2 A)) := ⟨fun k => by
  unfold turn tYes
  simp only [if_true]
  exact k⟩
theorem turn_tt (k : g x σw H fun σ2 H2 => Sd (wipe σ2 vs = σw) (tt σ2 H2 fun b H3 => if b = true then te σ2 H3 A else B H3)) : turn g tt te vs σw x H A B := k
end
end U

namespace PySem.AutoSeq1
open PySem
theorem ext_tup (l : Addr) (items : Array Value) (n : Nat) (b : Addr) (items2 : Array Value) (n2 : Nat) (d0 : Option Addr) (sl : Array (Option Value)) (hs0 : ¬(!items.isEmpty && Builtin.List.listTooLong (items.size + items2.size)) = true) (hs1 : items.size ≤ sizeLine) (hs2 : items.size + items2.size ≤ sizeLine + 1) :
    Meets (Builtin.«list.extend» ⟨[.ref l, .ref b], []⟩) (fun _ R s => s.heap.get? l = some { cls := .type "list", dict := none, data := .seq items n, slots := #[] } ∧ s.heap.get? b = some { cls := .type "tuple", dict := d0, data := .seq items2 n2, slots := sl } ∧ R (.ok (.ret Value.none)) { s with heap := s.heap.update l (Obj.mapSeq fun x => x ++ items2), toks := s.toks }) :=
  .of_wp fun prog w A R s h => by
    obtain ⟨hp, g, d, tk, os⟩ := s; obtain ⟨hl, hb, h⟩ := h; have f1 := idx_int; have f2 := sub_tuple_tuple; have f3 := sub_list_list; have f4 := sub_tuple_list; have f5 := sub_list_tuple;
    have hz' : (items ++ items2).size ≤ sizeLine + 1 := by rw [Array.size_append]; exact hs2
    wp_walk using (wpAny_updateSeq hl rfl (hz := hs1) (_hz' := hz')), wpAny_loadPart' hl, wpAny_loadPart' hb; exact ⟨_, rfl, h⟩
end PySem.AutoSeq1
namespace U
variable [QN]
open PySem PySem.Spec PyProof.Rows L2
open SX (S)
/-! ### a tuple of one's own -/
class TM (H : Hp) (a : Addr) (xs : outParam (List V)) : Prop where
  tm : H a = some (.tup xs)
section
variable {K : PySem.W.Frag} {H H' H0 : Hp} {a p : Addr} {xs : List V}
instance [TM H a xs] : TR K H a xs := ⟨.inl (.inl TM.tm)⟩
instance [Ex H H'] [TM H a xs] : TM H' a xs := ⟨(Ex.ex (H := H)).a (TM.tm (H := H)) nt_t⟩
instance [m : Mu H p H'] [h : TM H a xs] : TM H' a xs := by
  obtain ⟨zs, hz⟩ := m.was
  exact ⟨m.mu.b (ne_of h.tm hz (by intro z; cases z)) h.tm nt_t⟩
theorem al_t' {xs : List V} {H : Hp} {Q : VK} (k : ∀ (p : Addr) (H' : Hp), Nw H p → Ex H H' → TM H' p xs → Q (.ref p) H') : newT xs H Q := fun p h => k p _ (nw_of h) (ex_new h) ⟨upd_same⟩
end
/-! ### instances change -/
/-- all but the instance at p is known on -/
class Mi (H : outParam Hp) (p : outParam Addr) (H' : Hp) : Prop where
  mi : KpB (· = p) H H'
  was : ∃ C dx fs, H p = some (.ins C dx fs)
section
variable {K : PySem.W.Frag} {H H' H0 : Hp} {a p : Addr} {xs : List V}
theorem mi_t (m : Mi H p H') (h : SqT K H a xs) : SqT K H' a xs := by
  obtain ⟨C, dx, fs, hz⟩ := m.was
  rcases h with (h | ⟨o, h⟩) | h
  · exact .inl (.inl (m.mi.b (ne_of h hz (by intro z; cases z)) h nt_t))
  · exact .inl (.inr ⟨o, m.mi.b (ne_of h hz (by intro z; cases z)) h nt_f⟩)
  · exact .inr h
theorem mi_l (m : Mi H p H') (h : SqL K H a xs) : SqL K H' a xs := by
  obtain ⟨C, dx, fs, hz⟩ := m.was
  rcases h with (h | ⟨o, h⟩) | h
  · exact .inl (.inl (m.mi.b (ne_of h hz (by intro z; cases z)) h nt_l))
  · exact .inl (.inr ⟨o, m.mi.b (ne_of h hz (by intro z; cases z)) h nt_f⟩)
  · exact .inr h
instance [m : Mi H p H'] [h : TR K H a xs] : TR K H' a xs := ⟨mi_t m h.tr⟩
instance [m : Mi H p H'] [h : LR K H a xs] : LR K H' a xs := ⟨mi_l m h.lr⟩
instance [m : Mi H p H'] [h : LM H a xs] : LM H' a xs := by
  obtain ⟨C, dx, fs, hz⟩ := m.was
  exact ⟨m.mi.b (ne_of h.lm hz (by intro z; cases z)) h.lm nt_l⟩
instance [m : Mi H p H'] [h : TM H a xs] : TM H' a xs := by
  obtain ⟨C, dx, fs, hz⟩ := m.was
  exact ⟨m.mi.b (ne_of h.tm hz (by intro z; cases z)) h.tm nt_t⟩
instance {C dx : Addr} {fs : List (Str × V)} [m : Mi H p H'] [n : Ne' a p] [h : IR H a C dx fs] : IR H' a C dx fs := ⟨m.mi.b n.ne h.ir nt_i⟩
instance {C dx : Addr} {fs : List (Str × V)} [w : Nw H0 p] [h : IR H0 a C dx fs] : Ne' a p := ⟨w.ne h.ir nt_i⟩
instance {H1 H2 H0 : Hp} [m : Mi H1 p H2] [w : Nw H0 p] [t : Et H H0] [u : Et H H1] : Et H H2 := ⟨kp_nw m.mi w t.et u.et⟩
/-- a field is set -/
def setI (p C dx : Addr) (fs : List (Str × V)) (H : Hp) (Q : Hp → Prop) : Prop := Q (upd H p (.ins C dx fs))
theorem mi_i {p C dx : Addr} {fs gs : List (Str × V)} {H : Hp} {Q : Hp → Prop} [h : IR H p C dx gs] (k : ∀ H', Mi H p H' → IR H' p C dx fs → Q H') : setI p C dx fs H Q := k _ ⟨kp_but h.ir nt_i (fun _ z => nomatch z) fun a o n e => by rw [upd_ne n]; exact e, ⟨C, dx, gs, h.ir⟩⟩ ⟨upd_same⟩
end
/-- a class whose instances have this attribute -/
class CA (K : PySem.W.Frag) (C : Addr) (f : Str) : Prop where
  cls : Cls K C
  na : NoAttr K C f
section
variable {K : PySem.W.Frag} {σ σ' : L2.St} {H H1 : Hp} {Q : VK} {i j : Int} {a b : List Nat} {p q : Addr} {xs ys : List V} {x y v : V} {X : Cx} {k l : Bool} {z u : Str} {A B : Prop} {P G : Prop} {n m : Nat} {te ta tv : TE} {D : Ends} {C dx : Addr} {fs : List (Str × V)} {f : Str}
def fldG (K : PySem.W.Frag) (x : V) (f : Str) (H1 : Hp) (Q : VK) : Prop := ∃ a C dx fs v, x = .ref a ∧ H1 a = some (.ins C dx fs) ∧ Cls K C ∧ NoAttr K C f ∧ fs.lookup f = some v ∧ Q v H1
instance : Go (tFld K ta f σ H Q) (ta σ H fun x H1 => fldG K x f H1 Q) := ⟨fun k => k⟩
theorem fld_of [h : IR H p C dx fs] [c : CA K C f] (k : ∃ v, fs.lookup f = some v ∧ Q v H) : fldG K (.ref p) f H Q := ⟨p, C, dx, fs, k.choose, rfl, h.ir, c.cls, c.na, k.choose_spec.1, k.choose_spec.2⟩
def sfldG (K : PySem.W.Frag) (x y : V) (f : Str) (H : Hp) (R : Hp → Prop) : Prop := ∃ a C dx fs, x = .ref a ∧ H a = some (.ins C dx fs) ∧ Cls K C ∧ NoAttr K C f ∧ fs.length < 1000 ∧ R (upd H a (.ins C dx (putF f y fs)))
instance : Go (sFld K ta tv f D σ H) (tv σ H fun y H1 => ta σ H1 fun x H2 => sfldG K x y f H2 fun H3 => D.nx σ H3) := ⟨fun k => k⟩
theorem sfld_of {gs : List (Str × V)} {R : Hp → Prop} [h : IR H p C dx fs] [c : CA K C f] (hl : fs.length < 1000) (e : putF f y fs = gs) (k : setI p C dx gs H R) : sfldG K (.ref p) y f H R := ⟨p, C, dx, fs, rfl, h.ir, c.cls, c.na, hl, by rw [e]; exact k⟩
/-! ### texts in lists -/
abbrev tx (a : List Nat) : V := .str (S a)
/-- all are texts -/
class TX (xs : List V) (ys : outParam (List (List Nat))) : Prop where
  eq : xs = ys.map tx
instance {ys : List (List Nat)} : TX (ys.map tx) ys := ⟨rfl⟩
instance : TX [] [] := ⟨rfl⟩
instance {ys : List (List Nat)} [h : TX xs ys] : TX (.str (S a) :: xs) (a :: ys) := ⟨by rw [h.eq]; rfl⟩
instance {ys zs : List (List Nat)} [h : TX xs ys] {xt : List V} [g : TX xt zs] : TX (xs ++ xt) (ys ++ zs) := ⟨by rw [h.eq, g.eq, List.map_append]⟩
instance {ys : List (List Nat)} [h : TX xs ys] : TX xs.reverse ys.reverse := ⟨by rw [h.eq, List.map_reverse]⟩
theorem tx_str (ys : List (List Nat)) : (ys.map S).map V.str = ys.map tx := by rw [List.map_map]; rfl
def uJoin (K : PySem.W.Frag) : V → List V → Hp → VK → Prop := fun x xs H Q => ∃ a p, ∃ ys : List Str, x = .str a ∧ xs = [.ref p] ∧ (SqL K H p (ys.map V.str) ∨ SqT K H p (ys.map V.str)) ∧ (ys.map (·.length)).sum + ys.length * a.length ≤ 16777216 ∧ Q (.str (Txt.join a ys)) H
theorem mu_join (hK : X.K = K := by rfl) : MtR X "str.join" (uJoin K) := by
  subst hK
  exact mt_join
theorem jn_len (a : List Nat) (ys : List (List Nat)) : ((ys.map S).map (·.length)).sum + (ys.map S).length * (S a).length = (ys.map (·.length)).sum + ys.length * a.length := by rw [SX.lens, List.length_map, SX.S_len]
instance (priority := 1100) {ys : List (List Nat)} [h : LR K H p xs] [t : TX xs ys] : Go (uJoin K (.str (S a)) [.ref p] H Q) (Sd ((ys.map (·.length)).sum + ys.length * a.length ≤ 16777216) (Q (.str (S (TL.joinL a ys))) H)) :=
  ⟨fun k => ⟨S a, p, ys.map S, rfl, rfl, .inl (by rw [tx_str, ← t.eq]; exact h.lr), by rw [jn_len]; exact k.1, by rw [SX.join_S]; exact k.2⟩⟩
instance {ys : List (List Nat)} [h : TR K H p xs] [t : TX xs ys] : Go (uJoin K (.str (S a)) [.ref p] H Q) (Sd ((ys.map (·.length)).sum + ys.length * a.length ≤ 16777216) (Q (.str (S (TL.joinL a ys))) H)) :=
  ⟨fun k => ⟨S a, p, ys.map S, rfl, rfl, .inr (by rw [tx_str, ← t.eq]; exact h.tr), by rw [jn_len]; exact k.1, by rw [SX.join_S]; exact k.2⟩⟩
/-! methods of texts -/
def tM1G (r : V → List V → Hp → VK → Prop) (x : V) (te : TE) (σ : L2.St) (H1 : Hp) (Q : VK) : Prop := (∃ a, x = .str a) ∧ te σ H1 fun y H2 => r x [y] H2 Q
instance {r : V → List V → Hp → VK → Prop} {to : TE} : Go (tM1 r to te σ H Q) (to σ H fun x H1 => tM1G r x te σ H1 Q) := ⟨fun k => k⟩
instance {r : V → List V → Hp → VK → Prop} : Go (tM1G r (.str z) te σ H Q) (te σ H fun y H2 => r (.str z) [y] H2 Q) := ⟨fun k => ⟨⟨z, rfl⟩, k⟩⟩
theorem rstrip_tl : ∀ l : List Nat, (l.reverse.dropWhile (· == 48)).reverse = (l.reverse.dropWhile (· == 48)).reverse := fun _ => rfl
/-! f-texts -/
def fmtG (x : V) (H1 : Hp) (Q : VK) : Prop := (∃ y : Str, x = .str y ∧ y.length ≤ sizeLine ∧ Q (.str y) H1) ∨ ∃ i : Int, x = .int i ∧ i.natAbs.log2 < 1920 ∧ Q (.str (toString i)) H1
instance : Go (tFmt te σ H Q) (te σ H fun x H1 => fmtG x H1 Q) := ⟨fun k => k⟩
instance : Go (fmtG (.str (S a)) H Q) (Sd (a.length ≤ sizeLine) (Q (.str (S a)) H)) := ⟨fun k => .inl ⟨S a, rfl, by rw [SX.S_len]; exact k.1, k.2⟩⟩
theorem log_n (h : n < 10 ^ 60) : (n : Int).natAbs.log2 < 1920 := by
  show n.log2 < 1920
  exact Nat.lt_trans (PySem.Flt.log2_lt_of (k := 200) (by decide) (Nat.lt_of_lt_of_le h (by decide))) (by decide)
instance : Go (fmtG (.int (n : Int)) H Q) (Sd (n < 10 ^ 60) (Q (.str (S (nm n))) H)) := ⟨fun k => .inr ⟨n, rfl, log_n k.1, by rw [ts_nat]; exact k.2⟩⟩
instance : Go (uStr [.int (n : Int)] H Q) (Sd (n < 10 ^ 60) (Q (.str (S (nm n))) H)) := ⟨fun k => str_n k.1 k.2⟩
def uJs (ts : List TE) : TE := fun σ H Q => tJs ts Str.empty σ H fun out H1 => Q (.str out) H1
theorem pe_joinedU {v1 v2 : Expr} {rest : List Expr} {ts : List TE} {pos : Pos} (h : PJ X (v1 :: v2 :: rest) ts) : PE X (.JoinedStr (v1 :: v2 :: rest) pos) (uJs ts) := pe_joined h
def jsG (x : V) (acc : Str) (ts : List TE) (σ : L2.St) (H : Hp) (R : Str → Hp → Prop) : Prop := ∃ y : Str, x = .str y ∧ (acc ++ y).length ≤ sizeLine ∧ tJs ts (acc ++ y) σ H R
variable {t : TE} {ts : List TE} {R : Str → Hp → Prop}
instance : Go (uJs ts σ H Q) (tJs ts (S []) σ H fun out H1 => Q (.str out) H1) := ⟨fun k => k⟩
instance : Go (tJs (t :: ts) z σ H R) (t σ H fun x H1 => jsG x z ts σ H1 R) := ⟨fun k => k⟩
instance : Go (tJs [] z σ H R) (R z H) := ⟨fun k => k⟩
instance : Go (jsG (.str (S b)) (S a) ts σ H R) (Sd ((a ++ b).length ≤ sizeLine) (tJs ts (S (a ++ b)) σ H R)) := ⟨fun k => ⟨S b, rfl, by rw [SX.S_cat, SX.S_len]; exact k.1, by rw [SX.S_cat]; exact k.2⟩⟩
/-! ### a list or a tuple, walked -/
def iSeq (K : PySem.W.Frag) (tl : TE) : TI := fun σ H R => tl σ H fun x H1 => ∃ a, x = .ref a ∧ (((∃ xs, SqL K H1 a xs) ∧ R (Itl K a) H1) ∨ ((∃ xs, SqT K H1 a xs) ∧ R (Itt K a) H1))
theorem pi_seq {tg l : Expr} {tl : TE} (hl : PE X l tl) (hK : X.K = K := by rfl) : PI X tg l (iSeq K tl) := by
  subst hK
  refine ⟨fun pins s σ H R I h => ?_⟩
  refine thn (hl.run pins s σ H _ I h) fun v s1 ⟨x, H1, I1, r1, q1⟩ => ?_
  obtain ⟨a, e, (⟨⟨xs, hq⟩, q⟩ | ⟨⟨xs, hq⟩, q⟩)⟩ := q1
  · subst e
    cases r1
    obtain ⟨its, rv, p, hz⟩ := I1.list hq
    refine wpAny_pyIter_list p.isList ?_
    refine ⟨s1.heap.objs.size, [s1.heap.objs.size], _, _, H1, rfl, I1.kept (t' := s1.toks) fun b o e => Heap.get?_push_of_some _ e, turn_list a _, ⟨_, Heap.get?_push_size _ rfl, rfl, rfl⟩, fun b hb => ?_, q⟩
    have e : b = s1.heap.objs.size := by simpa using hb
    subst e
    exact I1.fpOk (Nat.le_refl _) (I1.hok.fresh (Nat.le_refl _))
  · subst e
    cases r1
    obtain ⟨its, rv, p, hz⟩ := I1.tuple hq
    refine wpAny_pyIter_tuple (show s1.heap.IsTuple a its.toArray from p) ?_
    refine ⟨s1.heap.objs.size, [s1.heap.objs.size], _, _, H1, rfl, I1.kept (t' := s1.toks) fun b o e => Heap.get?_push_of_some _ e, turn_tuple a _, ⟨_, Heap.get?_push_size _ rfl, rfl, rfl⟩, fun b hb => ?_, q⟩
    have e : b = s1.heap.objs.size := by simpa using hb
    subst e
    exact I1.fpOk (Nat.le_refl _) (I1.hok.fresh (Nat.le_refl _))
def iQ (K : PySem.W.Frag) (x : V) (H1 : Hp) (R : It → Hp → Prop) : Prop := ∃ a, x = .ref a ∧ (((∃ xs, SqL K H1 a xs) ∧ R (Itl K a) H1) ∨ ((∃ xs, SqT K H1 a xs) ∧ R (Itt K a) H1))
instance {R : It → Hp → Prop} : Go (iSeq K te σ H R) (te σ H fun x H1 => iQ K x H1 R) := ⟨fun k => k⟩
instance (priority := 1100) {R : It → Hp → Prop} [h : LR K H p xs] : Go (iQ K (.ref p) H R) (R (Itl K p) H) := ⟨fun k => ⟨p, rfl, .inl ⟨⟨xs, h.lr⟩, k⟩⟩⟩
instance {R : It → Hp → Prop} [h : TR K H p xs] : Go (iQ K (.ref p) H R) (R (Itt K p) H) := ⟨fun k => ⟨p, rfl, .inr ⟨⟨xs, h.tr⟩, k⟩⟩⟩
instance [hT : TM H q [.ty "list", .ty "tuple"]] [h : LR K H p xs] : Go (uIsi K [.ref p, .ref q] H Q) (Q (.bl true) H) := ⟨isi_lt hT.tm h.lr⟩
instance [hT : TM H q [.ty "list", .ty "tuple"]] [h : TR K H p xs] : Go (uIsi K [.ref p, .ref q] H Q) (Q (.bl true) H) := ⟨isi_lt_t hT.tm h.tr⟩
/-! ### extend -/
def uExt (K : PySem.W.Frag) : V → List V → Hp → VK → Prop := fun x vs H Q => ∃ l b xs zs, x = .ref l ∧ vs = [.ref b] ∧ H l = some (.lst xs) ∧ (H b = some (.lst zs) ∨ SqT K H b zs) ∧ xs.length + zs.length ≤ sizeLine ∧ Q .non (upd H l (.lst (xs ++ zs)))
theorem mt_ext (hK : X.K = K := by rfl) : MtM X "list.extend" (uExt K) := by
  subst hK
  intro pins s σ H x vs v us Q I rx rv h
  obtain ⟨l, b, xs, zs, rfl, rfl, hH, hB, hz, q⟩ := h
  rcases hB with hB | hB
  · exact mt_extend pins s σ H _ _ v us Q I rx rv ⟨l, b, xs, zs, rfl, rfl, hH, hB, hz, q⟩
  cases rx
  obtain ⟨u, rfl, ru⟩ := rv.one
  cases ru
  obtain ⟨z, its, n, r, hl, e⟩ := I.lstM hH
  obtain ⟨its2, r2, p2, hz2⟩ := I.tuple hB
  have hl2 := r2.length
  have hsz : its.toArray.size + its2.toArray.size ≤ sizeLine := by rw [List.size_toArray, List.size_toArray]; omega
  have hlong : ¬ (!its.toArray.isEmpty && Builtin.List.listTooLong (its.toArray.size + its2.toArray.size)) = true := by
    rw [notLongL hsz, Bool.and_false]
    exact Bool.false_ne_true
  obtain ⟨o, e2, c2, n2, d2⟩ := p2
  obtain ⟨oc, od, dt, osl⟩ := o
  simp only at c2 d2
  subst c2 d2
  refine call_meets F.slot_list_extend ⟨_, e, rfl⟩ F.entry_list_extend (F.args_list_extend_2 _ _)
    (AutoSeq1.ext_tup l its.toArray n b its2.toArray n2 od osl hlong (by rw [List.size_toArray]; omega) (by omega)) ⟨e, e2, ?_⟩
  refine ⟨.non, _, I.lset (its' := its ++ its2) hH e (by simp) (r.append r2) ?_, rfl, q⟩
  rw [List.length_append]
  omega
instance [h : LM H p xs] [g : LM H q ys] : Go (uExt K (.ref p) [.ref q] H Q) (Sd (xs.length + ys.length ≤ sizeLine) (setL p (xs ++ ys) H fun H' => Q .non H')) := ⟨fun k => ⟨p, q, xs, ys, rfl, rfl, h.lm, .inl g.lm, k.1, k.2⟩⟩
instance [h : LM H p xs] [g : TR K H q ys] : Go (uExt K (.ref p) [.ref q] H Q) (Sd (xs.length + ys.length ≤ sizeLine) (setL p (xs ++ ys) H fun H' => Q .non H')) := ⟨fun k => ⟨p, q, xs, ys, rfl, rfl, h.lm, .inr g.tr, k.1, k.2⟩⟩
/-! ### += -/
def uIAdd : TIp := fun x y H Q => (∃ i j, x = .int i ∧ y = .int j ∧ Q (.int (i + j)) H) ∨ (∃ i j, x = .str i ∧ y = .str j ∧ i.length + j.length ≤ sizeLine ∧ Q (.str (i ++ j)) H) ∨ rExt2 x y H Q
theorem ip_add' : PIp X .Add uIAdd := by
  intro pins s σ H x y v u Q I r1 r2 h
  rcases h with h | ⟨i, j, rfl, rfl, hz, q⟩ | h
  · exact ip_add pins s σ H x y v u Q I r1 r2 h
  · exact iop_add_str pins s σ H _ _ v u Q I r1 r2 ⟨i, j, rfl, rfl, hz, q⟩
  · exact iop_ext pins s σ H x y v u Q I r1 r2 h
instance : Go (uIAdd (.int i) (.int j) H Q) (Q (.int (i + j)) H) := ⟨fun k => .inl ⟨i, j, rfl, rfl, k⟩⟩
instance : Go (uIAdd (.str (S a)) (.str (S b)) H Q) (Sd (a.length + b.length ≤ sizeLine) (Q (.str (S (a ++ b))) H)) := ⟨fun k => .inr (.inl ⟨S a, S b, rfl, rfl, by rw [SX.S_len, SX.S_len]; exact k.1, by rw [SX.S_cat]; exact k.2⟩)⟩
instance : Go (ipI (fun i j => i - j) (.int i) (.int j) H Q) (Q (.int (i - j)) H) := ⟨fun k => ⟨i, j, rfl, rfl, k⟩⟩
/-- xs[i], the value alone -/
def gL (K : PySem.W.Frag) : V → V → Hp → VK → Prop := fun x y H Q => ∃ p xs i v, x = .ref p ∧ y = .int i ∧ SqL K H p xs ∧ 0 ≤ i ∧ i < 2 ^ 63 ∧ xs[i.toNat]? = some v ∧ Q v H
theorem pg_list (hK : X.K = K := by rfl) : PGet X (gL K) := by
  subst hK
  intro pins s σ H o i ov iv Q I r1 r2 h
  obtain ⟨p, xs, k, v, rfl, rfl, hq, h0, h1, he, q⟩ := h
  cases r1
  obtain ⟨t, rfl⟩ := r2
  obtain ⟨its, r, pl, hz⟩ := I.list hq
  obtain ⟨w, ew, rw'⟩ := r.get he
  exact getItem_listL pl.isList h0 h1 ew ⟨v, H, I, rw', q⟩
theorem ps_augL {o i e : Expr} {to ti te : TE} {tip : TIp} {op : Operator} {tpos pos : Pos} (ho : PE X o to) (hi : PE X i ti) (he : PE X e te) (hp : PIp X op tip) (hK : X.K = K := by rfl)
    (ha : ∀ ov iv new, augStore i ov iv new = (do holding [new, ov, iv] (setItem ov iv new); release [new, ov, iv] []; pure .next) := by intros; rfl) : PS X (.AugAssign (.Subscript o i tpos) op e pos) (tAugS to ti te (gL K) tip rSetL) :=
  ps_augS ho hi (pg_list hK) he hp set_list ha
instance {to ti te : TE} {tget : V → V → Hp → VK → Prop} {tip : TIp} {tset : TSet} : Go (tAugS to ti te tget tip tset D σ H) (to σ H fun o H1 => ti σ H1 fun i H2 => tget o i H2 fun x H3 => te σ H3 fun y H4 => tip x y H4 fun z H5 => tset o i z H5 fun H6 => D.nx σ H6) := ⟨fun k => k⟩
theorem gl_of [h : LR K H p xs] (h0 : 0 ≤ i) (h1 : i < 2 ^ 63) (e : xs[i.toNat]? = some v) (k : Q v H) : gL K (.ref p) (.int i) H Q := ⟨p, xs, i, v, rfl, rfl, h.lr, h0, h1, e, k⟩
theorem cm {i j : Int} (hi : i.natAbs < 2 ^ 1000) (hj : j.natAbs < 2 ^ 1000) : CMulW i j := wide_mul hi hj (by decide) (by decide) (by decide)
theorem cm64 {i j : Int} (hi : i.natAbs < 2 ^ 64) (hj : j.natAbs < 2 ^ 64) : CMulW i j := wide_mul hi hj (by decide) (by decide) (by decide)
theorem cd64 {i j : Int} (h : 0 < j) (hj : j.natAbs < 2 ^ 64) : CDivW i j := wide_div h hj (by decide) (by decide)
theorem cd {i j : Int} (h : 0 < j) (hj : j.natAbs < 2 ^ 1000) : CDivW i j := wide_div h hj (by decide) (by decide)
theorem sl_of {R : Hp → Prop} [h : LM H p xs] {j : Nat} {zs : List V} (e : ixN xs.length i = some j) (ez : xs.set j v = zs) (k : setL p zs H R) : rSetL (.ref p) (.int i) v H R := ⟨p, xs, i, j, rfl, rfl, h.lm, e, by rw [ez]; exact k⟩
instance {to ti : TE} {t : TSet} {R : L2.St → Hp → Prop} : Go (gSub to ti t v σ H R) (to σ H fun o H1 => ti σ H1 fun i H2 => t o i v H2 fun H3 => R σ H3) := ⟨fun k => k⟩ -- gSubG
/-! ### backwards -/
def revG (K : PySem.W.Frag) (x : V) (H : Hp) (Q : VK) : Prop := (∃ a xs, x = .ref a ∧ SqL K H a xs ∧ newL xs.reverse H Q) ∨ ∃ z : List Nat, x = .str (S z) ∧ z.length ≤ sizeLine ∧ Q (.str (S z.reverse)) H
def tRev (K : PySem.W.Frag) (te : TE) : TE := fun σ H Q => te σ H fun x H1 => revG K x H1 Q
theorem rev_idx (n : Nat) : Builtin.Str.strSliceIndices none none (-1) n = (List.range n).reverse := by
  show sliceRange ((n : Int) - 1) (-1) (-1) = _
  rw [PySem.W.krv_sliceRange, PySem.W.krv_range]
theorem pe_rev {e : Expr} {te : TE} {k : Nat} {p1 p2 p3 pos : Pos} (he : PE X e te) (hK : X.K = K := by rfl) : PE X (.Subscript e (.Slice none none (some (.UnaryOp .USub (.Constant (.int 1) k p1) p2)) p3) pos) (tRev K te) := by
  subst hK
  refine ⟨fun pins s σ H Q I h => ?_⟩
  refine Subscript_ (thn (he.run pins s σ H _ I h) fun v s1 ⟨x, H1, I1, r1, q1⟩ => ?_)
  have hst : PO X (some (.UnaryOp .USub (.Constant (.int 1) k p1) p2)) (tPart (tUn (rU fun i => .int (-i)) (tC (.int 1)))) := po_some (pe_un un_neg pe_int)
  refine wpAny_Slice (thn (po_none.run pins s1 σ H1 (fun o H2 => o = none ∧ H2 = H1) I1 ⟨rfl, rfl⟩) fun vl s2 ⟨l, H2, I2, pl, el, e2⟩ => ?_)
  subst el e2
  refine thn (po_none.run pins s2 σ H2 (fun o H3 => o = none ∧ H3 = H2) I2 ⟨rfl, rfl⟩) fun vu s3 ⟨u, H3, I3, pu, eu, e3⟩ => ?_
  subst eu e3
  refine thn (hst.run pins s3 σ H3 (fun o H4 => o = some (-1) ∧ H4 = H3) I3 ⟨1, rfl, -1, rfl, rfl, rfl⟩) fun vs s4 ⟨o, H4, I4, ps, eo, e4⟩ => ?_
  subst eo e4
  have I5 : Inv X pins σ H4 { s4 with heap := s4.heap.push { cls := .type "slice", data := .fields #[vl, vu, vs] } } := I4.kept (t' := s4.toks) fun b ob q => Heap.get?_push_of_some _ q
  rcases q1 with ⟨a, xs, ex, hx, q⟩ | ⟨z, ex, hz, q⟩
  · subst ex
    cases r1
    obtain ⟨its, r, ht, hz⟩ := I5.list hx
    have hlen := r.length
    show wpAny (model X.prog X.w) X.A (subscriptTail e (.Slice none none (some (.UnaryOp .USub (.Constant (.int 1) k p1) p2)) p3) (.ref a) (.ref s4.heap.objs.size)) (EP X pins σ Q) X.xe { s4 with heap := s4.heap.push { cls := .type "slice", data := .fields #[vl, vu, vs] } }
    refine tail_any (ops := [.ref a, .ref s4.heap.objs.size]) ht.isList.typeIs (PySem.slot_list_getitem.lookup) ?_ (by with_unfolding_all rfl)
    refine wpAny_getItem_list_slice ht.isList (Heap.IsSliceOf.new _ vl vu vs) pl pu ps (by decide) ?_ (by rw [List.size_toArray]; omega)
    rw [PySem.W.krv_pick]
    refine ⟨.ref _, _, I5.laid (t' := s4.toks) (o := .lst xs.reverse) (fun b ob q => Heap.get?_push_of_some _ q) (Nat.le_refl _) ?_, rfl, q _ (I5.hok.fresh (Nat.le_refl _))⟩
    exact ⟨by rw [List.length_reverse]; exact hz, _, 0, r.reverse, Heap.get?_push_size _ rfl⟩
  · subst ex
    obtain ⟨t, rfl⟩ := r1
    show wpAny (model X.prog X.w) X.A (subscriptTail e (.Slice none none (some (.UnaryOp .USub (.Constant (.int 1) k p1) p2)) p3) (.str (S z) t) (.ref s4.heap.objs.size)) (EP X pins σ Q) X.xe { s4 with heap := s4.heap.push { cls := .type "slice", data := .fields #[vl, vu, vs] } }
    obtain ⟨l', rfl, hl⟩ := IsPart.raw pl
    obtain ⟨u', rfl, hu⟩ := IsPart.raw pu
    obtain ⟨s', rfl, hs⟩ := IsPart.raw ps
    refine tail_any (ops := [.str (S z) t, .ref s4.heap.objs.size]) (typeIs_str _ _ _) F.slot_str_getitem.lookup ?_ (by with_unfolding_all rfl)
    refine wpAny_getItem_str_slice (l := l') (u := u') (st := s') ⟨_, Heap.get?_push_size _ rfl, rfl, rfl⟩ (by rw [hs]; rfl) ?_
    have e1 : sliceMade (S z) t l' u' s' = .str (S z.reverse) := by
      unfold sliceMade slicePicked
      rw [hl, hu, hs]
      show (if ((-1 : Int) == 1 && _) = true then Made.val (.str (S z) t) else Made.str ⟨((Builtin.Str.strSliceIndices none none (-1) (S z).length).filterMap ((S z).cps[·]?)).toArray⟩) = _
      rw [if_neg (by simp), rev_idx, SX.S_len, List.filterMap_reverse]
      have := PySem.W.krv_all z.toArray
      rw [List.size_toArray] at this
      rw [this]
    rw [e1]
    exact ⟨by rw [SX.S_len, List.length_reverse]; exact hz, .str _, H4, I5.tok _, ⟨_, rfl⟩, q⟩
instance : Go (tRev K te σ H Q) (te σ H fun x H1 => revG K x H1 Q) := ⟨fun k => k⟩
instance [h : LR K H p xs] : Go (revG K (.ref p) H Q) (newL xs.reverse H Q) := ⟨fun k => .inl ⟨p, xs, rfl, h.lr, k⟩⟩
instance : Go (revG K (.str (S a)) H Q) (Sd (a.length ≤ sizeLine) (Q (.str (S a.reverse)) H)) := ⟨fun k => .inr ⟨a, rfl, k.1, k.2⟩⟩
end
/-! ### calls with keywords, as promises -/
structure CalK (P : Program) (w : World) (K : PySem.W.Frag) (mg : Str → Option Value) (base : Heap) (k : Nat) (x : Str) (sp : Sp) (n : Nat) (ks : List Str) (gV : List V → List V → List V) : Prop where
  ex : ∃ (f : Addr) (fd : FuncData) (ps : List Str) (g : List Value → List Value → List Value), FnOk P w K mg base C8.CX0 k f fd ps sp ∧ mg x = some (.ref f) ∧ PySem.W.keepIn K (.ref f) = true ∧ KBn K fd ps n ks g gV
structure MakN (P : Program) (w : World) (K : PySem.W.Frag) (mg : Str → Option Value) (base : Heap) (k : Nat) (x : Str) (C : Addr) (sp : Sp) (n : Nat) (ks : List Str) (gV : List V → List V → List V) : Prop where
  ex : ∃ (f : Addr) (fd : FuncData) (ps : List Str) (g : List Value → List Value → List Value), Mk K C f ∧ FnOk P w K mg base C8.CX0 k f fd ps sp ∧ mg x = some (.ref C) ∧ KBn K fd ps (n + 1) ks g gV
section
variable {X : Cx} {k j n : Nat} {C : Addr} {x : Str} {sp : Sp} {p pos : Pos} {e : Expr} {es : List Expr} {kws : List Keyword} {ks : List Str} {t tk : TA} {gV : List V → List V → List V}
theorem pe_ck (c : CalK X.prog X.w X.K X.mg X.base k x sp n ks gV) (hr : Room j X.A) (hk : k ≤ j) (hg : Gl X x) (ha : PA X (e :: es) t) (hkw : PK X kws tk) (hall : (backToKw pos (keywordEach kws X.env)).all (·.1.isSome) = true := by rfl) (hks : (backToKw pos (keywordEach kws X.env)).filterMap (·.1) = ks := by rfl)
    (hdb : (x == ("__debug__" : Str)) = false := by decide) (he : starEach (e :: es) X.env = (false, eval e X.env) :: starEach es X.env := by rfl)
    (hpl : ((backTo pos (starEach (e :: es) X.env)).any (·.1) || (backToKw pos (keywordEach kws X.env)).any (·.1.isNone)) = false := by rfl) : PE X (.Call (.Name x p) (e :: es) kws pos) (tCallN n ks.length sp gV C8.E0 t tk) := by
  obtain ⟨f, fd, ps, g, F, hm, kp, b⟩ := c.ex
  exact pe_callN F (hr.mono hk) hg hm kp b C8.pass0 ha hkw hall hks hdb he hpl
theorem pe_mkk (c : MakN X.prog X.w X.K X.mg X.base k x C sp n ks gV) (hr : Room j X.A) (hk : k + 1 ≤ j) (hg : Gl X x) (ha : PA X (e :: es) t) (hkw : PK X kws tk) (hall : (backToKw pos (keywordEach kws X.env)).all (·.1.isSome) = true := by rfl) (hks : (backToKw pos (keywordEach kws X.env)).filterMap (·.1) = ks := by rfl)
    (hdb : (x == ("__debug__" : Str)) = false := by decide) (he : starEach (e :: es) X.env = (false, eval e X.env) :: starEach es X.env := by rfl)
    (hpl : ((backTo pos (starEach (e :: es) X.env)).any (·.1) || (backToKw pos (keywordEach kws X.env)).any (·.1.isNone)) = false := by rfl) : PE X (.Call (.Name x p) (e :: es) kws pos) (tMakeN C n ks.length sp gV C8.E0 t tk) := by
  obtain ⟨f, fd, ps, g, M, F, hm, b⟩ := c.ex
  exact pe_makeN M F (hr.mono hk) hg hm b C8.pass0 ha hkw hall hks hdb he hpl
/-- written arguments, keywords' values behind them -/
def gCat {α : Type} (us ws : List α) : List α := us ++ ws
variable {σ : L2.St} {H : Hp} {Q : VK} {E : XK} {vs zs ys : List V} {ta : TE} {m : Str} {dvs : List V} {dx : Addr} {a : Addr} {fs : List (Str × V)} {K : PySem.W.Frag}
def callNG (n m : Nat) (sp : Sp) (gV : List V → List V → List V) (E : XK) (vs zs : List V) (H2 : Hp) (Q : VK) : Prop := vs.length = n ∧ zs.length = m ∧ sp (gV vs zs) H2 Q E
instance : Go (tCallN n j sp gV E t tk σ H Q) (t σ H fun vs H1 => tk σ H1 fun zs H2 => callNG n j sp gV E vs zs H2 Q) := ⟨fun k => k⟩
instance [h : App vs zs ys] : Go (callNG n j sp gCat E vs zs H Q) (Sd (vs.length = n) (Sd (zs.length = j) (sp ys H Q E))) := ⟨fun k => ⟨k.1, k.2.1, by unfold gCat; rw [h.eq]; exact k.2.2⟩⟩
/-- a new instance, then __init__ -/
def makeG (C : Addr) (sp : Sp) (vs : List V) (H2 : Hp) (Q : VK) (E : XK) : Prop := ∀ x dx, H2 x = none → H2 dx = none → dx ≠ x → sp (.ref x :: vs) (upd (upd H2 dx (.own x)) x (.ins C dx [])) (fun v H3 => v = .non ∧ Q (.ref x) H3) E
def makeNG (C : Addr) (n m : Nat) (sp : Sp) (gV : List V → List V → List V) (E : XK) (vs zs : List V) (H2 : Hp) (Q : VK) : Prop := vs.length = n ∧ zs.length = m ∧
  ∀ x dx, H2 x = none → H2 dx = none → dx ≠ x → sp (gV (.ref x :: vs) zs) (upd (upd H2 dx (.own x)) x (.ins C dx [])) (fun v H3 => v = .non ∧ Q (.ref x) H3) E
instance : Go (tMakeN C n j sp gV E t tk σ H Q) (t σ H fun vs H1 => tk σ H1 fun zs H2 => makeNG C n j sp gV E vs zs H2 Q) := ⟨fun k => k⟩
instance [h : App vs zs ys] : Go (makeNG C n j sp gCat E vs zs H Q) (Sd (vs.length = n) (Sd (zs.length = j) (makeG C sp ys H Q E))) := ⟨fun k => ⟨k.1, k.2.1, fun x dx h1 h2 h3 => by
  have := k.2.2 x dx h1 h2 h3
  rw [← h.eq] at this
  exact this⟩⟩
def makeAG (C : Addr) (sp : Sp) (vs dvs : List V) (H2 : Hp) (Q : VK) (E : XK) : Prop := makeG C sp (vs ++ dvs) H2 Q E
instance : Go (tMake C sp dvs E t σ H Q) (t σ H fun vs H1 => makeAG C sp vs dvs H1 Q E) := ⟨fun k => k⟩
instance [h : App vs dvs ys] : Go (makeAG C sp vs dvs H Q E) (makeG C sp ys H Q E) := ⟨fun k => by unfold makeAG; rw [h.eq]; exact k⟩
theorem mk_i (k : ∀ (x dx : Addr) (H' : Hp), Nw H x → Ex H H' → IR H' x C dx [] → sp (.ref x :: vs) H' (fun v H3 => v = .non ∧ Q (.ref x) H3) E) : makeG C sp vs H Q E := fun x dx h1 h2 h3 => by
  refine k x dx _ (nw_of h1) ⟨kp_all fun a u e => ?_⟩ ⟨upd_same⟩
  rw [upd_ne (ne_of_none e h1), upd_ne (ne_of_none e h2)]
  exact e
/-! methods -/
def methG (C : Addr) (m : Str) (sp : Sp) (dvs : List V) (E : XK) (t : TA) (σ : L2.St) (x : V) (H1 : Hp) (Q : VK) : Prop := ∃ a dx fs, x = .ref a ∧ H1 a = some (.ins C dx fs) ∧ fs.lookup m = none ∧ t σ H1 fun vs H2 => sp (x :: (vs ++ dvs)) H2 Q E
instance : Go (tMeth C m sp dvs E ta t σ H Q) (ta σ H fun x H1 => methG C m sp dvs E t σ x H1 Q) := ⟨fun k => k⟩
theorem meth_of [h : IR H a C dx fs] (k : fs.lookup m = none ∧ t σ H fun vs H2 => callG sp (.ref a :: vs) dvs H2 Q E) : methG C m sp dvs E t σ (.ref a) H Q := ⟨a, dx, fs, rfl, h.ir, k.1, k.2⟩
end
/-! ### what a reading has come to: all known but p -/
class Mx (H : Hp) (p : Addr) (H' : Hp) : Prop where
  mx : KpB (· = p) H H'
section
variable {H H1 H2 H0 : Hp} {p q : Addr} {C dx : Addr} {fs : List (Str × V)} {xs : List V}
theorem kp_2 {r : Addr → Prop} (a : KpB r H H1) (b : KpB r H1 H2) : KpB r H H2 := ⟨fun c o n h t => b.at_ c o n (a.at_ c o n h t) t, fun h => b.tab (a.tab h)⟩
instance (priority := 2000) : Mx H p H := ⟨kp_rfl⟩
instance [e : Ex H1 H2] [t : Mx H p H1] : Mx H p H2 := ⟨kp_tr t.mx e.ex⟩
instance (priority := 1100) [m : Mu H1 p H2] [t : Mx H p H1] : Mx H p H2 := ⟨kp_2 t.mx m.mu⟩
instance (priority := 1100) [m : Mi H1 p H2] [t : Mx H p H1] : Mx H p H2 := ⟨kp_2 t.mx m.mi⟩
instance [m : Mu H1 q H2] [w : Nw H0 q] [t : Mx H p H0] [u : Mx H p H1] : Mx H p H2 := ⟨kp_nw m.mu w t.mx u.mx⟩
instance [m : Mi H1 q H2] [w : Nw H0 q] [t : Mx H p H0] [u : Mx H p H1] : Mx H p H2 := ⟨kp_nw m.mi w t.mx u.mx⟩
theorem mu_of [l : LM H p xs] [m : Mx H p H1] : Mu H p H1 := ⟨m.mx, xs, l.lm⟩
theorem mi_of [l : IR H p C dx fs] [m : Mx H p H1] : Mi H p H1 := ⟨m.mx, C, dx, fs, l.ir⟩
end
section
variable {σ : L2.St} {H : Hp} {D : Ends} {c : TT} {tb : TS}
/-- while: the invariant with its measure -/
theorem wh (W : Nat → L2.St → Hp → Prop) (m : Nat) (h0 : W m σ H) (h : ∀ m σ H, W m σ H → c σ H fun b H1 => if b = true then (∃ N : L2.St → Hp → Prop, (∀ σ' H', N σ' H' → ∃ m', m' < m ∧ W m' σ' H') ∧ tb { D with nx := N, ct := N, bk := D.nx } σ H1) else D.nx σ H1) : tWhile c tb D σ H := ⟨W, ⟨m, h0⟩, h⟩
end
theorem sfld_p {K : PySem.W.Frag} {x y : V} {f : Str} {H : Hp} {R : Hp → Prop} (h : sfldG K x y f H R) : sfldG K x y f H R := h
end U
namespace U
variable [QN]
open PySem PySem.Spec PyProof.Rows L2
open SX (S)
section
variable {X : Cx} {C : Addr} {m : Str} {sp : Sp} {k j : Nat} {K : PySem.W.Frag} {H : Hp} {Q : VK} {p dx : Addr} {fs : List (Str × V)}
/-- str(x) of an instance whose class has a def __str__ -/
def uStrO (C : Addr) (sp : Sp) : List V → Hp → VK → Prop := fun xs H Q => ∃ a dx fs, xs = [V.ref a] ∧ H a = some (.ins C dx fs) ∧ sp [.ref a] H (fun z H' => ∃ y, z = .str y ∧ Q z H') C8.E0
theorem cu_strO (c : C8.Met X.prog X.w X.K X.mg X.base k C "__str__" sp []) (hr : Room j X.A) (hk : k + 2 ≤ j) : CallR X (.type "str") (uStrO C sp) := by
  obtain ⟨f, fd, ps, ds, hc, hm, F, b, d⟩ := c.ex
  cases d
  intro pins s σ H xs us Q I r h
  obtain ⟨a, dx, fs, rfl, ea, q⟩ := h
  obtain ⟨u, rfl, ru⟩ := r.one
  cases (show u = Value.ref a from ru)
  obtain ⟨mA, O, _⟩ := ins_get I.hok ea
  obtain ⟨od, J, _⟩ := O.look
  have hr2 : Room k X.A.in1.in1 := (show Room (k + 1) X.A.in1 from (show Room (k + 1 + 1) X.A from hr.mono hk).in1).in1
  have r2 : Vals [V.ref a] ([Value.ref a] ++ []) := .cons rfl .nil
  have hl : ([Value.ref a] ++ []).length = ps.length := by rw [← r2.length]; exact F.len _ _ _ _ q
  refine PySem.W.kso_call hr2.units0 I.kIn J hm.at_ hm.fn ?_
  refine wpAny_call (codeAny_mono (F.run X.A.in1.in1 X.stack s H ⟨[.ref a], []⟩ _ _ _ C8.E0 hr2 I.env0.in1.in1 (b s _ I.kIn hl) r2 q) fun r s' hq => ?_)
  cases r with
  | error e => exact C8.pass0 (E := C8.E0) pins σ H s e s' I hq
  | ok fl =>
    cases fl with
    | ret u =>
      obtain ⟨z, H', I', rz, y, ey, qz⟩ := I.after hq
      subst ey
      obtain ⟨t, rfl⟩ := rz
      exact ⟨.str y, H', I', ⟨t, rfl⟩, qz⟩
    | next => exact False.elim hq
    | brk => exact False.elim hq
    | cont => exact False.elim hq
def strOG (Q : VK) : VK := fun z H' => ∃ y, z = .str y ∧ Q z H'
instance {z : Str} : Go (strOG Q (.str z) H) (Q (.str z) H) := ⟨fun h => ⟨z, rfl, h⟩⟩
instance [h : IR H p C dx fs] : Go (uStrO C sp [.ref p] H Q) (sp [.ref p] H (strOG Q) C8.E0) := ⟨fun k => ⟨p, dx, fs, rfl, h.ir, k⟩⟩
/-- in a dict of the top -/
def uKd (K : PySem.W.Frag) (d : Addr) : R2 := fun x y H Q => ∃ (z : Str) (r : Option Value), x = .str z ∧ y = .ref d ∧ PySem.W.nsIn K d z = some r ∧ Q (.bl r.isSome) H
theorem ou_in_kd {d : Addr} (D : ∃ es n, KDict X.K X.w d es n) (hK : X.K = K := by rfl) : OpR X (compareOp .In) (uKd K d) := by
  subst hK
  obtain ⟨es, n, D⟩ := D
  exact op_in_kd D
theorem kd_in {d : Addr} {z : Str} (h : ∃ v, PySem.W.nsIn K d z = some (some v)) (k : Q (.bl true) H) : uKd K d (.str z) (.ref d) H Q := by
  obtain ⟨v, h⟩ := h
  exact ⟨z, some v, rfl, rfl, h, k⟩
theorem sl_mid {a : List Nat} {i j : Int} (z : a.length ≤ sizeLine) (h0 : 0 ≤ i) (h1 : i ≤ j) (h2 : j ≤ a.length) (h : Q (.str (S ((a.drop i.toNat).take (j - i).toNat))) H) : slS a (some i) (some j) H Q :=
  ⟨z, _, beq_iff_eq.mp (PyProof.Rows.slice_closesL (x := S a) h0 h1 (by rw [SX.S_len]; exact h2)), h⟩
theorem cut_ {t u : TS} {D : Ends} {σ : L2.St} {H : Hp} (Mid : L2.St → Hp → Prop) (h1 : t { D with nx := Mid } σ H) (h2 : ∀ σ' H', Mid σ' H' → u D σ' H') : C8.tCut t u D σ H := ⟨Mid, h1, h2⟩
theorem pick {xs : List V} {r : Nat} (h : r < xs.length) : ∃ v ∈ xs, atI xs (r : Int) = some v := ⟨xs[r], List.getElem_mem h, atI_nat (List.getElem?_eq_getElem h)⟩
variable {σ : L2.St} {ta tb : TE} {a : List Nat}
theorem pe_orT' {e b : Expr} {rest : List Expr} {pos : Pos} (ha : PE X e ta) (hb : PE X (.BoolOp .Or (b :: rest) pos) tb) (hK : X.K = K := by rfl) : PE X (.BoolOp .Or (e :: b :: rest) pos) (tOrT K ta tb) := by
  subst hK
  exact pe_orT ha hb
def torG (K : PySem.W.Frag) (x : V) (tb : TE) (σ : L2.St) (H1 : Hp) (Q : VK) : Prop := ∃ k, TruV K x H1 k ∧ if k = true then Q x H1 else tb σ H1 Q
instance : Go (tOrT K ta tb σ H Q) (ta σ H fun x H1 => torG K x tb σ H1 Q) := ⟨fun k => k⟩
instance : Go (torG K (.str (S a)) tb σ H Q) (Sd (a.length ≤ sizeLine) (if decide (a = []) = true then tb σ H Q else Q (.str (S a)) H)) := ⟨fun k => by
  refine ⟨!decide (a = []), ⟨by rw [SX.S_len]; exact k.1, ?_⟩, ?_⟩
  · rw [SX.S_len]
    cases a <;> simp
    omega
  · have := k.2
    by_cases h : a = []
    · simpa [h] using this
    · simpa [h] using this⟩
theorem some_S (z : Str) : ∃ a, z = S a ∧ a.length = z.length := ⟨z.cps.toList, (SX.S_tl z).symm, by simp [Str.length]⟩
def uRst : V → List V → Hp → VK → Prop := fun x xs H Q => ∃ a b, x = .str a ∧ xs = [.str b] ∧ a.length ≤ sizeLine ∧ Q (.str (Txt.rstripChars a b)) H
theorem mu_rst : MtR X "str.rstrip" uRst := mt_rstripChars
def rstG (a b : List Nat) (H : Hp) (Q : VK) : Prop := Q (.str (Txt.rstripChars (S a) (S b))) H
instance {b : List Nat} : Go (uRst (.str (S a)) [.str (S b)] H Q) (Sd (a.length ≤ sizeLine) (rstG a b H Q)) := ⟨fun k => ⟨S a, S b, rfl, rfl, by rw [SX.S_len]; exact k.1, k.2⟩⟩
theorem rst_le {b : List Nat} (k : ∀ c : List Nat, c.length ≤ a.length → Q (.str (S c)) H) : rstG a b H Q := by
  obtain ⟨c, e, l⟩ := some_S (Txt.rstripChars (S a) (S b))
  have h2 := PyProof.Rows.len_rstripChars (S a) (S b)
  have h3 := SX.S_len a
  unfold rstG
  rw [e]
  exact k c (by omega)
/-! taking apart -/
theorem pg_tup' {es : List Expr} {k : Nat} {t : TGs} {n : Nat} {pos : Pos} (hc : X.calm = true) (h : PGs X es t) (hK : X.K = K := by rfl) (hn : (assignEach es X.env).length = n := by rfl) (hst : (assignEach es X.env).findIdx? (·.1) = none := by rfl) : PG X (.Tuple es k pos) (gTup K n t) := by
  subst hK
  exact pg_tup hc h hn hst
variable {g : TG} {gs : TGs} {n : Nat} {x v : V} {xs ys : List V} {R : L2.St → Hp → Prop} {q : Addr}
def tupG (K : PySem.W.Frag) (n : Nat) (gs : TGs) (v : V) (σ : L2.St) (H : Hp) (R : L2.St → Hp → Prop) : Prop := ∃ a xs, v = .ref a ∧ SqT K H a xs ∧ xs.length = n ∧ gs xs σ H R
instance : Go (gTup K n gs v σ H R) (tupG K n gs v σ H R) := ⟨fun k => k⟩
instance [h : TR K H q xs] : Go (tupG K n gs (.ref q) σ H R) (Sd (xs.length = n) (gs xs σ H R)) := ⟨fun k => ⟨q, xs, rfl, h.tr, k.1, k.2⟩⟩
instance : Go (gNil [] σ H R) (R σ H) := ⟨fun k => ⟨rfl, k⟩⟩
instance : Go (gCons g gs (x :: xs) σ H R) (g x σ H fun σ' H' => gs xs σ' H' R) := ⟨fun k => ⟨x, xs, rfl, k⟩⟩
/-! a comprehension whose turns make new objects -/
theorem kp_up {H H' : Hp} {D : Addr} {o : HO} (nw : H D = none) (e : Kp H H') (hD : H' D = none := by assumption) : Kp H (upd H' D o) := kp_tr e (kp_all fun a u h => by
  rw [upd_ne (ne_of_none h hD)]
  exact h)
/-- D is a list of ours, new since H -/
theorem kp_upl {H H1 H2 : Hp} {D : Addr} {xs ys : List V} (nw : H D = none) (e : Kp H H1) (hD : H1 D = some (.lst xs)) (e2 : Kp H1 H2) : Kp H (upd H2 D (.lst ys)) :=
  kp_nw (kp_but (e2.a hD nt_l) nt_l (fun _ z => nomatch z) fun a o n h => by rw [upd_ne n]; exact h) (nw_of nw) (kp_rfl (H := H)) (kp_tr e e2)
theorem lc_l1 {σw : L2.St} {tt : TT} {te : TE} {vs : List Nat} [hx : LR K H p xs] (hw : wipe σ vs = σw) (r : V → V) (hl : xs.length ≤ sizeLine) (ht : ∀ z H' A, z ∈ xs → Ex H H' → (∀ H3, Ex H' H3 → A (r z) H3) → turn g tYes te vs σw z H' A (fun _ => False))
    (k : ∀ D H', Nw H D → Ex H H' → LM H' D (xs.map r) → Q (.ref D) H') : lcG (Itl K p) g tYes te vs σ H Q := by
  intro D hD
  refine lc_it (walk_list (xs := xs)) (fun i H' => Kp H H' ∧ H' D = some (.lst ((xs.take i).map r))) ⟨kp_up hD kp_rfl, by rw [upd_same]; rfl⟩ (fun i H' _ p => ex_l p.1 hx.lr) (fun i x H1 H2 hi p y => ?_) (fun H' p => k D H' (nw_of hD) ⟨p.1⟩ ⟨by have := p.2; rwa [List.take_length] at this⟩)
  obtain ⟨rfl, e⟩ := y
  rw [hw]
  have := ht x H2 (fun y H4 => ∃ acc, H4 D = some (.lst acc) ∧ acc.length < sizeLine ∧ Kp H (upd H4 D (.lst (acc ++ [y]))) ∧ (upd H4 D (.lst (acc ++ [y]))) D = some (.lst ((xs.take (i + 1)).map r))) (List.mem_of_getElem? e) ⟨p.1⟩ (fun H3 e3 => ⟨_, e3.ex.a p.2 nt_l, by rw [List.length_map, List.length_take]; omega, kp_upl hD p.1 p.2 e3.ex, by rw [upd_same, List.take_succ, e, List.map_append]; rfl⟩)
  exact this
end
end U

namespace U
variable [QN]
open PySem PySem.Spec PyProof.Rows L2
open SX (S)
class Wp (σ : L2.St) (vs : List Nat) (σw : outParam L2.St) : Prop where
  eq : wipe σ vs = σw
instance {σ : L2.St} : Wp σ [] σ := ⟨rfl⟩
instance {σ s1 s2 : L2.St} {v : Nat} {vs : List Nat} [h : Wp σ vs s1] [g : SetN s1 v none s2] : Wp σ (v :: vs) s2 := ⟨by
  show (wipe σ vs).set v none = s2
  rw [h.eq, g.eq]⟩
section
variable {K : PySem.W.Frag} {σ σw : L2.St} {H : Hp} {Q : VK} {p : Addr} {xs : List V} {a : List Nat} {g : TG} {tt : TT} {te : TE} {vs : List Nat} {i : Int}
theorem lc_s' [hw : Wp σ vs σw] (r : Nat → Option V) (hl : a.length ≤ sizeLine) (ht : ∀ c H' A B, c ∈ a → Ex H H' → (∀ y, r c = some y → A y H') → (r c = none → B H') → turn g tt te vs σw (.str (S [c])) H' A B)
    (k : ∀ D H', Nw H D → Ex H H' → LM H' D (a.filterMap r) → Q (.ref D) H') : lcG (Its (S a)) g tt te vs σ H Q := lc_s hw.eq r hl ht k
theorem lc_r' {m : Nat} [hw : Wp σ vs σw] (r : Nat → Option V) (hl : m ≤ sizeLine) (ht : ∀ z H' A B, z < m → Ex H H' → (∀ y, r z = some y → A y H') → (r z = none → B H') → turn g tt te vs σw (.int (i + (z : Nat))) H' A B)
    (k : ∀ D H', Nw H D → Ex H H' → LM H' D ((List.range m).filterMap r) → Q (.ref D) H') : lcG (Itr i m) g tt te vs σ H Q := lc_r hw.eq r hl ht k
theorem lc_l' [hx : LR K H p xs] [hw : Wp σ vs σw] (r : V → Option V) (hl : xs.length ≤ sizeLine) (ht : ∀ z H' A B, z ∈ xs → Ex H H' → (∀ y, r z = some y → A y H') → (r z = none → B H') → turn g tt te vs σw z H' A B)
    (k : ∀ D H', Nw H D → Ex H H' → LM H' D (xs.filterMap r) → Q (.ref D) H') : lcG (Itl K p) g tt te vs σ H Q := lc_l hw.eq r hl ht k
theorem lc_l1' [hx : LR K H p xs] [hw : Wp σ vs σw] (r : V → V) (hl : xs.length ≤ sizeLine) (ht : ∀ z H' A, z ∈ xs → Ex H H' → (∀ H3, Ex H' H3 → A (r z) H3) → turn g tYes te vs σw z H' A (fun _ => False))
    (k : ∀ D H', Nw H D → Ex H H' → LM H' D (xs.map r) → Q (.ref D) H') : lcG (Itl K p) g tYes te vs σ H Q := lc_l1 (tt := tYes) hw.eq r hl ht k
end
end U

namespace U
variable [QN]
open PySem PySem.Spec PyProof.Rows L2
open SX (S)
/-! ### exceptions: what the written part says of the family's class and of a refusal's -/
structure MeC (K : PySem.W.Frag) (C : Addr) : Prop where
  ga : PySem.W.specialIn K (.ref C) "__getattribute__" = some (some (.builtin "type.__getattribute__"))
  rd : PySem.W.readsIn K C (.type "type") = true
  val : PySem.W.findCls K (.ref C) (.type "type") "__init__" = some (.val (.builtin "ValueError.__init__"))
omit [QN] in
theorem meB_ok {K : PySem.W.Frag} {C : Addr} (h : meB K C = true) : MeC K C := by
  unfold meB at h
  obtain ⟨h1, h⟩ := He.ba h
  obtain ⟨h2, h3⟩ := He.ba h
  refine ⟨of_decide_eq_true h1, h2, ?_⟩
  split at h3
  · rename_i v e
    rw [e, of_decide_eq_true h3]
  · cases h3
omit [QN] in
theorem oexB_ok {K : PySem.W.Frag} {C : Addr} (h : oexB K C = true) : OexC K C := by
  unfold oexB at h
  obtain ⟨h0, h⟩ := He.ba h
  obtain ⟨h1, h⟩ := He.ba h
  obtain ⟨h2, h⟩ := He.ba h
  obtain ⟨h3, h4⟩ := He.ba h
  refine ⟨?_, of_decide_eq_true h1, of_decide_eq_true h2, of_decide_eq_true h3, h4⟩
  split at h0
  · rename_i dd cd sl ho
    split at h0
    · rename_i C' bm k0 k1 k2 k3 n k5 hm hs
      obtain ⟨a1, h0⟩ := He.ba h0
      obtain ⟨a2, h0⟩ := He.ba h0
      obtain ⟨a3, h0⟩ := He.ba h0
      obtain ⟨a4, a5⟩ := He.ba h0
      have e1 := of_decide_eq_true a1
      have e2 := of_decide_eq_true a2
      subst e1 e2
      obtain ⟨nm, bs, mro, ns, qn, hd, sn, sub, ab, col, del⟩ := cd
      dsimp only at hm a3 a4
      subst hm a4
      have e3 : del = false := by simpa using a3
      subst e3
      have hsl : sl = #[k0, k1, k2, k3, some (.builtin "ValueError.__new__"), k5] := by
        obtain ⟨l⟩ := sl
        simp only at hs
        rw [hs]
      subst hsl
      exact ⟨nm, qn, ns, bs, bm, sn, sub, ab, col, dd, k0, k1, k2, k3, k5, ho, a5⟩
    · cases h0
  · cases h0
section
variable {X : Cx} {n : Str} {ME : Addr} {e : Expr} {es : List Expr} {ta : TA} {p1 p2 pos : Pos}
/-- MarkError.__init__(self, ..) -/
theorem pe_meinit {pl : Sem Bool} (hg : Gl X n) (hm : X.mg n = some (.ref ME)) (M : MeC X.K ME) (ha : PA X (e :: es) ta) (hdb : (n == ("__debug__" : Str)) = false := by decide)
    (hc : eval (.Call (.Attribute (.Name n p1) "__init__" p2) (e :: es) [] pos) X.env = (do
      let ov ← eval (.Name n p1) X.env
      standAt p2.atName
      let (f, first) ← holding [ov] (getMethod ov "__init__" pl)
      callWith pos f first (backTo pos (starEach (e :: es) X.env)) (backToKw pos (keywordEach [] X.env))) := by rfl)
    (he : starEach (e :: es) X.env = (false, eval e X.env) :: starEach es X.env := by rfl) (hpl : (backTo pos (starEach es X.env)).any (·.1) = false := by rfl) :
    PE X (.Call (.Attribute (.Name n p1) "__init__" p2) (e :: es) [] pos) (tVeI X.K ta) := by
  refine ⟨fun pins s σ H Q I h => ?_⟩
  refine PySem.W.methodCall_KW (ld_glob I hg hm ?_ hdb) hc
  refine PySem.W.method_cls I.kIn M.ga (PySem.W.cls_value I.kIn M.rd M.val (by decide +kernel) ?_)
  show wpAny _ _ (callWith pos (Value.builtin "ValueError.__init__") [] (backTo pos (starEach (e :: es) X.env)) []) _ _ _
  refine PyProof.Rows.callWith_method1 (thn (ha.run pos pins _ σ H _ (I.tok _) h) fun us s1 ⟨vs, H1, I1, r1, a, C, ws, ev, hl, T, ea, q⟩ => ?_) he hpl
  subst ev
  cases r1 with
  | @cons _ u0 _ ur ra rw' =>
    obtain rfl : u0 = Value.ref a := ra
    have hlen : ur.length ≤ sizeLine := by
      rw [← Paired.length rw', sizeLine_eq]
      omega
    exact oinit_ok T I1 ea hlen fun s' J => ⟨.non, H1, J, rfl, q⟩
end
/-! ### promises of defs that may raise -/
structure CalX (P : Program) (w : World) (K : PySem.W.Frag) (mg : Str → Option Value) (base : Heap) (k : Nat) (x : Str) (sp : Sp) (dvs : List V) : Prop where
  ex : ∃ (f : Addr) (fd : FuncData) (ps : List Str) (ds : List Value), FnOk P w K mg base (L2.CX P w) k f fd ps sp ∧ mg x = some (.ref f) ∧ PySem.W.keepIn K (.ref f) = true ∧ Binds K fd ps ds ∧ Vals dvs ds
section
variable {P : Program} {w : World} {K : PySem.W.Frag} {mg : Str → Option Value} {base : Heap} {k : Nat} {f : Addr} {fd : FuncData} {ps : List Str} {sp : Sp} {x : Str} {dvs : List V}
/-- what never raises keeps the wider promise, too -/
theorem ok_x (F : FnOk P w K mg base C8.CX0 k f fd ps sp) : FnOk P w K mg base (L2.CX P w) k f fd ps sp := ⟨F.len, fun A outer s H args us vs Q E hr e0 hb r h => codeAny_mono (F.run A outer s H args us vs Q E hr e0 hb r h) fun r s' q => by
  cases r with
  | error e => exact (show False from q).elim
  | ok fl => cases fl <;> exact q⟩
theorem cal_x (c : C8.Cal P w K mg base k x sp dvs) : CalX P w K mg base k x sp dvs := by
  obtain ⟨f, fd, ps, ds, F, a, b, d, e⟩ := c.ex
  exact ⟨f, fd, ps, ds, ok_x F, a, b, d, e⟩
end
/-- f(..), an exception is wished for by W -/
def tCallX (sp : Sp) (dvs : List V) (W : WX) (t : TA) : TE := fun σ H Q => t σ H fun vs H1 => sp (vs ++ dvs) H1 Q (fun cls d H' => W cls d σ H')
section
variable {X : Cx} {W : WX} {k j : Nat} {x : Str} {sp : Sp} {dvs : List V} {p pos : Pos} {e : Expr} {es : List Expr} {t : TA}
theorem run_fnX {CX : CXT} {f : Addr} {fd : FuncData} {ps : List Str} {ds : List Value} {E : XK} {pins : List (Addr × Obj)} {σ : L2.St} {H : Hp} {s : Shared} {Q : VK} {us : List Value} {vs : List V} (F : FnOk X.prog X.w X.K X.mg X.base CX k f fd ps sp) (hr : Room k X.A) (hb : Binds X.K fd ps ds) (hd : Vals dvs ds) (hx : PassesAt CX X σ E)
    (I : Inv X pins σ H s) (r : Vals vs us) (h : sp (vs ++ dvs) H Q E) : wpAny (model X.prog X.w) X.A (call (.ref f) us) (EP X pins σ Q) X.xe s := by
  have r2 : Vals (vs ++ dvs) (us ++ ds) := r.append hd
  have hl : (us ++ ds).length = ps.length := by rw [← r2.length]; exact F.len _ _ _ _ h
  refine wpAny_call (codeAny_mono (F.run X.A X.stack s H ⟨us, []⟩ (us ++ ds) (vs ++ dvs) Q E hr I.env0 (hb s us I.kIn hl) r2 h) fun r s' hq => ?_)
  cases r with
  | error e => exact hx pins H s e s' I hq
  | ok fl =>
    cases fl with
    | ret u => exact I.after hq
    | next => exact False.elim hq
    | brk => exact False.elim hq
    | cont => exact False.elim hq
theorem pe_cX (c : CalX X.prog X.w X.K X.mg X.base k x sp dvs) (tk : Takes X W) (hr : Room j X.A) (hk : k ≤ j) (hg : Gl X x) (ha : PA X (e :: es) t)
    (hdb : (x == ("__debug__" : Str)) = false := by decide) (he : starEach (e :: es) X.env = (false, eval e X.env) :: starEach es X.env := by rfl) (hpl : (backTo pos (starEach es X.env)).any (·.1) = false := by rfl) :
    PE X (.Call (.Name x p) (e :: es) [] pos) (tCallX sp dvs W t) := by
  obtain ⟨f, fd, ps, ds, F, hm, kp, b, d⟩ := c.ex
  refine ⟨fun pins s σ H Q I h => ?_⟩
  refine wpAny_Call_Name_kw (ld_glob I hg hm ?_ hdb)
  refine PySem.W.callWith_K (h₀ := X.base) I.ok.mod.kin kp (thn (ha.run pos pins s σ H _ I h) fun us s1 ⟨vs, H1, I1, r, q⟩ => ⟨I1.kIn, ?_⟩) he hpl
  exact run_fnX F (hr.mono hk) b d (passAt tk σ) I1 r q
end
/-! ### a refusal is made and raised -/
/-- its dict -/
class XD (H : Hp) (d : Addr) (fs : outParam (List (Str × V))) : Prop where
  xd : H d = some (.xd fs)
section
variable {H H' : Hp} {p d : Addr} {fs : List (Str × V)}
instance [Ex H H'] [XD H d fs] : XD H' d fs := ⟨(Ex.ex (H := H)).a (XD.xd (H := H)) nt_x⟩
instance [m : Mu H p H'] [h : XD H d fs] : XD H' d fs := by
  obtain ⟨zs, hz⟩ := m.was
  exact ⟨m.mu.b (ne_of h.xd hz (by intro z; cases z)) h.xd nt_x⟩
instance [m : Mi H p H'] [h : XD H d fs] : XD H' d fs := by
  obtain ⟨C, dx, gs, hz⟩ := m.was
  exact ⟨m.mi.b (ne_of h.xd hz (by intro z; cases z)) h.xd nt_x⟩
end
/-- __init__ of such a class: one field -/
def spNo (K : PySem.W.Frag) (f : Str) : Sp := fun vs H Q _ => ∃ (a C : Addr) (v : V), vs = [.ref a, v] ∧ OexC K C ∧ PySem.W.findIn K (.ref C) f = some none ∧ H a = some (exo a C none) ∧ ∀ dx, H dx = none → dx ≠ a → Q .non (upd (upd H dx (exd dx [(f, v)])) a (exo a C (some dx)))
structure NoC (P : Program) (w : World) (K : PySem.W.Frag) (mg : Str → Option Value) (base : Heap) (k : Nat) (x : Str) (C : Addr) (f : Str) : Prop where
  oex : OexC K C
  na : PySem.W.findIn K (.ref C) f = some none
  mgx : mg x = some (.ref C)
  ex : ∃ (fI : Addr) (fd : FuncData) (ps : List Str), PySem.W.findIn K (.ref C) "__init__" = some (some (.ref fI)) ∧ PySem.W.typeIn K (.ref fI) = some (.type "function") ∧ FnOk P w K mg base C8.CX0 k fI fd ps (spNo K f) ∧ Binds K fd ps []
section
variable {X : Cx} {W : WX} {k j : Nat} {x f : Str} {C : Addr} {p pos pos' : Pos} {e : Expr} {te : TE} {σ : L2.St} {H : Hp} {D : Ends} {v : V} {K : PySem.W.Frag}
def tRs (K : PySem.W.Frag) (C : Addr) (f : Str) (W : WX) (te : TE) : TS := fun _ σ H => tMkO C (spNo K f) [] (tCons te tNil) σ H fun cls d H' => W cls d σ H'
theorem ps_no (tk : Takes X W) (c : NoC X.prog X.w X.K X.mg X.base k x C f) (hc : X.calm = true) (hr : Room j X.A) (hk : k + 1 ≤ j) (hg : Gl X x) (he : PE X e te) (hK : X.K = K := by rfl)
    (hdb : (x == ("__debug__" : Str)) = false := by decide) (hs : starEach [e] X.env = (false, eval e X.env) :: starEach [] X.env := by rfl) (hpl : (backTo pos' (starEach [] X.env)).any (·.1) = false := by rfl) :
    PS X (.Raise (some (.Call (.Name x p) [e] [] pos')) none pos) (tRs K C f W te) := by
  subst hK
  obtain ⟨fI, fd, ps, iC, tI, F, b⟩ := c.ex
  exact ps_raise hc tk (pmk_oex c.oex iC tI F (hr.mono hk) b .nil (fun _ _ _ _ _ _ _ h => h.elim) hg c.mgx (pa_cons he pa_nil hs) hdb hs hpl)
def noG (K : PySem.W.Frag) (C : Addr) (f : Str) (W : WX) (v : V) (σ : L2.St) (H1 : Hp) : Prop := [v].length ≤ 1000 ∧ ∀ a, H1 a = none → spNo K f [.ref a, v] (upd H1 a (exo a C none))
  (fun v H2 => v = .non ∧ ∃ (d : Addr) (fs : List (Str × V)), H2 a = some (exo a C (some d)) ∧ H2 d = some (exd d fs) ∧ H1 d = none ∧ W (.ref C) (some d) σ (upd (del H2 a) d (.xd fs))) (fun _ _ _ => False)
instance : Go (tRs K C f W te D σ H) (te σ H fun v H1 => noG K C f W v σ H1) := ⟨fun k => k⟩
theorem no_of {H1 : Hp} (o : OexC K C) (na : PySem.W.findIn K (.ref C) f = some none) (k : ∀ d H', Nw H1 d → Ex H1 H' → XD H' d [(f, v)] → W (.ref C) (some d) σ H') : noG K C f W v σ H1 := by
  refine ⟨by simp, fun a ha => ⟨a, C, v, rfl, o, na, upd_same, fun dx hdx hne => ⟨rfl, dx, [(f, v)], upd_same, ?_, ?_, ?_⟩⟩⟩
  · rw [upd_ne hne, upd_same]
  · rw [upd_ne hne] at hdx
    exact hdx
  · have h1 : H1 dx = none := by rw [upd_ne hne] at hdx; exact hdx
    refine k dx _ (nw_of h1) ⟨kp_all fun b u e => ?_⟩ ⟨upd_same⟩
    have n1 : b ≠ dx := ne_of_none e h1
    have n2 : b ≠ a := ne_of_none e ha
    rw [upd_ne n1, del_ne n2, upd_ne n2, upd_ne n1, upd_ne n2]
    exact e
/-- a def of one field keeps the promise of such a class -/
def tIni (K : PySem.W.Frag) (f : Str) (ta : TA) (tv : TE) : TS := tSeq (tDrop (tVeI K ta)) (tOst K f (tVar 0) tv)
theorem no_read {C a : Addr} {v x : V} {Q : VK} (o : OexC K C) (na : PySem.W.findIn K (.ref C) f = some none) (ha : H a = some (exo a C none)) (k : ∀ dx, H dx = none → dx ≠ a → Q .non (upd (upd H dx (exd dx [(f, v)])) a (exo a C (some dx)))) :
    tSeq (tDrop (tVeI K (tCons (tVar 0) (tCons (tC x) tNil)))) (tOst K f (tVar 0) (tVar 1)) { nx := fun _ H' => Q .non H', rt := Q } [some (.ref a), some v] H :=
  ⟨.ref a, rfl, a, C, [x], rfl, by simp, o, ha, v, rfl, .ref a, rfl, a, C, rfl, o, na, .inl ⟨ha, k⟩⟩
end
end U

namespace PySem.W
open PySem PySem.Calls PyProof.Rows
section
variable {prog : Program} {w : World} {A : Around} {E : Value → Shared → Prop} {s : Shared} {K : Frag} {x D : Addr} {ox : Obj}
/-- the class of a refusal, asked of one with a dict of its own -/
theorem u_classE {od : Option Obj} {Q : Option Value → Shared → Prop} (C : L2.ExcC K D) (X : K.In s.heap) (I : InstAt s.heap x ox D od) (h : Q (some (.ref D)) { s with toks := s.toks + 1 }) : wpAny (model prog w) A (getAttr? (.ref x) "__class__") Q E s := by
  have hc : (clsIn K D).isSome = true := by obtain ⟨cd, hc, _⟩ := any_some C.hd; rw [hc]; rfl
  have hf : findObj K D od "__class__" = some (.bind (.builtin "getset_descriptor.__get__") (.builtin "object.__class__")) := by
    cases od with
    | none => exact findObj_dataN hc C.ha C.hn C.ht
    | some o => exact findObj_data hc C.ha C.hn C.ht
  obtain ⟨hp, g, d, t, os⟩ := s
  have a0 := I.type (M := model prog w)
  have a1 := looks_findIn (M := model prog w) X C.hg
  have a2 := looks_findIn (M := model prog w) X C.hk
  have a3 := looks_find (M := model prog w) X I hf
  have sub : Looks (model prog w) hp (isInstance (.ref x) (.type "BaseException")) true := a0.andThen (looks_subIn X C.hs)
  have e0 : (false && onTheHeap (Value.builtin "BaseException.__getattribute__")) = false := rfl
  have e2 : (Value.builtin "BaseException.__getattribute__" == Value.builtin "object.__getattribute__") = false := by decide +kernel
  have e1 : (onTheHeap (Value.ref D) && Value.builtin "BaseException.__getattribute__" == Value.builtin "object.__getattribute__") = false := by rw [e2]; rfl
  unfold getAttr? getAttrBy? getAttrBy
  refine wpAny_bind (wpAny_mkText (wpAny_bind (wpAny_attempt (wpAny_holding (wpAny_bind (a0.at (wpAny_bind (a1.at ?_))))))))
  show wpAny _ _ (if (onTheHeap (Value.ref D) && Value.builtin "BaseException.__getattribute__" == Value.builtin "object.__getattribute__") = true then _ else _) _ _ _
  rw [e1, if_neg Bool.false_ne_true]
  unfold getAttrByItsOwn hookBefore
  refine wpAny_bind ?_
  rw [if_pos (show onTheHeap (Value.ref D) = true from rfl)]
  refine a2.at ?_
  refine wpAny_bind (wpAny_attempt (wpAny_holding ?_))
  unfold callGetattribute
  rw [e0, if_neg Bool.false_ne_true]
  unfold boundAndCalled
  rw [PySem.F.excAttr_ValueError.ga.bind (.ref x)]
  refine wpAny_bind (wpAny_pure ?_)
  show wpAny _ _ (call (.builtin "BaseException.__getattribute__") [.ref x, .str "__class__" t]) _ _ _
  refine wpAny_call (codeAny_call_builtin PySem.F.excAttr_ValueError.ga.plain PySem.F.entry_bexc_ga ?_)
  refine @check_slot (model prog w) _ _ ⟨hp, g, d, t + 1, os⟩ "BaseException.__getattribute__" "BaseException" "__getattribute__" (.ref x) [.str "__class__" t] [] _ (by decide +kernel) (by decide +kernel) sub (PySem.F.args_bexc_ga (.ref x) (.str "__class__" t)) ?_
  unfold Builtin.«object.__getattribute__»
  refine wpAny_bind (wpAny_of_eq (a := ((Value.ref x : Value), [Value.str "__class__" t])) (by first | rfl | (simp only [slotArgs]; rfl)) ?_)
  refine wpAny_bind (wpAny_pure (wpAny_bind (a0.at (wpAny_bind (a3.at ?_)))))
  show wpAny _ _ (holding [Value.builtin "object.__class__"] (call (.builtin "getset_descriptor.__get__") [.builtin "object.__class__", .ref x, .ref D]) >>= ret) _ _ _
  refine wpAny_bind (wpAny_holding (wpAny_call (class_get (s := ⟨hp, g, d, t + 1, os⟩) (ox := ox) (od := od) X I C.hm ?_)))
  refine wpAny_pure ?_
  show wpAny _ _ (handedOut (.ref D)) _ _ _
  rw [handedOut_of (v := .ref D) rfl]
  first
    | exact wpAny_pure (wpAny_pure h)
    | exact wpAny_pure h
    | exact wpAny_pure (wpAny_bind (wpAny_pure (wpAny_pure h)))
theorem u_kitx {od : Option Obj} (C : L2.ExcC K D) : KitX K (.ref x) (.ref D) (fun h => InstAt h x ox D od) where
  ty := fun _ _ _ I => I.type
  it := fun _ _ X _ => by
    obtain ⟨cd, hc, _⟩ := any_some C.hd
    unfold clsIn at hc
    split at hc
    · rename_i c' d' cd' sl' ho
      intro A' Q' E' s' k q
      unfold isType loadHead
      exact wpAny_bind (wpAny_loadPart (k _ _ (X _ _ ho)) (wpAny_pure q))
    · cases hc
  ne := (handS_kitx_exc (x := x) (ox := ox) C.hg C.hk C.hs C.hd C.ha C.hn C.ht C.hm).ne
  ca := fun X I k => u_classE C X I k
end
end PySem.W
namespace U
variable [QN]
open PySem PySem.Spec PyProof.Rows L2
open SX (S)
/-! ### what an except suite asks of its exception -/
omit [QN] in
theorem excB_ok {K : PySem.W.Frag} {D : Addr} (h : excB K D = true) : ExcC K D := by
  unfold excB at h
  obtain ⟨h1, h⟩ := He.ba h
  obtain ⟨h2, h⟩ := He.ba h
  obtain ⟨h3, h⟩ := He.ba h
  obtain ⟨h4, h⟩ := He.ba h
  obtain ⟨h5, h⟩ := He.ba h
  obtain ⟨h6, h⟩ := He.ba h
  obtain ⟨h7, h8⟩ := He.ba h
  exact ⟨of_decide_eq_true h1, of_decide_eq_true h2, of_decide_eq_true h3, h4, of_decide_eq_true h5, of_decide_eq_true h6, of_decide_eq_true h7, of_decide_eq_true h8⟩
theorem exc_xf {K : PySem.W.Frag} {D : Addr} (c : ExcC K D) : XfC K D := ⟨c.hg, c.hk, c.hs, c.hd⟩
section
variable {X : Cx} {a : Addr} {oe : Obj} {pn : List (Addr × Obj)} {cls : Value} {d : Option Addr} {K : PySem.W.Frag} {f : Str} {H : Hp} {Q : VK} {σ : L2.St} {te : TE}
/-- isinstance(e, C), e the exception of the suite, of any class -/
def uIsE (K : PySem.W.Frag) (a : Addr) (cls : Value) (d : Option Addr) : List V → Hp → VK → Prop := fun xs H Q => ∃ (D dd : Addr) (fs : List (Str × V)) (c : V) (cv : Value) (b : Bool), xs = [.ref a, c] ∧ cls = .ref D ∧ ExcC K D ∧ d = some dd ∧ H dd = some (.xd fs) ∧ ClsV c cv ∧ PySem.W.kitOne K (.ref D) cv = some b ∧ Q (.bl b) H
theorem cu_isE (hz : Zc cls d oe) (hf : ∃ vs, oe.data = .fields vs) (hK : X.K = K := by rfl) : CallR (X.suite a ((a, oe) :: pn)) (.builtin "isinstance") (uIsE K a cls d) := by
  subst hK
  intro pins s σ H xs us Q I r h
  obtain ⟨D, dd, fs, c, cv, b, rfl, ec, C, ed, hx, hcv, e, q⟩ := h
  subst ec ed
  cases r with
  | cons rx rr =>
    cases rr with
    | cons rt rr =>
      cases rr
      cases rx
      have ec := hcv.eq rt
      subst ec
      obtain ⟨hget, _⟩ := I.pin (a, oe) (List.mem_append.mpr (.inl List.mem_cons_self))
      obtain ⟨vs, hv⟩ := hf
      have hx : ObjOk X.prog X.w H s.heap dd (.xd fs) := I.hok dd _ hx
      obtain ⟨mA, hns, hr⟩ := hx
      obtain ⟨od, ho, hl⟩ := lookIn_ns hns
      have J : PySem.W.InstAt s.heap a oe D (some od) := ⟨hget, hz.1, by unfold PySem.W.notCls; rw [hv] <;> rfl, by rw [hz.2]; exact ho⟩
      exact PySem.W.kia_one (PySem.W.u_kitx C) I.kIn J e (fun z => nomatch z) fun tk => ⟨.bl b, H, I.kept (t' := tk) fun _ _ z => z, rfl, q⟩
theorem names_of {x : Str} {C : Addr} (hg : Gl X x) (hm : X.mg x = some (.ref C)) (hd : (x == ("__debug__" : Str)) = false := by decide) : Names X x (.ref C) := ⟨hg, hd, .inl hm⟩
/-- try .. except x as n -/
def tTry (K : PySem.W.Frag) (c : Value) (i : Nat) (ts : Addr → Value → Option Addr → TS) (Wout : WX) (tb : WX → TS) : TS := fun D σ H => tb (wAs K c i ts Wout D) D σ H
theorem ps_try_as' {x n : Str} {c : Value} {i : Nat} {body suite : List Stmt} {b₀ : Stmt} {np pos pos' : Pos} {tb : WX → TS} {ts : Addr → Value → Option Addr → TS} {Wout : WX}
    (hs : X.stack = X.env :: X.outer) (hfr : X.env.frame = some X.env.locals) (hN : X.N.Nodup) (hi : X.N[i]? = some n) (hln : X.env.kindOf n = some .local) (hc : Names X x c) (tk : Takes X Wout)
    (hb : ∀ (W : WX) (pn : List (Addr × Obj)) (xe : Value → Shared → Prop), Takes (X.tr pn xe) W → PassesOwn (model X.prog X.w) X.A X.env xe → PSs (X.tr pn xe) body (tb W))
    (hsu : ∀ (a : Addr) (oe : Obj) (cls : Value) (d : Option Addr) (pn : List (Addr × Obj)), Zc cls d oe → (∃ vs, oe.data = .fields vs) → PSs (X.suite a ((a, oe) :: pn)) (b₀ :: suite) (ts a cls d)) (hK : X.K = K := by rfl) :
    PS X (.Try body [.ExceptHandler (some (.Name x np)) (some n) (b₀ :: suite) pos'] [] [] pos) (tTry K c i ts Wout tb) := by
  subst hK
  exact ps_try_as hs hfr hN hi hln hc tk hb hsu
variable {c : Value} {i : Nat} {ts : Addr → Value → Option Addr → TS} {Wout : WX} {tb : WX → TS} {D : Ends} {v : V} {C : Addr}
instance : Go (tTry K c i ts Wout tb D σ H) (tb (wAs K c i ts Wout D) D σ H) := ⟨fun k => k⟩
/-- the clause catches -/
theorem was_y (h : PySem.W.exmOne K cls c = some true) (k : ∀ a, H a = none → ts a cls d { nx := fun σ' H' => D.nx (σ'.set i none) H', rt := D.rt, bk := fun σ' H' => D.bk (σ'.set i none) H', ct := fun σ' H' => D.ct (σ'.set i none) H' } (σ.set i (some (.ref a))) H) : wAs K c i ts Wout D cls d σ H :=
  ⟨true, h, (fun _ => k), (fun z => nomatch z)⟩
theorem was_n (h : PySem.W.exmOne K cls c = some false) (k : Wout cls d σ H) : wAs K c i ts Wout D cls d σ H := ⟨false, h, (fun z => nomatch z), fun _ => k⟩
/-- e.f in the suite -/
theorem pe_xf' {e : Expr} {pos : Pos} (T : ExcC X.K C) (hno : PySem.W.findIn X.K (.ref C) f = some none) (hz : Zc cls d oe) (hf : ∃ vs, oe.data = .fields vs) (he : PE (X.suite a ((a, oe) :: pn)) e te) (hb : attributeBase e f X.env (eval e X.env) = eval e X.env := by rfl) :
    PE (X.suite a ((a, oe) :: pn)) (.Attribute e f pos) (tXf a cls d C f te) := pe_xf (exc_xf T) hno hz hf he hb
def xfG (a : Addr) (cls : Value) (d : Option Addr) (C : Addr) (f : Str) (x : V) (H1 : Hp) (Q : VK) : Prop := x = .ref a ∧ cls = .ref C ∧ ∃ (dd : Addr) (fs : List (Str × V)) (v : V), d = some dd ∧ H1 dd = some (.xd fs) ∧ fs.lookup f = some v ∧ Q v H1
instance : Go (tXf a cls d C f te σ H Q) (te σ H fun x H1 => xfG a cls d C f x H1 Q) := ⟨fun k => k⟩
theorem xf_of {dd : Addr} {fs : List (Str × V)} [h : XD H dd fs] (k : ∃ v, fs.lookup f = some v ∧ Q v H) : xfG a (.ref C) (some dd) C f (.ref a) H Q := by
  obtain ⟨v, e, q⟩ := k
  exact ⟨rfl, rfl, dd, fs, v, rfl, h.xd, e, q⟩
end
end U

namespace PySem.W
open PySem PySem.Calls PyProof.Rows
/-- the heap without what stands at a -/
noncomputable def without (a : Addr) (h : Heap) : Heap := L2.hidT h fun b => if b = a then some (.lst []) else none
theorem without_of {a b : Addr} {h : Heap} {o : Obj} (e : (without a h).get? b = some o) : h.get? b = some o ∧ b ≠ a := by
  obtain ⟨h1, h2⟩ := L2.of_hidT e
  refine ⟨h1, fun z => ?_⟩
  rw [if_pos z] at h2
  cases h2
theorem without_at {a b : Addr} {h : Heap} {o : Obj} (e : h.get? b = some o) (n : b ≠ a) : (without a h).get? b = some o := L2.hidT_get e (if_neg n)
theorem without_no {a : Addr} {h : Heap} : (without a h).get? a = none := by
  cases e : (without a h).get? a with
  | none => rfl
  | some o => exact absurd rfl (without_of e).2
/-- sorted is list.sort on a new list: of a list, of a tuple -/
theorem sorted_of_seq {prog : Program} {w : World} {A : Around} {E : Value → Shared → Prop} {s : Shared} {l : Addr} {T : String} {o : Obj} {items : Array Value} {n : Nat} {kw : List (Str × Value)} {Q : Value → Shared → Prop} (hT : T = "list" ∨ T = "tuple")
    (ho : s.heap.get? l = some o) (hc : o.cls = .type T) (hd : o.data = .seq items n) (hL : items.size ≤ sizeLine) (ha1 : argsOk "sorted" ⟨[.ref l], kw⟩) (ha2 : ∀ x, argsOk "list.sort" ⟨[.ref x], kw⟩)
    (body : ∀ (E' : Value → Shared → Prop) (h' : Heap), (∀ b o', s.heap.get? b = some o' → h'.get? b = some o') → wpAny (model prog w) A.in1.in1 (Builtin.«list.sort» ⟨[.ref h'.objs.size], kw⟩) (fun f s' => f = .done (.ret .none) ∧ Q (.ref h'.objs.size) s') E' { s with heap := h'.push (seqObj "list" items.toList.toArray 0) }) :
    wpAny (model prog w) A (call (.builtin "sorted") [.ref l] kw) Q E s := by
  refine call_function_entry_kw kind_sorted plain_sorted entry_sorted ha1 ?_
  unfold Builtin.«sorted»
  refine wpAny_bind (m := checkCount "sorted" 1 1 _) (wpAny_pure ?_)
  refine wpAny_bind (wpAny_collect_seq l hT ho hc hd (fun h' k => ?_) hL)
  refine wpAny_bind (wpAny_newList ?_ (by rw [Array.length_toList]; exact hL))
  show wpAny _ _ _ _ _ { s with heap := h'.push (seqObj "list" items.toList.toArray 0) }
  refine wpAny_bind (wpAny_holding (wpAny_call_entry_kw slot_list_sort ⟨_, Heap.get?_push_size _ rfl, rfl⟩ entry_list_sort ?body (ha2 _)))
  case body =>
    show wpAny (model prog w) A.in1.in1 (Builtin.«list.sort» ⟨[.ref h'.objs.size], kw⟩) _ _ _
    refine wpAny_mono (body _ h' k) (fun f s' hf => ?_) fun _ _ e => e
    obtain ⟨rfl, hq⟩ := hf
    exact ⟨_, rfl, wpAny_pure ⟨_, rfl, hq⟩⟩
end PySem.W
namespace U
variable [QN]
open PySem PySem.Spec PyProof.Rows L2
open SX (S)
/-! ### data stay data -/
section
variable {K : PySem.W.Frag} {H H' : Hp}
mutual
theorem dp_up (k : Kp H H') : ∀ (d : PyData) (v : V), Dp K H v d → Dp K H' v d
  | .none, _, h => by
    cases h
    exact .non
  | .bool b, _, h => by
    cases h
    exact .bl b
  | .int i, _, h => by
    cases h
    exact .int i
  | .str x, _, h => by
    cases h
    exact .str x
  | .list ds, _, h => by
    cases h with
    | lst hs ha => exact .lst (ex_l k hs) (dp_ups k ds _ ha)
  | .tuple ds, _, h => by
    cases h with
    | tup hs ha => exact .tup (ex_t k hs) (dp_ups k ds _ ha)
  | .dict _, _, h => by cases h
theorem dp_ups (k : Kp H H') : ∀ (ds : List PyData) (vs : List V), DpAll K H vs ds → DpAll K H' vs ds
  | [], _, h => by
    cases h
    exact .nil
  | d :: ds, _, h => by
    cases h with
    | cons h1 h2 => exact .cons (dp_up k d _ h1) (dp_ups k ds _ h2)
end
theorem dp_snoc {v : V} {d : PyData} (h : Dp K H v d) : ∀ {vs : List V} {ds : List PyData}, DpAll K H vs ds → DpAll K H (vs ++ [v]) (ds ++ [d])
  | _, _, .nil => .cons h .nil
  | _, _, .cons h1 h2 => .cons h1 (dp_snoc h h2)
theorem dp_each {X : Cx} {pins : List (Addr × Obj)} {σ : L2.St} {s : Shared} (I : Inv X pins σ H s) : ∀ {vs : List V} {us : List Value} {ds : List PyData}, DpAll X.K H vs ds → Vals vs us → PySem.W.EachIs (fun u d => ∃ as, Reads s.heap u d as) us ds
  | _, _, _, .nil, .nil => .nil
  | _, _, _, .cons h1 h2, .cons r1 r2 => .cons (Dp.reads I _ _ _ h1 r1) (dp_each I h2 r2)
theorem dp_len : ∀ {vs : List V} {ds : List PyData}, DpAll K H vs ds → vs.length = ds.length
  | _, _, .nil => rfl
  | _, _, .cons _ h => congrArg Nat.succ (dp_len h)
end
/-! ### two untracked records changed, one of them tracked from now on -/
theorem inv_take2 {X : Cx} {pins : List (Addr × Obj)} {σ : L2.St} {H : Hp} {s : Shared} {h' : Heap} {t' : Nat} {it k2 : Addr} {o : HO} (I : Inv X pins σ H s) (k : ∀ b ob, b ≠ it → b ≠ k2 → s.heap.get? b = some ob → h'.get? b = some ob) (f : FpOk X pins H it) (f2 : FpOk X pins H k2)
    (new : ObjOk X.prog X.w (upd H it o) h' it o) (hne : k2 ≠ it) : Inv X pins σ (upd H it o) { s with heap := h', toks := t' } := by
  obtain ⟨hn, hL, _, h1, h2, h3⟩ := f
  obtain ⟨gn, gL, _, g1, g2, g3⟩ := f2
  have nit : ∀ b u, H b = some u → b ≠ it := fun b u e z => by rw [z, hn] at e; cases e
  have nk : ∀ b u, H b = some u → b ≠ k2 := fun b u e z => by rw [z, gn] at e; cases e
  have up : ∀ b u, H b = some u → upd H it o b = some u := fun b u e => by rw [upd_ne (nit b u e)]; exact e
  have ch : ∀ b, b ∉ [it, k2] → b ≠ it ∧ b ≠ k2 := fun b hb => ⟨fun z => hb (by simp [z]), fun z => hb (by simp [z])⟩
  refine I.step (g' := s.gens) (d' := s.drawn) (ch := [it, k2]) (fun b hb => ?_) (fun b ob _ _ hc e _ => k b ob (ch b hc).1 (ch b hc).2 e) (fun b ob _ _ hc e _ => ⟨ob.slots, k b ob (ch b hc).1 (ch b hc).2 e⟩)
    (fun b ob hc _ n => by rw [upd_ne (ch b hc).1]; exact n) (fun b ob hc e => ⟨ob, k b ob (ch b hc).1 (ch b hc).2 e⟩) (fun b _ e => up b _ e) (fun b _ _ e => up b _ e) (fun b ps e => ⟨#[], by rw [up b _ e]; simp⟩) (fun m hm => ?_) (fun b u e => ?_) I.bare
  · have e : b = it ∨ b = k2 := by simpa using hb
    rcases e with e | e <;> subst e
    · exact ⟨h1, hL, h2, h3⟩
    · exact ⟨g1, gL, g2, g3⟩
  · obtain ⟨ob, es, ep, ho, r⟩ := hm
    exact ⟨ob, es, ep, k _ ob (Ne.symm hL) (Ne.symm gL) ho, r⟩
  · by_cases hb : b = it
    · rw [hb, upd_same] at e
      cases e
      rw [hb]
      exact new
    · rw [upd_ne hb] at e
      refine (I.hok b u e).stay (fun c v hc q => k c v ?_ ?_ q) (fun c q => up c _ q) fun c _ q => up c _ q
      · rcases hc with z | z
        · rw [z]; exact hb
        · exact nit c _ z
      · rcases hc with z | z
        · rw [z]; exact nk b u e
        · exact nk c _ z
/-! ### list.sort by a key -/
open PySem.W in
theorem each_vals : ∀ {xs : List V} {vs : List Value} {kz : List PyData}, Vals xs vs → xs.length = kz.length → EachIs (fun (v : Value) (z : V × PyData) => RelV z.1 v) vs (xs.zip kz)
  | _, _, [], .nil, _ => .nil
  | _, _, _ :: _, .nil, h => by simp at h
  | _, _, [], .cons _ _, h => by simp at h
  | _, _, d :: ds, .cons r1 r2, h => .cons r1 (each_vals r2 (by simpa using h))
open PySem.W in
theorem vals_each : ∀ {zs : List (V × PyData)} {vs : List Value}, EachIs (fun (v : Value) (z : V × PyData) => RelV z.1 v) vs zs → Vals (zs.map (·.1)) vs
  | _, _, .nil => .nil
  | _, _, .cons r1 r2 => .cons r1 (vals_each r2)
/-- the values sorted, as told by their keys -/
noncomputable def sortedBy (b : Bool) (xs : List V) (kz : List PyData) : List V := ((xs.zip kz).mergeSort (PySem.W.dataLe b (·.2))).map (·.1)
theorem sortedBy_len {b : Bool} {xs : List V} {kz : List PyData} (h : xs.length = kz.length) : (sortedBy b xs kz).length = xs.length := by
  unfold sortedBy
  rw [List.length_map, List.length_mergeSort, List.length_zip, ← h, Nat.min_self]
section
variable {X : Cx} {pins : List (Addr × Obj)} {σ : L2.St} {H : Hp} {s : Shared} {E : Value → Shared → Prop}
open PySem.W in
/-- what a key's call does, over any heap that knows all that H knows -/
def KeyT (X : Cx) (σ : L2.St) (pins : List (Addr × Obj)) (H : Hp) (f : Addr) (xs : List V) (kz : List PyData) : Prop :=
  ∀ (v : V) (d : PyData), (v, d) ∈ xs.zip kz → ∀ (pins' : List (Addr × Obj)) (H' : Hp) (s' : Shared) (u : Value), (∀ p ∈ pins, p ∈ pins') → Inv X pins' σ H' s' → Kp H H' → RelV v u →
    wpAny (model X.prog X.w) X.A.in1.in1 (call (.ref f) [u]) (fun u' s'' => ∃ kv H'', Inv X pins' σ H'' s'' ∧ RelV kv u' ∧ Kp H' H'' ∧ Dp X.K H'' kv d) (fun _ _ => False) s'
open PySem.W in
theorem keyI_rest {P : PySem.Fin → Shared → Prop} {a kS f : Addr} {b : Bool} {e1 : Nat} {xs : List V} {vs : List Value} {kz : List PyData} (I : Inv X (pins ++ [(kS, seqObj "list" #[] 0), (a, seqObj "list" #[] e1)]) σ H s) (hka : kS ≠ a)
    (fk : FpOk X pins H kS) (fa : FpOk X pins H a) (rv : Vals xs vs) (hlen : xs.length = kz.length) (hZ : vs.length ≤ sizeLine) (hal : AllAlike kz) (hsk : Sortable kz) (hu : ∀ d, d ∈ kz → X.A.units + 2 + d.depth < cLine)
    (turn : KeyT X σ pins H f xs kz)
    (h : ∀ s' H', Inv X pins σ (upd H' a (.lst (sortedBy b xs kz))) s' → Kp H H' → H' a = none → P (.done (.ret .none)) s') :
    wpAny (model X.prog X.w) X.A.in1.in1 (ksk_rest a (.ref f) b vs.toArray e1 (.ref kS)) P E s := by
  have hl2 : vs.length = xs.length := (Vals.length rv).symm
  unfold ksk_rest
  refine wpAny_bind (wpAny_rule ?_)
  first
    | rw [List.forIn_toArray]
    | (rw [← Array.forIn_toList]; simp only [List.toList_toArray])
    | rw [← Array.forIn_toList]
  refine wpAny_bind (ksk_fold (fun i s' => ∃ H' kA e kvs, Inv X (pins ++ [(kS, seqObj "list" kA e), (a, seqObj "list" #[] e1)]) σ H' s' ∧ Kp H H' ∧ Vals kvs kA.toList ∧ DpAll X.K H' kvs (kz.take i)) vs 0 s
    ⟨H, #[], 0, [], I, kp_rfl, .nil, by rw [List.take_zero]; exact .nil⟩ ?step ?done)
  case step =>
    rintro j x s' hx ⟨H', kA, e, kvs, I1, kp, rk, hk⟩
    simp only [Nat.zero_add] at hk ⊢
    have hj : j < vs.length := (List.getElem?_eq_some_iff.mp hx).1
    obtain ⟨v, hv, rvx⟩ : ∃ v, xs[j]? = some v ∧ RelV v x := by
      have h1 : xs[j]? = some xs[j] := List.getElem?_eq_getElem (by omega)
      obtain ⟨u, h2, h3⟩ := rv.get h1
      rw [hx] at h2
      cases h2
      exact ⟨_, h1, h3⟩
    obtain ⟨d, hd⟩ : ∃ d, kz[j]? = some d := ⟨_, List.getElem?_eq_getElem (by omega)⟩
    have hm : (v, d) ∈ xs.zip kz := List.mem_of_getElem? (i := j) (by rw [List.getElem?_zip_eq_some]; exact ⟨hv, hd⟩)
    have hz : kA.size ≤ vs.length := by
      have h1 := dp_len hk
      rw [List.length_take] at h1
      have h2 : kvs.length = kA.toList.length := Vals.length rk
      have h3 : kA.toList.length = kA.size := Array.length_toList
      have h4 : min j kz.length ≤ j := Nat.min_le_left _ _
      rw [← h3, ← h2, h1]
      exact Nat.le_of_lt (Nat.lt_of_le_of_lt h4 hj)
    refine wpAny_bind (wpAny_attempt (wpAny_mono (turn v d hm _ H' s' x (fun p hp => List.mem_append_left _ hp) I1 kp rvx) (fun u s'' he => ?_) fun _ _ hF => hF.elim))
    obtain ⟨kv, H2, I2, rkv, kp2, hdp⟩ := he
    try dsimp only
    have nk := I2.pin (kS, seqObj "list" kA e) (by simp)
    have na := I2.pin (a, seqObj "list" #[] e1) (by simp)
    have s1 := Heap.SameBut.update s''.heap kS (Obj.mapSeq (·.push u))
    obtain ⟨c2, hc2⟩ : ∃ c2, (s''.heap.update kS (Obj.mapSeq (·.push u))).get? kS = some (seqObj "list" (kA.push u) c2) := ⟨_, get?_update_seq nk.1 (·.push u)⟩
    have ek : kz.take (j + 1) = kz.take j ++ [d] := by rw [List.take_add_one, hd]; simp
    have ea : (kA.push u).toList = kA.toList ++ [u] := by simp
    refine wpAny_bind (listUpdate_at nk.1 rfl ?_ (Nat.le_trans hz hZ) (Nat.le_trans (Nat.le_of_eq (Array.size_push ..)) (Nat.succ_le_succ (Nat.le_trans hz hZ))))
    have J0 : Inv X (pins ++ [(a, seqObj "list" #[] e1)]) σ H2 s'' := I2.pins_of fun p hp => I2.pin p (by
      simp only [List.mem_append, List.mem_cons, List.not_mem_nil, or_false] at hp ⊢
      rcases hp with hp | hp
      · exact .inr (.inl hp)
      · exact .inr (.inr (.inr hp)))
    have J1 : Inv X (pins ++ [(a, seqObj "list" #[] e1)]) σ H2 { s'' with heap := s''.heap.update kS (Obj.mapSeq (·.push u)), toks := s''.toks } := by
      refine J0.turned (it := kS) (fun b o hb q => (s1.2 b hb).trans q) nk.2.1 fk.2.1 fk.2.2.2.1 fk.2.2.2.2.1 fun p hp => ?_
      simp only [List.mem_append, List.mem_cons, List.not_mem_nil, or_false] at hp
      rcases hp with hp | hp | hp
      · exact fk.2.2.2.2.2 p (List.mem_append_left _ hp)
      · exact fk.2.2.2.2.2 p (List.mem_append_right _ hp)
      · rw [hp]
        exact Ne.symm hka
    have J2 : Inv X (pins ++ [(kS, seqObj "list" (kA.push u) c2), (a, seqObj "list" #[] e1)]) σ H2 { s'' with heap := s''.heap.update kS (Obj.mapSeq (·.push u)), toks := s''.toks } := J1.pins_of fun p hp => by
      simp only [List.mem_append, List.mem_cons, List.not_mem_nil, or_false] at hp
      rcases hp with hp | hp | hp
      · exact J1.pin p (by simp [hp])
      · rw [hp]
        exact ⟨hc2, nk.2.1, fk.2.1, fk.2.2.1, fun v z => nomatch z⟩
      · rw [hp]
        exact J1.pin _ (by simp)
    refine wpAny_pure ⟨rfl, H2, kA.push u, c2, kvs ++ [kv], J2, kp_tr kp kp2, ?_, ?_⟩
    · rw [ea]
      exact rk.append (.cons rkv .nil)
    · rw [ek]
      exact dp_snoc hdp (dp_ups kp2 _ _ hk)
  case done =>
    rintro s' ⟨H', kA, e, kvs, I1, kp, rk, hk⟩
    have e3 : kz.take (0 + vs.length) = kz := List.take_of_length_le (by omega)
    rw [e3] at hk
    have hk' : EachIs (fun v k => ∃ as, Reads s'.heap v k as) kA.toList kz := dp_each I1 hk rk
    have hsz : kA.size = vs.length := by
      have h1 := hk'.length
      rw [Array.length_toList] at h1
      omega
    have nk := I1.pin (kS, seqObj "list" kA e) (by simp)
    have na := I1.pin (a, seqObj "list" #[] e1) (by simp)
    try dsimp only
    refine wpAny_bind (listItems_at nk.1 rfl ?_)
    refine keyH_end (κ := dataKind s'.heap kz) (h₁ := without kS s'.heap) (fun b o _ q => (without_of q).1) without_no nk.1 na.1 hka (SortsAt.data (s := s') hk' hal hsk hu) hsz hZ fun h3 tk3 c k3 n3 => ?_
    have ko : KeyedOut b kz vs (sortVals (dataKind s'.heap kz) b kA.toList vs) := ⟨s'.heap, kA.toList, hal, rfl, hk'⟩
    have hR := keyedOut_each (bs := xs.zip kz) (fun z : V × PyData => z.2) (rev := b) (out := sortVals (dataKind s'.heap kz) b kA.toList vs) (vs := vs) (R := fun v z => RelV z.1 v) (by rw [List.map_snd_zip (by omega)]; exact ko) (each_vals rv hlen)
    have hV : Vals (sortedBy b xs kz) (sortVals (dataKind s'.heap kz) b kA.toList vs) := vals_each hR
    have hzl : (sortedBy b xs kz).length ≤ sizeLine := by rw [sortedBy_len hlen]; omega
    refine h _ H' (inv_take2 (k2 := kS) (it := a) (o := .lst (sortedBy b xs kz)) (h' := h3) (t' := tk3) (I1.pins_of (pins' := pins) fun p hp => I1.pin p (by simp [hp])) (fun b' ob h1 h2 q => k3 b' ob h1 (without_at q h2)) ⟨na.2.1, fa.2⟩ ⟨nk.2.1, fk.2⟩ ?_ hka) kp na.2.1
    exact ⟨hzl, _, c, hV, n3⟩
/-- list.sort on a new list -/
theorem keyI_tree {P : PySem.Fin → Shared → Prop} {a f : Addr} {b : Bool} {n : Nat} {xs : List V} {vs : List Value} {kz : List PyData} (I : Inv X pins σ H s) (fa : FpOk X pins H a) (ho : s.heap.get? a = some (seqObj "list" vs.toArray n)) 
    (rv : Vals xs vs) (hlen : xs.length = kz.length) (hZ : vs.length ≤ sizeLine) (hal : PySem.W.AllAlike kz) (hsk : PySem.W.Sortable kz) (hu : ∀ d, d ∈ kz → X.A.units + 2 + d.depth < cLine)
    (turn : KeyT X σ pins H f xs kz)
    (h : ∀ s' H', Inv X pins σ (upd H' a (.lst (sortedBy b xs kz))) s' → Kp H H' → H' a = none → P (.done (.ret .none)) s') :
    wpAny (model X.prog X.w) X.A.in1.in1 (ksk_tree a (.ref f) b) P E s := by
  have ha : a < s.heap.objs.size := Heap.lt_size ho
  obtain ⟨e1, ho1⟩ : ∃ e1, (s.heap.update a (Obj.mapSeq fun _ => (#[] : Array Value))).get? a = some (seqObj "list" #[] e1) := ⟨_, get?_update_seq ho fun _ => #[]⟩
  have hkS : ((s.heap.update a (Obj.mapSeq fun _ => (#[] : Array Value))).push (seqObj "tuple" vs.toArray 0)).objs.size = s.heap.objs.size + 1 := by rw [size_push', Heap.size_update]
  unfold ksk_tree
  refine wpAny_bind (listItems_at ho rfl ?_)
  refine wpAny_bind (listUpdate_at ho rfl ?_ (by rw [List.size_toArray]; exact hZ) (Nat.zero_le _))
  refine wpAny_bind (seqEpoch_at ho1 rfl ?_)
  refine wpAny_bind (wpAny_newTuple ?_ (by show vs.length ≤ _; exact hZ))
  refine wpAny_bind (wpAny_newList ?_ (Nat.zero_le _))
  refine wpAny_holding ?_
  have s1 := Heap.SameBut.update s.heap a (Obj.mapSeq fun _ => (#[] : Array Value))
  have J0 : Inv X pins σ H { s with heap := s.heap.update a (Obj.mapSeq fun _ => (#[] : Array Value)), toks := s.toks } := I.turned (it := a) (fun b o hb q => (s1.2 b hb).trans q) fa.1 fa.2.1 fa.2.2.2.1 fa.2.2.2.2.1 fa.2.2.2.2.2
  have J1 : Inv X pins σ H { s with heap := ((s.heap.update a (Obj.mapSeq fun _ => (#[] : Array Value))).push (seqObj "tuple" vs.toArray 0)).push (seqObj "list" #[] 0), toks := s.toks } := J0.kept fun b o q => Heap.get?_push_of_some _ (Heap.get?_push_of_some _ q)
  have lk : s.heap.objs.size ≤ ((s.heap.update a (Obj.mapSeq fun _ => (#[] : Array Value))).push (seqObj "tuple" vs.toArray 0)).objs.size := by rw [hkS]; omega
  have fk : FpOk X pins H ((s.heap.update a (Obj.mapSeq fun _ => (#[] : Array Value))).push (seqObj "tuple" vs.toArray 0)).objs.size := I.fpOk lk (I.hok.fresh lk)
  have hka : ((s.heap.update a (Obj.mapSeq fun _ => (#[] : Array Value))).push (seqObj "tuple" vs.toArray 0)).objs.size ≠ a := by rw [hkS]; exact Nat.ne_of_gt (Nat.lt_succ_of_lt ha)
  refine keyI_rest (s := { s with heap := ((s.heap.update a (Obj.mapSeq fun _ => (#[] : Array Value))).push (seqObj "tuple" vs.toArray 0)).push (seqObj "list" #[] 0), toks := s.toks }) (e1 := e1) (J1.pins_of fun p hp => ?_) hka fk fa rv hlen hZ hal hsk hu turn h
  simp only [List.mem_append, List.mem_cons, List.not_mem_nil, or_false] at hp
  rcases hp with hp | hp | hp
  · exact J1.pin p (by simp [hp])
  · rw [hp]
    exact ⟨Heap.get?_push_size _ rfl, fk.1, fk.2.1, fk.2.2.1, fun v z => nomatch z⟩
  · rw [hp]
    exact ⟨Heap.get?_push_of_some _ (Heap.get?_push_of_some _ ho1), fa.1, fa.2.1, fa.2.2.1, fun v z => nomatch z⟩
/-- sorted(xs, key=f, ..) -/
theorem sortedI {Q : VK} {l f : Addr} {b : Bool} {kw : List (Str × Value)} {xs : List V} {kz : List PyData} (I : Inv X pins σ H s) (hl : SqL X.K H l xs ∨ SqT X.K H l xs) (hlen : xs.length = kz.length) (hal : PySem.W.AllAlike kz) (hsk : PySem.W.Sortable kz)
    (hu : ∀ d, d ∈ kz → X.A.units + 2 + d.depth < cLine) (ha1 : argsOk "sorted" ⟨[.ref l], kw⟩) (ha2 : ∀ x, argsOk "list.sort" ⟨[.ref x], kw⟩) (ht : ∀ x, Builtin.«list.sort» ⟨[.ref x], kw⟩ = ksk_tree x (.ref f) b)
    (turn : KeyT X σ pins H f xs kz) (h : ∀ H' p, Kp H H' → H p = none → H' p = none → Q (.ref p) (upd H' p (.lst (sortedBy b xs kz)))) :
    wpAny (model X.prog X.w) X.A (call (.builtin "sorted") [.ref l] kw) (EP X pins σ Q) E s := by
  obtain ⟨T, o, its, n, hT, ho, hc, hd, rv, hz⟩ : ∃ (T : String) (o : Obj) (its : List Value) (n : Nat), (T = "list" ∨ T = "tuple") ∧ s.heap.get? l = some o ∧ o.cls = .type T ∧ o.data = .seq its.toArray n ∧ Vals xs its ∧ xs.length ≤ sizeLine := by
    rcases hl with hl | hl
    · obtain ⟨its, r, pl, hz⟩ := I.list hl
      obtain ⟨o, ho, hc, n, hd⟩ := pl.isList
      exact ⟨_, o, its, n, .inl rfl, ho, hc, hd, r, hz⟩
    · obtain ⟨its, r, pl, hz⟩ := I.tuple hl
      obtain ⟨o, ho, hc, n, hd⟩ := pl
      exact ⟨_, o, its, n, .inr rfl, ho, hc, hd, r, hz⟩
  have hlv := rv.length
  refine PySem.W.sorted_of_seq hT ho hc hd (by rw [List.size_toArray]; omega) ha1 ha2 fun E' h' kp => ?_
  rw [ht]
  simp only [List.toList_toArray]
  have J0 : Inv X pins σ H { s with heap := h', toks := s.toks } := I.kept kp
  have fa : FpOk X pins H h'.objs.size := J0.fpOk (Nat.le_refl _) (J0.hok.fresh (Nat.le_refl _))
  have J : Inv X pins σ H { s with heap := h'.push (seqObj "list" its.toArray 0), toks := s.toks } := J0.kept fun b o q => Heap.get?_push_of_some _ q
  refine keyI_tree (s := { s with heap := h'.push (seqObj "list" its.toArray 0), toks := s.toks }) J fa (Heap.get?_push_size _ rfl) rv hlen (by omega) hal hsk hu turn fun s' H' I' k' hn => ⟨rfl, ?_⟩
  exact ⟨.ref _, _, I', rfl, h H' _ k' fa.1 hn⟩
end
end U

namespace U
variable [QN]
open PySem PySem.Spec PyProof.Rows L2
open SX (S)
/-! ### a def whose code object is known -/
theorem funD_okC {P : Program} {w : World} {K : PySem.W.Frag} {mg : Str → Option Value} {base : Heap} {x qual : Str} {params : Arguments} {body : List Stmt} {scope : Scope} {dvs : List V} {kws : List (Str × V)} {p : He.Defn} {fd : FuncData} {CX : CXT} {N ps : List Str} {k : Nat} {sp : Sp}
    (F : FunD K x qual params body scope dvs kws (He.fAd K p) fd) (S : FnScope N ps scope) (len : ∀ vs H Q E, sp vs H Q E → vs.length = ps.length)
    (hbody : ∀ (cdv : Value) (A : Around) (outer : List Env) (s : Shared) (H : Hp) (vs : List V) (Q : VK) (E : XK), cdv = .ref (He.codeOf K p) → Room k (A.deeper (envOfC qual scope s.heap.objs.size (He.fAd K p) cdv)) → sp vs H Q E →
      ∃ t, PSs (cxOf CX P w K mg base N qual scope (He.fAd K p) cdv A outer s H E) body t ∧ t { nx := fun _ H' => Q .non H', rt := Q } (start N vs) H) : FnOk P w K mg base CX (k + 1) (He.fAd K p) fd ps sp := by
  obtain ⟨oc, od, dV, kV, doc, pm, an, cdv, ct, osl, rfl, lk, hcd, _, _⟩ := F.ex
  obtain ⟨c, hc⟩ := He.codeIn_ref hcd
  have e : He.codeOf K p = c := He.codeOf_eq lk hc
  exact fn_of lk hcd S len fun A outer s H vs Q E hr hsp => hbody cdv A outer s H vs Q E (by rw [hc, e]) hr hsp
/-! ### a lambda called -/
theorem lam_run {CX : CXT} {P : Program} {w : World} {K : PySem.W.Frag} {mg : Str → Option Value} {base : Heap} {k : Nat} {f c' : Addr} {q : Str} {params : Arguments} {body : Expr} {scope : Scope} {pm ctv : Value} {N ps : List Str}
    {A : Around} {outer : List Env} {s : Shared} {H : Hp} {us : List Value} {vs : List V} {Q : VK} {E : XK} {tb : TE}
    (hf : s.heap.get? f = some (PySem.W.kla_obj "<lambda>" q params body scope [] pm c' ctv)) (hcd : ∃ (oc : Obj) (fs : Array Value) (t : Tok), s.heap.get? c' = some oc ∧ oc.data = .fields fs ∧ fs[1]? = some (.str q t))
    (S : FnScope N ps scope) (hr : Room (k + 1) A) (e0 : Env0 P w K mg base A outer s H) (hb : bindArgs (PySem.W.kla_fn "<lambda>" q params body scope [] pm (.ref c') ctv) ⟨us, []⟩ = pure (ps.zip us)) (r : Vals vs us) (hl : vs.length = ps.length)
    (hbody : Room k (A.deeper (envOfC q scope s.heap.objs.size f (.ref c'))) → PE (cxOf CX P w K mg base N q scope f (.ref c') A outer s H E) body tb) (ht : tb (start N vs) H Q) :
    codeAny (model P w) A (.call (.ref f) ⟨us, []⟩) (CR CX outer P w H s Q E) s := by
  have lim : s.heap.NoLimit := e0.mod.nolimit.keeps fun b o e => (e0.bs b o e).1
  have hkind : ∀ y ∈ ps.zip us, scope.names.lookup y.1 = some .local ∨ (scope.names.lookup y.1 = some .cell ∧ ((cellsFrom (s.heap.objs.size + 1) scope.names []).lookup y.1).isSome = true) := fun ⟨n, v⟩ hy => by
    rcases S.par n (List.of_mem_zip hy).1 with q | q
    · exact .inl q
    · exact .inr ⟨q, PySem.W.cellsFrom_some _ _ _ (.inl q)⟩
  obtain ⟨oc, fs, t, h1, h2, h3⟩ := hcd
  refine PySem.W.kla_callFunE hr.depth hf rfl S.co S.gen rfl ⟨c', oc, fs, t, rfl, h1, h2, h3⟩ ?_
  rw [hb]
  refine wpAny_pure ?_
  refine wpAny_newFunctionEnv_cells S.kind hkind fun env he s1 x => ?_
  subst he
  refine ⟨lim.keeps x.toInCall.keep, ?_⟩
  have I : Inv (cxOf CX P w K mg base N q scope f (.ref c') A outer s H E) [] (start N vs) H s1 := inv_start S hr.hd e0 hl r x
  refine PySem.W.kla_codeExpr (wpAny_mono ((hbody (hr.deeper _)).run [] s1 (start N vs) H Q I ht) (fun u s' hs => ?_) fun e s' hs => hs)
  obtain ⟨v, H', J, rv, q⟩ := hs
  exact ⟨v, H', J.os, J.bare, J.base, J.hok, rv, q⟩
/-! ### sorted by a key, as a reading -/
noncomputable def sortG (K : PySem.W.Frag) (b : Bool) (call : V → Hp → VK → Prop) (x : V) (H1 : Hp) (Q : VK) : Prop := ∃ (l : Addr) (xs : List V) (kz : List PyData), x = .ref l ∧ (SqL K H1 l xs ∨ SqT K H1 l xs) ∧ xs.length = kz.length ∧ PySem.W.AllAlike kz ∧ PySem.W.Sortable kz ∧ (∀ d ∈ kz, d.depth ≤ 50) ∧
  (∀ (v : V) (d : PyData), (v, d) ∈ xs.zip kz → ∀ H', Kp H1 H' → call v H' fun kv H'' => Kp H' H'' ∧ Dp K H'' kv d) ∧ ∀ H' p, Kp H1 H' → H1 p = none → H' p = none → Q (.ref p) (upd H' p (.lst (sortedBy b xs kz)))
section
variable {X : Cx} {P : Program} {w : World} {K : PySem.W.Frag} {mg : Str → Option Value} {base : Heap} {k j : Nat} {p pos lpos kpos kpos2 : Pos} {e : Expr} {te tb : TE} {x : Str} {sp : Sp} {n2 : Nat} {p2 : Pos}
/-- sorted(xs, key=f, ..), f a def -/
def rSortF (K : PySem.W.Frag) (mg : Str → Option Value) (x : Str) (sp : Sp) (b : Bool) : List V → List V → Hp → VK → Prop := fun xs zs H Q => ∃ y f, xs = [y] ∧ (∃ t, zs = V.ref f :: t) ∧ mg x = some (.ref f) ∧ sortG K b (fun v H' Q' => sp [v] H' Q' C8.E0) y H Q
theorem key_cal (c : C8.Cal X.prog X.w X.K X.mg X.base k x sp []) (hr : Room j X.A) (hk : k + 2 ≤ j) {pins : List (Addr × Obj)} {σ : L2.St} {H : Hp} {f : Addr} {xs : List V} {kz : List PyData} (hm : X.mg x = some (.ref f))
    (h : ∀ (v : V) (d : PyData), (v, d) ∈ xs.zip kz → ∀ H', Kp H H' → sp [v] H' (fun kv H'' => Kp H' H'' ∧ Dp X.K H'' kv d) C8.E0) : KeyT X σ pins H f xs kz := by
  obtain ⟨f', fd, ps, ds, F, hm', kp, b, d⟩ := c.ex
  cases d
  rw [hm'] at hm
  injection hm with hm
  injection hm with hm
  subst hm
  intro v d hv pins' H' s' u hp I k' rv
  have q := h v d hv H' k'
  have hr2 : Room k X.A.in1.in1 := (show Room (k + 1) X.A.in1 from (show Room (k + 1 + 1) X.A from hr.mono hk).in1).in1
  have r2 : Vals [v] ([u] ++ []) := .cons rv .nil
  have hl : ([u] ++ []).length = ps.length := by rw [← r2.length]; exact F.len _ _ _ _ q
  refine wpAny_call (codeAny_mono (F.run X.A.in1.in1 X.stack s' H' ⟨[u], []⟩ _ _ _ C8.E0 hr2 I.env0.in1.in1 (b s' _ I.kIn hl) r2 q) fun r s'' hq => ?_)
  cases r with
  | error e => exact (show False from hq).elim
  | ok fl =>
    cases fl with
    | ret u =>
      obtain ⟨z, H'', I', rz, q1, q2⟩ := I.after hq
      exact ⟨z, H'', I', rz, q1, q2⟩
    | next => exact False.elim hq
    | brk => exact False.elim hq
    | cont => exact False.elim hq
theorem cr_sortF (c : C8.Cal X.prog X.w X.K X.mg X.base k x sp []) (hr : Room j X.A) (hk : k + 4 ≤ j) (hK : X.K = K := by rfl) : CallRK X (.builtin "sorted") [Str.ofString "key"] (rSortF K X.mg x sp false) := by
  subst hK
  intro pins s σ H vs zs us ws Q I r rz h
  obtain ⟨y, f, rfl, ⟨t, rfl⟩, hm, l, xs, kz, rfl, hq, hlen, hal, hsk, hd, ht, q⟩ := h
  obtain rfl := Vals.ref1 r
  cases rz with
  | cons r1 r2 =>
    obtain rfl : _ = Value.ref f := r1
    rename_i ws
    have e : ([Str.ofString "key"] : List Str).zip (Value.ref f :: ws) = [(Str.ofString "key", Value.ref f)] := by simp
    rw [e]
    refine sortedI (b := false) I hq hlen hal hsk (fun d hd' => ?_) (PyProof.Rows.ksk_s1 _ _) (fun _ => PyProof.Rows.ksk_l1 _ _) (fun a => PyProof.Rows.ksk_t1 f a) (key_cal c hr (by omega) hm ht) q
    have h1 := hd d hd'
    have h2 := hr.un
    omega
/-- sorted(xs, key=lambda y: body) -/
def tSortL (K : PySem.W.Frag) (N : List Str) (b : Bool) (te tb : TE) : TE := fun σ H Q => te σ H fun x H1 => LamX.Tabs QN.tabs H1 ∧ ∀ H2, Kp H1 H2 → sortG K b (fun v H' Q' => tb (start N [v]) H' Q') x H2 Q
theorem key_lam {pins : List (Addr × Obj)} {σ : L2.St} {H : Hp} {f c' : Addr} {q : Str} {params : Arguments} {body : Expr} {scope : Scope} {pm ctv : Value} {N : List Str} {y : Str} {xs : List V} {kz : List PyData} (hr : Room (k + 3) X.A)
    (hf : (f, PySem.W.kla_obj "<lambda>" q params body scope [] pm c' ctv) ∈ pins) (hco : H c' = some (LamX.CodeO c' q)) (S : FnScope N [y] scope) (hb : ∀ (q : Str) (pm cv ctv u : Value), bindArgs (PySem.W.kla_fn "<lambda>" q params body scope [] pm cv ctv) ⟨[u], []⟩ = pure [(y, u)])
    (hbody : ∀ (A : Around) (outer : List Env) (s : Shared) (H : Hp) (f c' : Addr), Room k (A.deeper (envOfC q scope s.heap.objs.size f (.ref c'))) → PE (cxOf C8.CX0 X.prog X.w X.K X.mg X.base N q scope f (.ref c') A outer s H C8.E0) body tb)
    (h : ∀ (v : V) (d : PyData), (v, d) ∈ xs.zip kz → ∀ H', Kp H H' → tb (start N [v]) H' fun kv H'' => Kp H' H'' ∧ Dp X.K H'' kv d) : KeyT X σ pins H f xs kz := by
  intro v d hv pins' H' s' u hp I k' rv
  have q1 := h v d hv H' k'
  have hr2 : Room (k + 1) X.A.in1.in1 := (show Room (k + 2) X.A.in1 from hr.in1).in1
  have hfp := (I.pin _ (List.mem_append_right _ (hp _ hf))).1
  have hc2 : H' c' = some (LamX.CodeO c' q) := k'.a hco LamX.codeO_ne
  obtain ⟨hcd, _, _⟩ := I.hok c' _ hc2
  refine wpAny_call (codeAny_mono (lam_run (CX := C8.CX0) (E := C8.E0) (outer := X.stack) (vs := [v]) (us := [u]) (Q := fun kv H'' => Kp H' H'' ∧ Dp X.K H'' kv d) hfp hcd S hr2 I.env0.in1.in1 (hb _ _ _ _ _) (.cons rv .nil) rfl (fun hr' => hbody _ _ _ _ _ _ hr') q1) fun r s'' hq => ?_)
  cases r with
  | error e => exact (show False from hq).elim
  | ok fl =>
    cases fl with
    | ret u =>
      obtain ⟨z, H'', I', rz, q1, q2⟩ := I.after hq
      exact ⟨z, H'', I', rz, q1, q2⟩
    | next => exact False.elim hq
    | brk => exact False.elim hq
    | cont => exact False.elim hq
/-- what sorted with a lambda does, behind its first argument; kw: the keywords' ends -/
theorem sortL_core {E : Value → Shared → Prop} {pins : List (Addr × Obj)} {σ : L2.St} {H : Hp} {s : Shared} {Q : VK} {b : Bool} {c Pt : Addr} {q : Str} {params : Arguments} {body : Expr} {scope : Scope} {N : List Str} {y : Str} {l : Addr} {R : Value → Shared → Prop}
    (I : Inv X pins σ H s) (TB : LamX.TabB X.base X.mg c Pt) (hcode : X.env.code = .ref c) (hq : X.env.qual ++ "<lambda>" = q) (hT : (Pt, q) ∈ QN.tabs) (hu : ∀ p ∈ QN.tabs, p.1 = Pt → p.2 = q) (hdef : defaultsOf params X.env = ([], []))
    (S : FnScope N [y] scope) (hb : ∀ (q : Str) (pm cv ctv u : Value), bindArgs (PySem.W.kla_fn "<lambda>" q params body scope [] pm cv ctv) ⟨[u], []⟩ = pure [(y, u)]) (hr : Room (k + 3) X.A)
    (hbody : ∀ (A : Around) (outer : List Env) (s : Shared) (H : Hp) (f c' : Addr), Room k (A.deeper (envOfC q scope s.heap.objs.size f (.ref c'))) → PE (cxOf C8.CX0 X.prog X.w X.K X.mg X.base N q scope f (.ref c') A outer s H C8.E0) body tb)
    (hTs : LamX.Tabs QN.tabs H) (h : ∀ H2, Kp H H2 → sortG X.K b (fun v H' Q' => tb (start N [v]) H' Q') (.ref l) H2 Q)
    (g : ∀ (f : Addr) (s' : Shared), wpAny (model X.prog X.w) X.A (call (.builtin "sorted") [.ref l] (if b then [(Str.ofString "key", .ref f), (Str.ofString "reverse", .bool true)] else [(Str.ofString "key", .ref f)])) (EP X pins σ Q) E s' → R (.ref f) s') :
    wpAny (model X.prog X.w) X.A (eval (.Lambda params body scope lpos) X.env) R E s := by
  subst hq
  have hcl : cloFrom X.env.cells scope.names [] = [] := by
    match e : cloFrom X.env.cells scope.names [] with
    | [] => rfl
    | (z, c) :: r =>
      exfalso
      rcases cloFrom_mem (show (z, c) ∈ cloFrom X.env.cells scope.names [] by rw [e]; exact List.mem_cons_self ..) with hm | ⟨h1, h2⟩
      · cases hm
      · exact S.nofree _ h1 rfl
  refine LamX.lam_make2 (T := QN.tabs) I TB hcode hT hu hTs hdef (fun y hy z => absurd z (S.nofree y hy)) fun f c' pm ctv H1 s' I1 eN T1 hf hfn hfr hco => g f s' ?_
  rw [hcl] at hf
  have kp : Kp H H1 := ⟨fun a o _ e n => eN a o e n, fun _ => T1⟩
  obtain ⟨l', xs, kz, el, hsq, hlen, hal, hsk, hd, ht, hq⟩ := h H1 kp
  injection el with el
  subst el
  have nfl : f ≠ X.env.locals := by
    obtain ⟨m, ⟨o, es, ep, ho, hd, _⟩, _⟩ := I1.loc
    intro z
    rw [← z, hf] at ho
    cases ho
    cases hd
  have nfs : f ∉ X.fs := by
    rcases I1.ok.stk with z | ⟨z, _⟩
    · rw [z] at hfr
      exact hfr
    · intro hm
      apply hfr
      rw [z]
      obtain ⟨a, ha, hb⟩ := List.mem_filterMap.mp hm
      exact List.mem_filterMap.mpr ⟨a, List.mem_cons_of_mem _ ha, hb⟩
  have I2 : Inv X (pins ++ [(f, PySem.W.kla_obj "<lambda>" (X.env.qual ++ "<lambda>") params body scope [] pm c' ctv)]) σ H1 s' := I1.pins_of fun p hp => by
    simp only [List.mem_append, List.mem_cons, List.not_mem_nil, or_false] at hp
    rcases hp with hp | hp
    · exact I1.pin p (by simp [hp])
    · rw [hp]
      exact ⟨hf, hfn, nfl, nfs, fun v z => nomatch z⟩
  have kt : KeyT X σ (pins ++ [(f, PySem.W.kla_obj "<lambda>" (X.env.qual ++ "<lambda>") params body scope [] pm c' ctv)]) H1 f xs kz := key_lam hr (List.mem_append_right _ (List.mem_cons_self ..)) hco S hb hbody ht
  have hun : ∀ d, d ∈ kz → X.A.units + 2 + d.depth < cLine := fun d hd' => by
    have h1 := hd d hd'
    have h2 := hr.un
    omega
  refine wpAny_mono (Q := EP X (pins ++ [(f, PySem.W.kla_obj "<lambda>" (X.env.qual ++ "<lambda>") params body scope [] pm c' ctv)]) σ Q) ?_ (fun u s'' ⟨v, H', J, rv, q⟩ => ⟨v, H', J.unpinned, rv, q⟩) fun _ _ e => e
  cases b with
  | false => exact sortedI (b := false) I2 hsq hlen hal hsk hun (PyProof.Rows.ksk_s1 _ _) (fun _ => PyProof.Rows.ksk_l1 _ _) (fun a => PyProof.Rows.ksk_t1 f a) kt hq
  | true => exact sortedI (b := true) I2 hsq hlen hal hsk hun (PyProof.Rows.ksk_s2 _ _ _) (fun _ => PyProof.Rows.ksk_l2 _ _ _) (fun a => PyProof.Rows.ksk_t2 f a true) kt hq
theorem pe_sortL {c Pt : Addr} {q : Str} {params : Arguments} {body : Expr} {scope : Scope} {N : List Str} {y : Str} (hg : Gl X "sorted") (hm : X.mg "sorted" = none) (ha : PA X [e] (tCons te tNil))
    (TB : LamX.TabB X.base X.mg c Pt) (hcode : X.env.code = .ref c) (hT : (Pt, q) ∈ QN.tabs) (hu : ∀ p ∈ QN.tabs, p.1 = Pt → p.2 = q) (hr : Room j X.A) (hk : k + 3 ≤ j)
    (S : FnScope N [y] scope) (hbody : ∀ (A : Around) (outer : List Env) (s : Shared) (H : Hp) (f c' : Addr), Room k (A.deeper (envOfC q scope s.heap.objs.size f (.ref c'))) → PE (cxOf C8.CX0 X.prog X.w X.K X.mg X.base N q scope f (.ref c') A outer s H C8.E0) body tb) (hK : X.K = K := by rfl)
    (hq : X.env.qual ++ "<lambda>" = q := by rfl) (hdef : defaultsOf params X.env = ([], []) := by rfl) (hb : ∀ (q : Str) (pm cv ctv u : Value), bindArgs (PySem.W.kla_fn "<lambda>" q params body scope [] pm cv ctv) ⟨[u], []⟩ = pure [(y, u)] := by intros; rfl) 
    (hs : backTo pos (starEach [e] X.env) = (false, eval e X.env) :: backTo pos (starEach [] X.env) := by rfl) (hpl : (backTo pos (starEach [e] X.env)).any (·.1) = false := by rfl) :
    PE X (.Call (.Name "sorted" p) [e] [⟨some "key", .Lambda params body scope lpos, kpos⟩] pos) (tSortL K N false te tb) := by
  subst hK
  refine ⟨fun pins s σ H Q I h => ?_⟩
  refine wpAny_Call_Name_kw (ld_blt I hg hm PyProof.Rows.boot_sorted ?_ (by decide) (by decide))
  refine PyProof.Rows.callWith_kw (thn (ha.run pos pins s σ H (fun vs H1 => match vs with | [x] => LamX.Tabs QN.tabs H1 ∧ ∀ H2, Kp H1 H2 → sortG X.K false (fun v H' Q' => tb (start N [v]) H' Q') x H2 Q | _ => False) I h) fun us s1 ⟨vs, H1, I1, r1, q1⟩ => ?_) hs hpl rfl rfl
  match vs, r1, q1 with
  | [x], r1, q1 =>
    obtain ⟨u, rfl, ru⟩ := r1.one
    obtain ⟨hTs, q1⟩ := q1
    obtain ⟨l, xs, kz, ex, _⟩ := q1 H1 kp_rfl
    subst ex
    cases (show u = Value.ref l from ru)
    show wpAny _ _ (evalAll ((do let v ← eval (.Lambda params body scope lpos) X.env; standAt pos; pure v) :: [])) _ _ s1
    refine wpAny_evalAll_cons (wpAny_bind (sortL_core (b := false) I1 TB hcode hq hT hu hdef S hb (hr.mono hk) hbody hTs q1 fun f s2 hw => wpAny_bind (wpAny_standAt (wpAny_pure ?_))))
    exact wpAny_evalAll_nil hw
theorem pe_sortLR {c Pt : Addr} {q : Str} {params : Arguments} {body : Expr} {scope : Scope} {N : List Str} {y : Str} {kpos2 p2 : Pos} {n2 : Nat} (hg : Gl X "sorted") (hm : X.mg "sorted" = none) (ha : PA X [e] (tCons te tNil))
    (TB : LamX.TabB X.base X.mg c Pt) (hcode : X.env.code = .ref c) (hT : (Pt, q) ∈ QN.tabs) (hu : ∀ p ∈ QN.tabs, p.1 = Pt → p.2 = q) (hr : Room j X.A) (hk : k + 3 ≤ j)
    (S : FnScope N [y] scope) (hbody : ∀ (A : Around) (outer : List Env) (s : Shared) (H : Hp) (f c' : Addr), Room k (A.deeper (envOfC q scope s.heap.objs.size f (.ref c'))) → PE (cxOf C8.CX0 X.prog X.w X.K X.mg X.base N q scope f (.ref c') A outer s H C8.E0) body tb) (hK : X.K = K := by rfl)
    (hq : X.env.qual ++ "<lambda>" = q := by rfl) (hdef : defaultsOf params X.env = ([], []) := by rfl) (hb : ∀ (q : Str) (pm cv ctv u : Value), bindArgs (PySem.W.kla_fn "<lambda>" q params body scope [] pm cv ctv) ⟨[u], []⟩ = pure [(y, u)] := by intros; rfl) 
    (hs : backTo pos (starEach [e] X.env) = (false, eval e X.env) :: backTo pos (starEach [] X.env) := by rfl) (hpl : (backTo pos (starEach [e] X.env)).any (·.1) = false := by rfl) :
    PE X (.Call (.Name "sorted" p) [e] [⟨some "key", .Lambda params body scope lpos, kpos⟩, ⟨some "reverse", .Constant (.bool true) n2 p2, kpos2⟩] pos) (tSortL K N true te tb) := by
  subst hK
  refine ⟨fun pins s σ H Q I h => ?_⟩
  refine wpAny_Call_Name_kw (ld_blt I hg hm PyProof.Rows.boot_sorted ?_ (by decide) (by decide))
  refine PyProof.Rows.callWith_kw (thn (ha.run pos pins s σ H (fun vs H1 => match vs with | [x] => LamX.Tabs QN.tabs H1 ∧ ∀ H2, Kp H1 H2 → sortG X.K true (fun v H' Q' => tb (start N [v]) H' Q') x H2 Q | _ => False) I h) fun us s1 ⟨vs, H1, I1, r1, q1⟩ => ?_) hs hpl rfl rfl
  match vs, r1, q1 with
  | [x], r1, q1 =>
    obtain ⟨u, rfl, ru⟩ := r1.one
    obtain ⟨hTs, q1⟩ := q1
    obtain ⟨l, xs, kz, ex, _⟩ := q1 H1 kp_rfl
    subst ex
    cases (show u = Value.ref l from ru)
    show wpAny _ _ (evalAll ((do let v ← eval (.Lambda params body scope lpos) X.env; standAt pos; pure v) :: [(do let v ← eval (.Constant (.bool true) n2 p2) X.env; standAt pos; pure v)])) _ _ s1
    refine wpAny_evalAll_cons (wpAny_bind (sortL_core (b := true) I1 TB hcode hq hT hu hdef S hb (hr.mono hk) hbody hTs q1 fun f s2 hw => wpAny_bind (wpAny_standAt (wpAny_pure ?_))))
    refine wpAny_evalAll_cons (wpAny_bind (Constant_bool (wpAny_bind (wpAny_standAt (wpAny_pure ?_)))))
    exact wpAny_evalAll_nil hw
end
end U

namespace HN
open PySem PySem.Spec PyProof.Rows PySem.SeqAt
section
variable {M : Model} {prog : Program} {w : World} {A : Around} {E : Value → Shared → Prop} {s : Shared} {K : PySem.W.Frag} {x C f : Addr} {ox : Obj} {od : Option Obj} {b : Value}
theorem ifBound_objNe {args : List Value} {Q : Option Value → Shared → Prop} (X : K.In s.heap) (I : PySem.W.InstAt s.heap x ox C od) (hs : PySem.W.findIn K (.ref C) "__ne__" = some (some (.builtin "object.__ne__")))
    (h : wpAny M A (call (.builtin "object.__ne__") (.ref x :: args)) (fun v => Q (some v)) E s) : wpAny M A (callSpecialIfBound? (.ref x) "__ne__" args) Q E s := by
  simp only [callSpecialIfBound?, bindSpecialIfBound?]
  refine wpAny_holding (wpAny_bind (wpAny_bind (wpAny_bind (I.type.here ((PySem.W.looks_findIn X hs).here ?_)))))
  refine wpAny_bind (wpAny_askSetting (wpAny_ite ?_))
  have fin : wpAny M A (call (.builtin "object.__ne__") ([.ref x] ++ args) >>= fun v => pure (some v)) Q E s := wpAny_bind (wpAny_mono h (fun v s' h' => wpAny_pure h') fun _ _ h' => h')
  split
  · exact wpAny_bind (wpAny_of_eq (F.cmp_object.ne.bind _) (wpAny_pure (by exact fin)))
  · exact wpAny_tryCatch (wpAny_bind (wpAny_of_eq (F.cmp_object.ne.bind _) (wpAny_pure (by exact fin))))
/-- != by the own == -/
theorem entry_ne {Q : Fin → Shared → Prop} (hu : A.units < cLine) (X : K.In s.heap) (I : PySem.W.InstAt s.heap x ox C od) (hs : PySem.W.findIn K (.ref C) "__eq__" = some (some (.ref f))) (hf : PySem.W.isFn K (.ref f) = true)
    (h : wpAny (model prog w) A (call (.ref f) [.ref x, b]) (fun v s' => ∃ r, v = .bool r ∧ Q (.done (.ret (.bool (!r)))) s') E s) : wpAny (model prog w) A (Builtin.«object.__ne__» ⟨[.ref x, b], []⟩) Q E s := by
  unfold Builtin.«object.__ne__»
  repeat (first
    | with_reducible refine wpAny_cRoomFor hu ?_
    | (refine wpAny_bind (m := callSpecialIfBound? (.ref x) (Str.ofString "__eq__") [b])
        (PySem.W.ifBound_K X I hs hf (wpAny_mono h (fun r s' hr => by
          obtain ⟨b, rfl, hq⟩ := hr
          repeat (first | exact hq | exact wpAny_pure hq | exact wpAny_truthy_bool hq | (refine wpAny_bind (m := truthy (.bool _)) (wpAny_truthy_bool ?_)) | wp_step)) fun _ _ e => e)))
    | wp_step)
theorem rc_ne {tb : Value} {Q : Value → Shared → Prop} (hu : A.units + 1 < cLine) (X : K.In s.heap) (I : PySem.W.InstAt s.heap x ox C od) (hb : PySem.W.Looks (model prog w) s.heap (typeOf b) tb) (hn : PySem.W.notFirst K C tb = true) (hm : PySem.W.mroIn K C (.type "object") = some true)
    (hs : PySem.W.findIn K (.ref C) "__eq__" = some (some (.ref f))) (hf : PySem.W.isFn K (.ref f) = true) (hne : PySem.W.findIn K (.ref C) "__ne__" = some (some (.builtin "object.__ne__")))
    (h : wpAny (model prog w) A.in1 (call (.ref f) [.ref x, b]) (fun v s' => ∃ r, v = .bool r ∧ Q (.bool (!r)) s') E s) : wpAny (model prog w) A (richCompare .NotEq (.ref x) b) Q E s := by
  have one : wpAny (model prog w) A (tryCompare (.ref x) "__ne__" b) (fun r s' => ∃ v, r = some v ∧ Q v s') E s := by
    unfold tryCompare
    refine wpAny_bind (ifBound_objNe X I hne (wpAny_call (codeAny_call_builtin F.cmp_object.ne.plain F.cmpEntry_ne (PySem.W.check_slot F.cmpKind_ne F.cmpSplit_ne (I.type.andThen (PySem.W.looks_mroIn X hm)) (F.cmpArgs_ne _ _)
      (entry_ne (A := A.in1) hu X I hs hf (wpAny_mono h (fun v s' hv => ?_) fun _ _ e => e))))))
    obtain ⟨r, rfl, hq⟩ := hv
    exact ⟨r, rfl, wpAny_pure ⟨_, rfl, hq⟩⟩
  unfold richCompare
  simp only [oneThing_ref]
  refine wpAny_holding (wpAny_bind (wpAny_cRoomFor (Nat.lt_of_succ_lt hu) ?_))
  rw [cmpInfo_NotEq]
  dsimp only
  refine wpAny_bind (I.type.here (wpAny_bind (hb.here ?_)))
  split
  · rename_i q
    have e : PySem.W.subIn K tb (.ref C) = some false := by
      rcases Bool.or_eq_true_iff.mp hn with e | e
      · rw [beq_iff_eq.mp e] at q; simp at q
      · exact beq_iff_eq.mp e
    refine wpAny_bind ((PySem.W.looks_subIn X e).here ?_)
    simp only [Bool.false_eq_true, if_false]
    refine wpAny_bind (wpAny_mono one (fun r s' z => ?_) fun _ _ e => e)
    obtain ⟨v, rfl, hq⟩ := z
    exact wpAny_pure hq
  · refine wpAny_bind (wpAny_pure ?_)
    simp only [Bool.false_eq_true, if_false]
    refine wpAny_bind (wpAny_mono one (fun r s' z => ?_) fun _ _ e => e)
    obtain ⟨v, rfl, hq⟩ := z
    exact wpAny_pure hq
end
end HN
namespace U
variable [QN]
open PySem PySem.Spec PyProof.Rows L2
open SX (S)
/-! ### data compared -/
def rLtD (K : PySem.W.Frag) (f : PyData → PyData → Bool) : R2 := fun x y H Q => ∃ d e, Dp K H x d ∧ Dp K H y e ∧ PySem.W.alike d e = true ∧ d ≠ .none ∧ d.depth ≤ 40 ∧ Q (.bl (f d e)) H
section
variable {X : Cx} {K : PySem.W.Frag} {H : Hp} {Q : VK} {x y : V} {G : Prop}
def uLtD (K : PySem.W.Frag) : R2 := fun x y H Q => uLt x y H Q ∨ rLtD K PySem.W.dataLt x y H Q
def uGtD (K : PySem.W.Frag) : R2 := fun x y H Q => uGt x y H Q ∨ rLtD K (fun d e => PySem.W.dataLt e d) x y H Q
def uLeD (K : PySem.W.Frag) : R2 := fun x y H Q => uLe x y H Q ∨ rLtD K (fun d e => !PySem.W.dataLt e d) x y H Q
def uGeD (K : PySem.W.Frag) : R2 := fun x y H Q => uGe x y H Q ∨ rLtD K (fun d e => !PySem.W.dataLt d e) x y H Q
theorem dpt {n k : Nat} (hu : X.A.units + 64 < cLine) (h : n ≤ 40) : X.A.units + min n k < cLine := by omega
theorem ou_ltD (hu : X.A.units + 64 < cLine) (hK : X.K = K := by rfl) : OpR X (compareOp .Lt) (uLtD K) := by
  subst hK
  refine ou_lt.or ?_
  intro pins s σ H x y v u Q I rx ry h
  obtain ⟨d, e, h1, h2, al, hn, hd, q⟩ := h
  obtain ⟨as, r1⟩ := Dp.reads I d x v h1 rx
  obtain ⟨bs, r2⟩ := Dp.reads I e y u h2 ry
  exact PySem.W.lt_data r1 r2 al hn (dpt hu hd) ⟨.bl _, H, I, rfl, q⟩
theorem ou_gtD (hu : X.A.units + 64 < cLine) (hK : X.K = K := by rfl) : OpR X (compareOp .Gt) (uGtD K) := by
  subst hK
  refine ou_gt.or ?_
  intro pins s σ H x y v u Q I rx ry h
  obtain ⟨d, e, h1, h2, al, hn, hd, q⟩ := h
  obtain ⟨as, r1⟩ := Dp.reads I d x v h1 rx
  obtain ⟨bs, r2⟩ := Dp.reads I e y u h2 ry
  exact PySem.W.gt_data r1 r2 al hn (dpt hu hd) ⟨.bl _, H, I, rfl, q⟩
theorem ou_leD (hu : X.A.units + 64 < cLine) (hK : X.K = K := by rfl) : OpR X (compareOp .LtE) (uLeD K) := by
  subst hK
  refine ou_le.or ?_
  intro pins s σ H x y v u Q I rx ry h
  obtain ⟨d, e, h1, h2, al, hn, hd, q⟩ := h
  obtain ⟨as, r1⟩ := Dp.reads I d x v h1 rx
  obtain ⟨bs, r2⟩ := Dp.reads I e y u h2 ry
  exact PySem.W.le_data r1 r2 al hn (dpt hu hd) ⟨.bl _, H, I, rfl, q⟩
theorem ou_geD (hu : X.A.units + 64 < cLine) (hK : X.K = K := by rfl) : OpR X (compareOp .GtE) (uGeD K) := by
  subst hK
  refine ou_ge.or ?_
  intro pins s σ H x y v u Q I rx ry h
  obtain ⟨d, e, h1, h2, al, hn, hd, q⟩ := h
  obtain ⟨as, r1⟩ := Dp.reads I d x v h1 rx
  obtain ⟨bs, r2⟩ := Dp.reads I e y u h2 ry
  exact PySem.W.ge_data r1 r2 al hn (dpt hu hd) ⟨.bl _, H, I, rfl, q⟩
instance (priority := 900) [g : Go (uLt x y H Q) G] : Go (uLtD K x y H Q) G := ⟨fun k => .inl (g.go k)⟩
instance (priority := 900) [g : Go (uGt x y H Q) G] : Go (uGtD K x y H Q) G := ⟨fun k => .inl (g.go k)⟩
instance (priority := 900) [g : Go (uLe x y H Q) G] : Go (uLeD K x y H Q) G := ⟨fun k => .inl (g.go k)⟩
instance (priority := 900) [g : Go (uGe x y H Q) G] : Go (uGeD K x y H Q) G := ⟨fun k => .inl (g.go k)⟩
/-! data, by classes -/
class DP (K : PySem.W.Frag) (H : Hp) (v : V) (d : outParam PyData) : Prop where
  dp : Dp K H v d
class DPs (K : PySem.W.Frag) (H : Hp) (vs : List V) (ds : outParam (List PyData)) : Prop where
  dp : DpAll K H vs ds
variable {vs : List V} {ds es : List PyData} {d e : PyData} {v : V} {p q : Addr} {a : List Nat} {i : Int} {b : Bool}
instance : DP K H .non .none := ⟨.non⟩
instance : DP K H (.int i) (.int i) := ⟨.int i⟩
instance : DP K H (.bl b) (.bool b) := ⟨.bl b⟩
instance : DP K H (.str (S a)) (.str (S a)) := ⟨.str _⟩
instance : DPs K H [] [] := ⟨.nil⟩
instance [h : DP K H v d] [g : DPs K H vs ds] : DPs K H (v :: vs) (d :: ds) := ⟨.cons h.dp g.dp⟩
theorem dpa_tx (l : List (List Nat)) : DpAll K H (l.map tx) (l.map fun a => PyData.str (S a)) := by
  induction l with
  | nil => exact .nil
  | cons a l ih => exact .cons (.str _) ih
instance {l : List (List Nat)} : DPs K H (l.map tx) (l.map fun a => PyData.str (S a)) := ⟨dpa_tx l⟩
instance [h : TR K H p vs] [g : DPs K H vs ds] : DP K H (.ref p) (.tuple ds) := ⟨.tup h.tr g.dp⟩
instance (priority := 1100) [h : LR K H p vs] [g : DPs K H vs ds] : DP K H (.ref p) (.list ds) := ⟨.lst h.lr g.dp⟩
theorem eqD_of [h1 : DP K H (.ref p) d] [h2 : DP K H (.ref q) e] (s1 : SeqAt.shaped d = true) (s2 : SeqAt.shaped e = true) (k : Q (.bl (PyData.eqv d e)) H) : uEq K (.ref p) (.ref q) H Q := .inr ⟨d, e, h1.dp, h2.dp, s1, s2, k⟩
theorem neD_of [h1 : DP K H (.ref p) d] [h2 : DP K H (.ref q) e] (s1 : SeqAt.shaped d = true) (s2 : SeqAt.shaped e = true) (k : Q (.bl (!PyData.eqv d e)) H) : uNe K (.ref p) (.ref q) H Q := .inr ⟨d, e, h1.dp, h2.dp, s1, s2, k⟩
end
/-! ### == and != by the class's own __eq__ -/
structure OwnNe (K : PySem.W.Frag) (C : Addr) : Prop where
  ne : PySem.W.findIn K (.ref C) "__ne__" = some (some (.builtin "object.__ne__"))
  ob : PySem.W.mroIn K C (.type "object") = some true
  ha : PySem.W.findIn K (.ref C) "__class__" = some (some (.builtin "object.__class__"))
  hn : PySem.W.specialIn K (.builtin "object.__class__") "__get__" = some (some (.builtin "getset_descriptor.__get__"))
  ht : PySem.W.takesIn K (.builtin "object.__class__") = some true
  kz : ((PySem.W.clsIn K C).isSome && PySem.W.typeIn K (.ref C) == some (.type "type")) = true
omit [QN] in
theorem ownNeB_ok {K : PySem.W.Frag} {C : Addr} (h : ownNeB K C = true) : OwnNe K C := by
  unfold ownNeB at h
  obtain ⟨h1, h⟩ := He.ba h
  obtain ⟨h2, h⟩ := He.ba h
  obtain ⟨h3, h⟩ := He.ba h
  obtain ⟨h4, h⟩ := He.ba h
  obtain ⟨h5, h6⟩ := He.ba h
  exact ⟨of_decide_eq_true h1, of_decide_eq_true h2, of_decide_eq_true h3, of_decide_eq_true h4, of_decide_eq_true h5, h6⟩
def rEqO (C : Addr) (sp : Sp) (neg : Bool) : R2 := fun x y H Q => ∃ a b dx dy fs gs, x = .ref a ∧ y = .ref b ∧ H a = some (.ins C dx fs) ∧ H b = some (.ins C dy gs) ∧ sp [.ref a, .ref b] H (fun v H' => ∃ r, v = .bl r ∧ Q (.bl (neg ^^ r)) H') C8.E0
section
variable {X : Cx} {K : PySem.W.Frag} {H : Hp} {Q : VK} {x y : V} {G : Prop} {C : Addr} {sp : Sp} {k j : Nat} {p q : Addr} {dx dy : Addr} {fs gs : List (Str × V)}
def uEqO (K : PySem.W.Frag) (C : Addr) (sp : Sp) : R2 := fun x y H Q => uEq K x y H Q ∨ rEqO C sp false x y H Q
def uNeO (K : PySem.W.Frag) (C : Addr) (sp : Sp) : R2 := fun x y H Q => uNe K x y H Q ∨ rEqO C sp true x y H Q
theorem ou_eqO (hu : X.A.units + 64 < cLine) (c : C8.Met X.prog X.w X.K X.mg X.base k C "__eq__" sp []) (hr : Room j X.A) (hk : k ≤ j) (hK : X.K = K := by rfl) : OpR X (compareOp .Eq) (uEqO K C sp) := by
  subst hK
  refine (ou_eq hu).or ?_
  obtain ⟨f, fd, ps, ds, hc, hm, F, b, d⟩ := c.ex
  cases d
  intro pins s σ H x y v u Q I rx ry h
  obtain ⟨a, b', dx, dy, fs, gs, rfl, rfl, ha, hb, q⟩ := h
  cases rx
  cases ry
  obtain ⟨mA, J, _⟩ := ins_get I.hok ha
  obtain ⟨mB, J', _⟩ := ins_get I.hok hb
  obtain ⟨od, J, _⟩ := J.look
  obtain ⟨od', J', _⟩ := J'.look
  obtain ⟨m, hF⟩ := I.fr
  show wpAny (model X.prog X.w) X.A (richCompare .Eq (.ref a) (.ref b')) (EP X pins σ Q) X.xe s
  refine PySem.W.cmp_K (op := .Eq) (tb := .ref C) hr.units0 hF I.ok.mod.kin J J'.type (by simp [PySem.W.notFirst]) hm.at_ hm.fn ?_
  have r2 : Vals [V.ref a, V.ref b'] ([Value.ref a, Value.ref b'] ++ []) := .cons rfl (.cons rfl .nil)
  have hl : ([Value.ref a, Value.ref b'] ++ []).length = ps.length := by rw [← r2.length]; exact F.len _ _ _ _ q
  refine wpAny_call (codeAny_mono (F.run X.A X.stack s H ⟨[.ref a, .ref b'], []⟩ _ _ _ C8.E0 (hr.mono hk) I.env0 (b s _ I.kIn hl) r2 q) fun r s' hq => ?_)
  cases r with
  | error e => exact (show False from hq).elim
  | ok fl =>
    cases fl with
    | ret w =>
      obtain ⟨z, H', I', rz, r, ez, qz⟩ := I.after hq
      subst ez
      cases rz
      exact ⟨.bl _, H', I', rfl, by rw [Bool.false_xor] at qz; exact qz⟩
    | next => exact False.elim hq
    | brk => exact False.elim hq
    | cont => exact False.elim hq
theorem ou_neO (hu : X.A.units + 64 < cLine) (c : C8.Met X.prog X.w X.K X.mg X.base k C "__eq__" sp []) (o : OwnNe X.K C) (hr : Room j X.A) (hk : k + 1 ≤ j) (hK : X.K = K := by rfl) : OpR X (compareOp .NotEq) (uNeO K C sp) := by
  subst hK
  refine (ou_ne hu).or ?_
  obtain ⟨f, fd, ps, ds, hc, hm, F, b, d⟩ := c.ex
  cases d
  intro pins s σ H x y v u Q I rx ry h
  obtain ⟨a, b', dx, dy, fs, gs, rfl, rfl, ha, hb, q⟩ := h
  cases rx
  cases ry
  obtain ⟨mA, J, _⟩ := ins_get I.hok ha
  obtain ⟨mB, J', _⟩ := ins_get I.hok hb
  obtain ⟨od, J, _⟩ := J.look
  obtain ⟨od', J', _⟩ := J'.look
  show wpAny (model X.prog X.w) X.A (richCompare .NotEq (.ref a) (.ref b')) (EP X pins σ Q) X.xe s
  refine HN.rc_ne (tb := .ref C) (by omega) I.kIn J J'.type (by simp [PySem.W.notFirst]) o.ob hm.at_ hm.fn o.ne ?_
  have r2 : Vals [V.ref a, V.ref b'] ([Value.ref a, Value.ref b'] ++ []) := .cons rfl (.cons rfl .nil)
  have hl : ([Value.ref a, Value.ref b'] ++ []).length = ps.length := by rw [← r2.length]; exact F.len _ _ _ _ q
  refine wpAny_call (codeAny_mono (F.run X.A.in1 X.stack s H ⟨[.ref a, .ref b'], []⟩ _ _ _ C8.E0 (hr.mono hk).in1 I.env0.in1 (b s _ I.kIn hl) r2 q) fun r s' hq => ?_)
  cases r with
  | error e => exact (show False from hq).elim
  | ok fl =>
    cases fl with
    | ret w =>
      obtain ⟨z, H', I', rz, r, ez, qz⟩ := I.after hq
      subst ez
      cases rz
      exact ⟨_, rfl, .bl _, H', I', rfl, by rw [Bool.true_xor] at qz; exact qz⟩
    | next => exact False.elim hq
    | brk => exact False.elim hq
    | cont => exact False.elim hq
instance (priority := 900) [g : Go (uEq K x y H Q) G] : Go (uEqO K C sp x y H Q) G := ⟨fun k => .inl (g.go k)⟩
instance (priority := 900) [g : Go (uNe K x y H Q) G] : Go (uNeO K C sp x y H Q) G := ⟨fun k => .inl (g.go k)⟩
def isR (neg : Bool) (Q : VK) : VK := fun v H' => ∃ r, v = .bl r ∧ Q (.bl (neg ^^ r)) H'
instance {r : Bool} : Go (isR false Q (.bl r) H) (Q (.bl r) H) := ⟨fun k => ⟨r, rfl, by rw [Bool.false_xor]; exact k⟩⟩
instance {r : Bool} : Go (isR true Q (.bl r) H) (Q (.bl (!r)) H) := ⟨fun k => ⟨r, rfl, by rw [Bool.true_xor]; exact k⟩⟩
theorem eqO_of [h : IR H p C dx fs] [g : IR H q C dy gs] (k : sp [.ref p, .ref q] H (isR false Q) C8.E0) : uEqO K C sp (.ref p) (.ref q) H Q := .inr ⟨p, q, dx, dy, fs, gs, rfl, rfl, h.ir, g.ir, k⟩
theorem neO_of [h : IR H p C dx fs] [g : IR H q C dy gs] (k : sp [.ref p, .ref q] H (isR true Q) C8.E0) : uNeO K C sp (.ref p) (.ref q) H Q := .inr ⟨p, q, dx, dy, fs, gs, rfl, rfl, h.ir, g.ir, k⟩
end
end U

namespace U
variable [QN]
open PySem PySem.Spec PyProof.Rows L2
open SX (S)
/-! ### sorted, in readings -/
class TbR (H : Hp) : Prop where
  tabs : LamX.Tabs QN.tabs H
section
variable {H H' : Hp} {p : Addr}
instance [e : Ex H H'] [t : TbR H] : TbR H' := ⟨e.ex.tab t.tabs⟩
instance [e : Mu H p H'] [t : TbR H] : TbR H' := ⟨e.mu.tab t.tabs⟩
instance [e : Mi H p H'] [t : TbR H] : TbR H' := ⟨e.mi.tab t.tabs⟩
theorem tb_mx [t : TbR H] [e : Mx H p H'] : TbR H' := ⟨e.mx.tab t.tabs⟩
theorem tb_et [t : TbR H] [e : Et H H'] : TbR H' := ⟨e.et.tab t.tabs⟩
end
/-- what sorts the values: what stands behind each goes with it -/
theorem sortedBy_zip {α : Type} {b : Bool} (xs : List V) (ms : List α) (key : α → PyData) (h : xs.length = ms.length) :
    ∃ zs : List (V × α), zs.Perm (xs.zip ms) ∧ sortedBy b xs (ms.map key) = zs.map (·.1) ∧ ms.mergeSort (PySem.W.dataLe b key) = zs.map (·.2) := by
  refine ⟨(xs.zip ms).mergeSort fun z z' => PySem.W.dataLe b key z.2 z'.2, List.mergeSort_perm _ _, ?_, ?_⟩
  · unfold sortedBy
    have e : xs.zip (ms.map key) = (xs.zip ms).map fun z => (z.1, key z.2) := by rw [List.zip_map_right]; rfl
    rw [e, ← List.map_mergeSort (r := fun z z' : V × α => PySem.W.dataLe b key z.2 z'.2) (fun a _ b' _ => by cases b <;> rfl), List.map_map]
    rfl
  · rw [List.map_mergeSort (s := PySem.W.dataLe b key) (fun a _ b _ => rfl)]
    congr 1
    rw [List.map_snd_zip (by omega)]
section
variable {X : Cx} {K : PySem.W.Frag} {σ : L2.St} {H : Hp} {Q : VK} {x y : V} {G : Prop} {p q : Addr} {N : List Str} {b : Bool} {te tb : TE} {mg : Str → Option Value} {n : Str} {sp : Sp} {xs : List V} {t tk : TA}
noncomputable def sortLG (K : PySem.W.Frag) (N : List Str) (b : Bool) (tb : TE) (x : V) (H1 : Hp) (Q : VK) : Prop := LamX.Tabs QN.tabs H1 ∧ ∀ H2, Kp H1 H2 → sortG K b (fun v H' Q' => tb (start N [v]) H' Q') x H2 Q
instance : Go (tSortL K N b te tb σ H Q) (te σ H fun x H1 => sortLG K N b tb x H1 Q) := ⟨fun k => k⟩
instance {r : List V → List V → Hp → VK → Prop} : Go (tCKw r t tk σ H Q) (t σ H fun vs H1 => tk σ H1 fun zs H2 => r vs zs H2 Q) := ⟨fun k => k⟩
/-- sorted's answer: a new list of the same values, in the order of the keys -/
theorem sortG_of {α : Type} {call : V → Hp → VK → Prop} (hs : SqL K H p xs ∨ SqT K H p xs) (ms : List α) (key : α → PyData) (hl : xs.length = ms.length) (hal : ∀ m ∈ ms, ∀ m' ∈ ms, PySem.W.alike (key m) (key m') = true) (hsk : ∀ m, ∃ a r, key m = .tuple (a :: r)) (hd : ∀ m, (key m).depth ≤ 50)
    (hc : ∀ v m H', (v, m) ∈ xs.zip ms → Kp H H' → ∀ R : VK, (∀ kv H'', Kp H' H'' → Dp K H'' kv (key m) → R kv H'') → call v H' R)
    (k : ∀ (q : Addr) (zs : List (V × α)) H', Nw H q → Ex H H' → zs.Perm (xs.zip ms) → ms.mergeSort (PySem.W.dataLe b key) = zs.map (·.2) → LM H' q (zs.map (·.1)) → Q (.ref q) H') : sortG K b call (.ref p) H Q := by
  obtain ⟨zs, h1, h2, h3⟩ := sortedBy_zip (b := b) xs ms key hl
  have h4 : sortedBy b xs (ms.map key) = zs.map (·.1) := h2
  refine ⟨p, xs, ms.map key, rfl, hs, by rw [List.length_map]; exact hl, fun d hd d' hd' => ?_, .inl fun d hd => ?_, fun d hd' => ?_, fun v d hv H' kp => ?_, fun H' q kp hn hn' => ?_⟩
  · obtain ⟨m, hm, rfl⟩ := List.mem_map.mp hd
    obtain ⟨m', hm', rfl⟩ := List.mem_map.mp hd'
    exact hal m hm m' hm'
  · obtain ⟨m, hm, rfl⟩ := List.mem_map.mp hd
    exact hsk m
  · obtain ⟨m, hm, rfl⟩ := List.mem_map.mp hd'
    exact hd m
  · rw [List.zip_map_right] at hv
    obtain ⟨⟨v', m⟩, hz, e⟩ := List.mem_map.mp hv
    injection e with e1 e2
    subst e1 e2
    exact hc v' m H' hz kp _ fun kv H'' k2 hdp => ⟨k2, hdp⟩
  · refine k q zs _ (nw_of hn) ⟨kp_up hn kp hn'⟩ h1 h3 ⟨?_⟩
    rw [upd_same, ← h4]
theorem sortL_of {α : Type} [ht : TbR H] (hs : SqL K H p xs ∨ SqT K H p xs) (ms : List α) (key : α → PyData) (hl : xs.length = ms.length) (hal : ∀ m ∈ ms, ∀ m' ∈ ms, PySem.W.alike (key m) (key m') = true) (hsk : ∀ m, ∃ a r, key m = .tuple (a :: r)) (hd : ∀ m, (key m).depth ≤ 50)
    (hc : ∀ v m H', (v, m) ∈ xs.zip ms → Ex H H' → ∀ R : VK, (∀ kv H'', Ex H' H'' → Dp K H'' kv (key m) → R kv H'') → tb (start N [v]) H' R)
    (k : ∀ (q : Addr) (zs : List (V × α)) H', Nw H q → Ex H H' → zs.Perm (xs.zip ms) → ms.mergeSort (PySem.W.dataLe b key) = zs.map (·.2) → LM H' q (zs.map (·.1)) → Q (.ref q) H') : sortLG K N b tb (.ref p) H Q := by
  refine ⟨ht.tabs, fun H2 kp => sortG_of (hs.elim (fun h => .inl (ex_l kp h)) fun h => .inr (ex_t kp h)) ms key hl hal hsk hd (fun v m H' hv k2 R hR => hc v m H' hv ⟨kp_tr kp k2⟩ R fun kv H'' e d => hR kv H'' e.ex d) fun q zs H' nw ex h1 h2 lm => k q zs H' ⟨fun o n h => nw.nw o n (kp.a h n)⟩ ⟨kp_tr kp ex.ex⟩ h1 h2 lm⟩
theorem sortF_of {α : Type} (hm : mg n = some (.ref q)) (hs : SqL K H p xs ∨ SqT K H p xs) (ms : List α) (key : α → PyData) (hl : xs.length = ms.length) (hal : ∀ m ∈ ms, ∀ m' ∈ ms, PySem.W.alike (key m) (key m') = true) (hsk : ∀ m, ∃ a r, key m = .tuple (a :: r)) (hd : ∀ m, (key m).depth ≤ 50)
    (hc : ∀ v m H', (v, m) ∈ xs.zip ms → Ex H H' → ∀ R : VK, (∀ kv H'', Ex H' H'' → Dp K H'' kv (key m) → R kv H'') → sp [v] H' R C8.E0)
    (k : ∀ (q : Addr) (zs : List (V × α)) H', Nw H q → Ex H H' → zs.Perm (xs.zip ms) → ms.mergeSort (PySem.W.dataLe b key) = zs.map (·.2) → LM H' q (zs.map (·.1)) → Q (.ref q) H') : rSortF K mg n sp b [.ref p] [.ref q] H Q :=
  ⟨_, q, rfl, ⟨_, rfl⟩, hm, sortG_of hs ms key hl hal hsk hd (fun v m H' hv k2 R hR => hc v m H' hv ⟨k2⟩ R fun kv H'' e d => hR kv H'' e.ex d) k⟩
end
end U

namespace U
variable [QN]
open PySem PySem.Spec PyProof.Rows L2
open SX (S)
/-! ### signs at a text's end taken off -/
def rsB (a b : List Nat) : List Nat := (a.reverse.dropWhile fun c => decide (c ∈ b)).reverse
theorem tw_len {α : Type} (p : α → Bool) (l : List α) : (l.takeWhile p).length + (l.dropWhile p).length = l.length := by
  have := congrArg List.length (List.takeWhile_append_dropWhile (p := p) (l := l))
  rw [List.length_append] at this
  exact this
theorem rs_take (p : Nat → Bool) (a : List Nat) : a.take (a.length - (a.reverse.takeWhile p).length) = (a.reverse.dropWhile p).reverse := by
  have h := List.takeWhile_append_dropWhile (p := p) (l := a.reverse)
  have h2 : a = (a.reverse.dropWhile p).reverse ++ (a.reverse.takeWhile p).reverse := by rw [← List.reverse_append, h, List.reverse_reverse]
  have h3 := tw_len p a.reverse
  rw [List.length_reverse] at h3
  have h4 : (a.reverse.dropWhile p).reverse.length = a.length - (a.reverse.takeWhile p).length := by rw [List.length_reverse]; omega
  generalize hx : a.length - (a.reverse.takeWhile p).length = n at h4 ⊢
  generalize (a.reverse.dropWhile p).reverse = u at h2 h4 ⊢
  rw [h2, List.take_append_of_le_length (by omega), List.take_of_length_le (by omega)]
theorem rst_eq (a b : List Nat) : Txt.rstripChars (S a) (S b) = S (rsB a b) := by
  have hg : ((S b).cps.contains) = fun c => decide (c ∈ b) := by
    funext c
    rw [Bool.eq_iff_iff]
    simp [S]
  unfold Txt.rstripChars
  rw [PyProof.Rows.stripBy_eq]
  have e : SX.S (PySem.Builtin.Str.strSub (S a) (stripLo (S b).cps.contains false (S a)) (stripHi (S b).cps.contains true (S a) (stripLo (S b).cps.contains false (S a)))).cps.toList = S (rsB a b) := by
    congr 1
    rw [PySem.StrLaws.strSub_toList]
    unfold stripLo stripHi
    simp only [Bool.false_eq_true, if_false, if_true, List.drop_zero, Nat.sub_zero]
    rw [hg]
    have hl : (S a).length = a.length := SX.S_len a
    have hc : (S a).cps.toList = a := by simp [S]
    rw [hl]
    exact rs_take _ a
  rw [← e, SX.S_tl]
theorem rs_len (a b : List Nat) : (rsB a b).length ≤ a.length := by
  unfold rsB
  have := tw_len (fun c => decide (c ∈ b)) a.reverse
  rw [List.length_reverse] at this ⊢
  omega
theorem rs_mem {a b : List Nat} {c : Nat} (h : c ∈ rsB a b) : c ∈ a := by
  unfold rsB at h
  have h1 := List.mem_reverse.mp h
  exact List.mem_reverse.mp ((List.dropWhile_sublist _).mem h1)
theorem rs_last {a b : List Nat} (h : rsB a b ≠ []) : ∃ c, atI (rsB a b) (-1) = some c ∧ c ∉ b := by
  unfold rsB at h ⊢
  cases e : a.reverse.dropWhile fun c => decide (c ∈ b) with
  | nil => rw [e] at h; exact absurd rfl h
  | cons c t =>
    refine ⟨c, by rw [List.reverse_cons]; exact atI_last _ _, ?_⟩
    have h2 := List.head?_dropWhile_not (fun c => decide (c ∈ b)) a.reverse
    rw [e] at h2
    simpa using h2
section
variable {a b : List Nat} {H : Hp} {Q : VK}
theorem rst_go (k : Q (.str (S (rsB a b))) H) : rstG a b H Q := by
  unfold rstG
  rw [rst_eq]
  exact k
end
/-! ### an instance is of its class -/
class IsC (K : PySem.W.Frag) (C : Addr) : Prop where
  cls : Cls K C
  own : OwnNe K C
section
variable {K : PySem.W.Frag} {H : Hp} {Q : VK} {p C dx : Addr} {fs : List (Str × V)} {z : Str} {i : Int} {b : Bool} {xs : List V}
theorem kit_own (C : Addr) : PySem.W.kitOne K (.ref C) (.ref C) = some true := if_pos (by simp)
instance (priority := 1200) [h : IR H p C dx fs] [c : IsC K C] : Go (uIsi K [.ref p, .ref C] H Q) (Q (.bl true) H) := ⟨fun k => .inl ⟨.ref p, .ref C, _, _, true, rfl, .own C, .base (.ins h.ir c.cls c.own.ha c.own.hn c.own.ht c.own.ob), kit_own C, k⟩⟩
theorem kit_no {t : String} (c : OwnNe K C) (h : (fastBuiltinMro t).map (·.contains (.ref C)) = some false) : PySem.W.kitOne K (.type t) (.ref C) = some false := by
  unfold PySem.W.kitOne
  rw [if_neg (by simp)]
  show (if ((PySem.W.clsIn K C).isSome && PySem.W.typeIn K (.ref C) == some (.type "type")) = true then PySem.W.subIn K (.type t) (.ref C) else none) = some false
  rw [if_pos c.kz]
  exact h
theorem mro_str : fastBuiltinMro "str" = some [.type "str", .type "object"] := by decide +kernel
theorem mro_int : fastBuiltinMro "int" = some [.type "int", .type "object"] := by decide +kernel
theorem mro_bool : fastBuiltinMro "bool" = some [.type "bool", .type "int", .type "object"] := by decide +kernel
theorem mro_none : fastBuiltinMro "NoneType" = some [.type "NoneType", .type "object"] := by decide +kernel
theorem mro_list : fastBuiltinMro "list" = some [.type "list", .type "object"] := by decide +kernel
theorem mro_tuple : fastBuiltinMro "tuple" = some [.type "tuple", .type "object"] := by decide +kernel
instance [c : IsC K C] : Go (uIsi K [.str z, .ref C] H Q) (Q (.bl false) H) := ⟨fun k => .inl ⟨.str z, .ref C, _, _, false, rfl, .own C, .base (.str z), kit_no c.own (by rw [mro_str]; simp), k⟩⟩
instance [c : IsC K C] : Go (uIsi K [.int i, .ref C] H Q) (Q (.bl false) H) := ⟨fun k => .inl ⟨.int i, .ref C, _, _, false, rfl, .own C, .base (.int i), kit_no c.own (by rw [mro_int]; simp), k⟩⟩
instance [c : IsC K C] : Go (uIsi K [.bl b, .ref C] H Q) (Q (.bl false) H) := ⟨fun k => .inl ⟨.bl b, .ref C, _, _, false, rfl, .own C, .base (.bl b), kit_no c.own (by rw [mro_bool]; simp), k⟩⟩
instance [c : IsC K C] : Go (uIsi K [.non, .ref C] H Q) (Q (.bl false) H) := ⟨fun k => .inl ⟨.non, .ref C, _, _, false, rfl, .own C, .base .non, kit_no c.own (by rw [mro_none]; simp), k⟩⟩
instance [c : IsC K C] [h : LR K H p xs] : Go (uIsi K [.ref p, .ref C] H Q) (Q (.bl false) H) := ⟨fun k => .inl ⟨.ref p, .ref C, _, _, false, rfl, .own C, ty_l h.lr, kit_no c.own (by rw [mro_list]; simp), k⟩⟩
instance [c : IsC K C] [h : TR K H p xs] : Go (uIsi K [.ref p, .ref C] H Q) (Q (.bl false) H) := ⟨fun k => .inl ⟨.ref p, .ref C, _, _, false, rfl, .own C, ty_t h.tr, kit_no c.own (by rw [mro_tuple]; simp), k⟩⟩
/-! isinstance of lists and tuples -/
instance [h : LR K H p xs] : Go (uIsi K [.ref p, .ty "list"] H Q) (Q (.bl true) H) := ⟨isi_b (ty_l h.lr) kb_ll⟩
instance [h : TR K H p xs] : Go (uIsi K [.ref p, .ty "tuple"] H Q) (Q (.bl true) H) := ⟨isi_b (ty_t h.tr) kb_tt⟩
instance [h : LR K H p xs] : Go (uIsi K [.ref p, .ty "str"] H Q) (Q (.bl false) H) := ⟨isi_b (ty_l h.lr) kb_ls⟩
instance [h : TR K H p xs] : Go (uIsi K [.ref p, .ty "str"] H Q) (Q (.bl false) H) := ⟨isi_b (ty_t h.tr) kb_ts⟩
instance [h : LR K H p xs] : Go (uIsi K [.ref p, .ty "tuple"] H Q) (Q (.bl false) H) := ⟨isi_b (ty_l h.lr) kb_lt⟩
instance [h : TR K H p xs] : Go (uIsi K [.ref p, .ty "list"] H Q) (Q (.bl false) H) := ⟨isi_b (ty_t h.tr) kb_tl⟩
instance [h : LR K H p xs] : Go (uIsi K [.ref p, .ty "int"] H Q) (Q (.bl false) H) := ⟨isi_b (ty_l h.lr) kb_li⟩
instance [h : TR K H p xs] : Go (uIsi K [.ref p, .ty "int"] H Q) (Q (.bl false) H) := ⟨isi_b (ty_t h.tr) kb_ti⟩
instance : Go (uIsi K [.str z, .ty "list"] H Q) (Q (.bl false) H) := ⟨isi_b (.base (.str z)) kb_sl⟩
instance : Go (uIsi K [.str z, .ty "tuple"] H Q) (Q (.bl false) H) := ⟨isi_b (.base (.str z)) kb_st⟩
instance : Go (uIsi K [.str z, .ty "bool"] H Q) (Q (.bl false) H) := ⟨isi_b (.base (.str z)) kb_sb⟩
instance : Go (uIsi K [.non, .ty "list"] H Q) (Q (.bl false) H) := ⟨isi_b (.base .non) kb_nl⟩
instance : Go (uIsi K [.non, .ty "tuple"] H Q) (Q (.bl false) H) := ⟨isi_b (.base .non) kb_nt⟩
instance : Go (uIsi K [.non, .ty "bool"] H Q) (Q (.bl false) H) := ⟨isi_b (.base .non) kb_nb⟩
instance : Go (uIsi K [.int i, .ty "list"] H Q) (Q (.bl false) H) := ⟨isi_b (.base (.int i)) kb_il⟩
instance : Go (uIsi K [.int i, .ty "tuple"] H Q) (Q (.bl false) H) := ⟨isi_b (.base (.int i)) kb_it⟩
instance : Go (uIsi K [.bl b, .ty "list"] H Q) (Q (.bl false) H) := ⟨isi_b (.base (.bl b)) kb_bl⟩
instance : Go (uIsi K [.bl b, .ty "tuple"] H Q) (Q (.bl false) H) := ⟨isi_b (.base (.bl b)) kb_bt⟩
end
end U

namespace U
variable [QN]
open PySem PySem.Spec PyProof.Rows L2
open SX (S)
/-! ### lists whose items are objects of a kind -/
structure AL {α : Type} (R : Addr → α → Prop) (xs : List V) (ms : List α) : Prop where
  len : xs.length = ms.length
  all : ∀ z ∈ xs.zip ms, ∃ x, z.1 = .ref x ∧ R x z.2
section
variable {α β : Type} {R R' : Addr → α → Prop} {xs ys : List V} {ms ns : List α} {x : Addr} {m : α}
theorem al_mono (h : AL R xs ms) (e : ∀ x m, m ∈ ms → R x m → R' x m) : AL R' xs ms := ⟨h.len, fun z hz => by
  obtain ⟨x, e1, e2⟩ := h.all z hz
  exact ⟨x, e1, e x _ (List.of_mem_zip hz).2 e2⟩⟩
theorem al_nil : AL R [] [] := ⟨rfl, fun z hz => by cases hz⟩
theorem al_cons (h : R x m) (g : AL R xs ms) : AL R (.ref x :: xs) (m :: ms) := ⟨by rw [List.length_cons, List.length_cons, g.len], fun z hz => by
  rcases List.mem_cons.mp hz with e | hz
  · rw [e]; exact ⟨x, rfl, h⟩
  · exact g.all z hz⟩
theorem al_app (h : AL R xs ms) (g : AL R ys ns) : AL R (xs ++ ys) (ms ++ ns) := ⟨by rw [List.length_append, List.length_append, h.len, g.len], fun z hz => by
  rw [List.zip_append h.len] at hz
  rcases List.mem_append.mp hz with hz | hz
  · exact h.all z hz
  · exact g.all z hz⟩
theorem al_snoc (g : AL R xs ms) (h : R x m) : AL R (xs ++ [.ref x]) (ms ++ [m]) := al_app g (al_cons h al_nil)
theorem al_at (h : AL R xs ms) {k : Nat} {m : α} (e : ms[k]? = some m) : ∃ x, xs[k]? = some (.ref x) ∧ R x m := by
  have hk0 := (List.getElem?_eq_some_iff.mp e).1
  have hk : k < xs.length := by have := h.len; omega
  have e1 : xs[k]? = some xs[k] := List.getElem?_eq_getElem hk
  obtain ⟨x, e2, e3⟩ := h.all (xs[k], m) (List.mem_of_getElem? (i := k) (by rw [List.getElem?_zip_eq_some]; exact ⟨e1, e⟩))
  exact ⟨x, by rw [e1]; exact congrArg some e2, e3⟩
theorem al_at' (h : AL R xs ms) {k : Nat} {v : V} (e : xs[k]? = some v) : ∃ x m, v = .ref x ∧ ms[k]? = some m ∧ R x m := by
  have hk0 := (List.getElem?_eq_some_iff.mp e).1
  have hk : k < ms.length := by have := h.len; omega
  obtain ⟨x, e1, e2⟩ := al_at h (List.getElem?_eq_getElem hk)
  rw [e] at e1
  exact ⟨x, _, by injection e1, List.getElem?_eq_getElem hk, e2⟩
theorem al_mem (h : AL R xs ms) {v : V} (e : v ∈ xs) : ∃ x m, v = .ref x ∧ m ∈ ms ∧ R x m := by
  obtain ⟨k, hk⟩ := List.mem_iff_getElem?.mp e
  obtain ⟨x, m, e1, e2, e3⟩ := al_at' h hk
  exact ⟨x, m, e1, List.mem_of_getElem? e2, e3⟩
theorem zip_fs {α β : Type} : ∀ zs : List (α × β), (zs.map (·.1)).zip (zs.map (·.2)) = zs
  | [] => rfl
  | z :: zs => by
    show (z.1, z.2) :: (zs.map (·.1)).zip (zs.map (·.2)) = z :: zs
    rw [zip_fs zs]
theorem al_perm {zs : List (V × α)} (h : AL R xs ms) (p : zs.Perm (xs.zip ms)) : AL R (zs.map (·.1)) (zs.map (·.2)) := ⟨by rw [List.length_map, List.length_map], fun z hz => by
  rw [zip_fs] at hz
  exact h.all z (p.mem_iff.mp hz)⟩
theorem al_take (h : AL R xs ms) (n : Nat) : AL R (xs.take n) (ms.take n) := ⟨by rw [List.length_take, List.length_take, h.len], fun z hz => by
  rw [List.zip, ← List.take_zipWith] at hz
  exact h.all z (List.mem_of_mem_take hz)⟩
theorem al_drop (h : AL R xs ms) (n : Nat) : AL R (xs.drop n) (ms.drop n) := ⟨by rw [List.length_drop, List.length_drop, h.len], fun z hz => by
  rw [List.zip, ← List.drop_zipWith] at hz
  exact h.all z (List.mem_of_mem_drop hz)⟩
theorem al_rev (h : AL R xs ms) : AL R xs.reverse ms.reverse := ⟨by rw [List.length_reverse, List.length_reverse, h.len], fun z hz => by
  rw [List.zip, ← List.reverse_zipWith h.len] at hz
  exact h.all z (List.mem_reverse.mp hz)⟩
end
/-! ### zip and enumerate -/
section
variable {K : PySem.W.Frag} {σ : L2.St} {H H1 : Hp} {p q : Addr} {xs ys : List V} {g : TG} {tb : TS} {D : Ends} {ta : TA} {R : It → Hp → Prop} {X : Cx} {vs : List V}
theorem pi_zip' {elts : List Expr} {kk : Nat} {tpos p pos : Pos} {e e2 : Expr} (hg : Gl X "zip") (hm : X.mg "zip" = none) (ha : PA X [e, e2] ta) (hK : X.K = K := by rfl) (hs : starEach [e, e2] X.env = (false, eval e X.env) :: starEach [e2] X.env := by rfl) (hpl : (backTo pos (starEach [e2] X.env)).any (·.1) = false := by rfl) :
    PI X (.Tuple elts kk tpos) (.Call (.Name "zip" p) [e, e2] [] pos) (iZip K ta) := by
  subst hK
  exact pi_zip hg hm ha hs hpl
def iZ (K : PySem.W.Frag) (vs : List V) (H1 : Hp) (R : It → Hp → Prop) : Prop := ∃ a b xs ys, vs = [.ref a, .ref b] ∧ SqL K H1 a xs ∧ SqL K H1 b ys ∧ R (Itz K a b) H1
instance : Go (iZip K ta σ H R) (ta σ H fun vs H1 => iZ K vs H1 R) := ⟨fun k => k⟩
instance [h : LR K H p xs] [g : LR K H q ys] : Go (iZ K [.ref p, .ref q] H R) (R (Itz K p q) H) := ⟨fun k => ⟨p, q, xs, ys, rfl, h.lr, g.lr, k⟩⟩
theorem for_z (Pv : Nat → L2.St → Hp → Prop) (h0 : Pv 0 σ H) (hl : xs.length = ys.length) (hG : ∀ i σ H, i ≤ xs.length → Pv i σ H → SqL K H p xs ∧ SqL K H q ys)
    (hs : ∀ k x y t σ H H', k < xs.length → xs[k]? = some x → ys[k]? = some y → Pv k σ H → Nw H t → Ex H H' → TM H' t [x, y] → g (.ref t) σ H' fun σ2 H2 => tb { D with nx := Pv (k + 1), ct := Pv (k + 1), bk := D.nx } σ2 H2) (hd : ∀ σ H, Pv xs.length σ H → D.nx σ H) : forG (Itz K p q) g tb D σ H :=
  for_w (walk_zip (xs := xs) (ys := ys) (n := xs.length) (by omega)) Pv h0 hG (fun k x σ H H' hk pv y => by
    obtain ⟨t, a, b, rfl, hn, rfl, ha, hb⟩ := y
    exact hs k a b t σ H _ hk ha hb pv (nw_of hn) (ex_new hn) ⟨upd_same⟩) hd
theorem pi_enum' {elts : List Expr} {kk : Nat} {tpos p pos : Pos} {e : Expr} (hg : Gl X "enumerate") (hm : X.mg "enumerate" = none) (ha : PA X [e] ta) (hK : X.K = K := by rfl) (hs : starEach [e] X.env = [(false, eval e X.env)] := by rfl) :
    PI X (.Tuple elts kk tpos) (.Call (.Name "enumerate" p) [e] [] pos) (iEnum K ta) := by
  subst hK
  exact pi_enum hg hm ha hs
def iE (K : PySem.W.Frag) (vs : List V) (H1 : Hp) (R : It → Hp → Prop) : Prop := ∃ a xs, vs = [.ref a] ∧ SqL K H1 a xs ∧ R (Ite K a) H1
instance : Go (iEnum K ta σ H R) (ta σ H fun vs H1 => iE K vs H1 R) := ⟨fun k => k⟩
instance [h : LR K H p xs] : Go (iE K [.ref p] H R) (R (Ite K p) H) := ⟨fun k => ⟨p, xs, rfl, h.lr, k⟩⟩
theorem for_e (Pv : Nat → L2.St → Hp → Prop) (h0 : Pv 0 σ H) (hG : ∀ i σ H, i ≤ xs.length → Pv i σ H → SqL K H p xs)
    (hs : ∀ k x t σ H H', k < xs.length → xs[k]? = some x → Pv k σ H → Nw H t → Ex H H' → TM H' t [.int (k : Nat), x] → g (.ref t) σ H' fun σ2 H2 => tb { D with nx := Pv (k + 1), ct := Pv (k + 1), bk := D.nx } σ2 H2) (hd : ∀ σ H, Pv xs.length σ H → D.nx σ H) : forG (Ite K p) g tb D σ H :=
  for_w (walk_enum (xs := xs)) Pv h0 hG (fun k x σ H H' hk pv y => by
    obtain ⟨t, a, b, rfl, hn, rfl, ha, hb⟩ := y
    injection ha with ha
    subst ha
    exact hs k b t σ H _ hk hb pv (nw_of hn) (ex_new hn) ⟨upd_same⟩) hd
end
end U

namespace U
variable [QN]
open PySem PySem.Spec PyProof.Rows L2
open SX (S)
/-! ### a list and the list without items -/
def rE0 (K : PySem.W.Frag) (neg : Bool) : R2 := fun x y H Q => ∃ p q xs, x = .ref p ∧ y = .ref q ∧ SqL K H p xs ∧ SqL K H q [] ∧ Q (.bl (neg ^^ xs.isEmpty)) H
section
variable {X : Cx} {K : PySem.W.Frag} {H : Hp} {Q : VK} {p q : Addr} {xs : List V} {x y : V} {G : Prop}
theorem shaped_nil : SeqAt.shaped (.list []) = true := by decide
def uEq0 (K : PySem.W.Frag) : R2 := fun x y H Q => uEq K x y H Q ∨ rE0 K false x y H Q
def uNe0 (K : PySem.W.Frag) : R2 := fun x y H Q => uNe K x y H Q ∨ rE0 K true x y H Q
theorem ou_eq0 (hu : X.A.units + 64 < cLine) (hK : X.K = K := by rfl) : OpR X (compareOp .Eq) (uEq0 K) := by
  subst hK
  refine (ou_eq hu).or ?_
  intro pins s σ H x y v u Q I rx ry h
  obtain ⟨p, q, xs, rfl, rfl, h1, h2, k⟩ := h
  cases xs with
  | nil => exact op_eqD hu pins s σ H _ _ v u Q I rx ry ⟨.list [], .list [], .lst h1 .nil, .lst h2 .nil, shaped_nil, shaped_nil, k⟩
  | cons a xs =>
    cases rx
    cases ry
    obtain ⟨its, r, pl, hz⟩ := I.list h1
    obtain ⟨its2, r2, pl2, hz2⟩ := I.list h2
    have l1 := r.length
    have l2 := r2.length
    rw [List.length_cons] at l1
    rw [List.length_nil] at l2
    exact SeqAt.RcAt.lists_lengths pl.isList pl2.isList (by simp only [List.size_toArray, bne_iff_ne]; omega) (by omega) X.prog X.w X.xe _ ⟨.bl false, H, I, rfl, k⟩
theorem ou_ne0 (hu : X.A.units + 64 < cLine) (hK : X.K = K := by rfl) : OpR X (compareOp .NotEq) (uNe0 K) := by
  subst hK
  refine (ou_ne hu).or ?_
  intro pins s σ H x y v u Q I rx ry h
  obtain ⟨p, q, xs, rfl, rfl, h1, h2, k⟩ := h
  cases xs with
  | nil => exact op_neD hu pins s σ H _ _ v u Q I rx ry ⟨.list [], .list [], .lst h1 .nil, .lst h2 .nil, shaped_nil, shaped_nil, k⟩
  | cons a xs =>
    cases rx
    cases ry
    obtain ⟨its, r, pl, hz⟩ := I.list h1
    obtain ⟨its2, r2, pl2, hz2⟩ := I.list h2
    have l1 := r.length
    have l2 := r2.length
    rw [List.length_cons] at l1
    rw [List.length_nil] at l2
    exact SeqAt.RcNeAt.lists_lengths pl.isList pl2.isList (by simp only [List.size_toArray, bne_iff_ne]; omega) (by omega) X.prog X.w X.xe _ ⟨.bl true, H, I, rfl, k⟩
instance [h : LR K H p xs] [g : LR K H q []] : Go (uEq0 K (.ref p) (.ref q) H Q) (Q (.bl xs.isEmpty) H) := ⟨fun k => .inr ⟨p, q, xs, rfl, rfl, h.lr, g.lr, by rw [Bool.false_xor]; exact k⟩⟩
instance [h : LR K H p xs] [g : LR K H q []] : Go (uNe0 K (.ref p) (.ref q) H Q) (Q (.bl (!xs.isEmpty)) H) := ⟨fun k => .inr ⟨p, q, xs, rfl, rfl, h.lr, g.lr, by rw [Bool.true_xor]; exact k⟩⟩
end
/-! ### what was to be read when p was new stays so -/
section
variable {K : PySem.W.Frag} {H H' H0 : Hp} {a p : Addr} {xs : List V}
theorem mu_lw (m : Mu H p H') (w : Nw H0 p) (h0 : SqL K H0 a xs) (h : SqL K H a xs) : SqL K H' a xs := by
  rcases h0 with h0 | h0
  · refine mu_l m (fun z => ?_) h
    rcases h0 with h0 | ⟨o, h0⟩
    · exact w.nw _ nt_l (z ▸ h0)
    · exact w.nw _ nt_f (z ▸ h0)
  · exact .inr h0
instance (priority := 900) [m : Mu H p H'] [w : Nw H0 p] [h0 : LR K H0 a xs] [h : LR K H a xs] : LR K H' a xs := ⟨mu_lw m w h0.lr h.lr⟩
end
end U

namespace U
variable [QN]
open PySem PySem.Spec PyProof.Rows L2
open SX (S)
/-! ### a list or a tuple; b: which -/
def SqB (K : PySem.W.Frag) (H : Hp) (a : Addr) : Bool → List V → Prop
  | false, xs => SqL K H a xs
  | true, xs => SqT K H a xs
class SR (K : PySem.W.Frag) (H : Hp) (a : Addr) (b : outParam Bool) (xs : outParam (List V)) : Prop where
  sr : SqB K H a b xs
theorem SR.or {K : PySem.W.Frag} {H : Hp} {a : Addr} {b : Bool} {xs : List V} (h : SR K H a b xs) : SqL K H a xs ∨ SqT K H a xs := by
  cases b
  · exact .inl h.sr
  · exact .inr h.sr
theorem sr_of {K : PySem.W.Frag} {H : Hp} {a : Addr} {xs : List V} (h : SqL K H a xs ∨ SqT K H a xs) : ∃ b, SR K H a b xs := h.elim (fun h => ⟨false, ⟨h⟩⟩) fun h => ⟨true, ⟨h⟩⟩
section
variable {K : PySem.W.Frag} {H H' H0 : Hp} {a p q : Addr} {b : Bool} {xs ys : List V} {Q : VK} {i : Int} {G : Prop} {R : It → Hp → Prop}
instance (priority := 900) [e : Ex H H'] [h : SR K H a b xs] : SR K H' a b xs := ⟨by
  have := h.sr
  cases b
  · exact ex_l e.ex this
  · exact ex_t e.ex this⟩
instance (priority := 900) [m : Mu H p H'] [w : Nw H0 p] [h0 : SR K H0 a b xs] [h : SR K H a b xs] : SR K H' a b xs := ⟨by
  have g := h.sr
  have g0 := h0.sr
  cases b
  · exact mu_lw m w g0 g
  · exact mu_t m g⟩
instance (priority := 800) [h : LR K H a xs] : SR K H a false xs := ⟨h.lr⟩
instance (priority := 800) [h : TR K H a xs] : SR K H a true xs := ⟨h.tr⟩
instance (priority := 800) [h : SR K H p b xs] : Go (uLen K [.ref p] H Q) (Q (.int xs.length) H) := ⟨fun k => ⟨_, _, rfl, (h.or).elim (fun g => .inl ⟨xs, g, rfl⟩) (fun g => .inr ⟨xs, g, rfl⟩), k⟩⟩
instance (priority := 800) [h : SR K H p b xs] : Go (uIx K (.ref p) (.int i) H Q) (ixG xs i H Q) := ⟨fun ⟨v, e, k⟩ => (h.or).elim (fun g => .inl ⟨p, xs, i, v, rfl, rfl, g, e, k⟩) fun g => .inr (.inl ⟨p, xs, i, v, rfl, rfl, g, e, k⟩)⟩
instance (priority := 800) [h : SR K H p b xs] : Go (uLst K [.ref p] H Q) (newL xs H Q) := ⟨fun k => ⟨p, xs, rfl, h.or, k⟩⟩
/-- tuple(x) -/
def asT (K : PySem.W.Frag) (xs : List V) (H : Hp) (Q : VK) : Prop := ∀ q H', Ex H H' → TR K H' q xs → Q (.ref q) H'
instance (priority := 800) [h : SR K H p b xs] : Go (uTup K [.ref p] H Q) (asT K xs H Q) := ⟨fun k => ⟨p, xs, rfl, by
  rcases h.or with g | g
  · exact .inl ⟨g, fun l hl => k l _ (ex_new hl) ⟨.inl (.inl upd_same)⟩⟩
  · exact .inr ⟨g, k p H ⟨kp_rfl⟩ ⟨g⟩⟩⟩⟩
instance [hT : TM H q [.ty "list", .ty "tuple"]] [h : SR K H p b xs] : Go (uIsi K [.ref p, .ref q] H Q) (Q (.bl true) H) := ⟨fun k => (h.or).elim (fun g => isi_lt hT.tm g k) fun g => isi_lt_t hT.tm g k⟩
/-- walked -/
def Its' (K : PySem.W.Frag) (a : Addr) (b : Bool) : It := match b with | false => Itl K a | true => Itt K a
instance (priority := 800) [h : SR K H p b xs] : Go (iQ K (.ref p) H R) (R (Its' K p b) H) := ⟨fun k => by
  have g := h.sr
  cases b
  · exact ⟨p, rfl, .inl ⟨⟨xs, g⟩, k⟩⟩
  · exact ⟨p, rfl, .inr ⟨⟨xs, g⟩, k⟩⟩⟩
theorem for_q {σ : L2.St} {g : TG} {tb : TS} {D : Ends} (Pv : Nat → L2.St → Hp → Prop) (h0 : Pv 0 σ H) (hG : ∀ i σ H, i ≤ xs.length → Pv i σ H → SqB K H p b xs) (hs : ∀ k x σ H, k < xs.length → xs[k]? = some x → Pv k σ H → g x σ H fun σ2 H2 => tb { D with nx := Pv (k + 1), ct := Pv (k + 1), bk := D.nx } σ2 H2) (hd : ∀ σ H, Pv xs.length σ H → D.nx σ H) : forG (Its' K p b) g tb D σ H := by
  cases b
  · exact for_l Pv h0 hG hs hd
  · exact for_t Pv h0 hG hs hd
/-! ### clear, pop -/
instance [h : LM H p xs] : Go (rClear (.ref p) [] H Q) (setL p [] H fun H' => Q .non H') := ⟨fun k => ⟨p, xs, rfl, rfl, h.lm, k⟩⟩
/-! ### comprehensions that make objects -/
theorem lc_core_o {α : Type} {J : It} {n : Nat} {G : Hp → Prop} {Y : Nat → Hp → V → Hp → Prop} {σ σw : L2.St} {g : TG} {te : TE} {vs : List Nat} {l : List α} (w : Walk J l.length G Y) (f : α → V → Prop) (Rout : Hp → V → α → Prop) (mono : ∀ H H' y m, Kp H H' → Rout H y m → Rout H' y m) (mono2 : ∀ H H' D y m, Mu H D H' → Rout H y m → Rout H' y m)
    (hw : wipe σ vs = σw) (hl : l.length ≤ sizeLine) (hG : ∀ H', Ex H H' → G H') (hy : ∀ i H x H', i < l.length → Y i H x H' → H' = H ∧ ∃ z, l[i]? = some z ∧ f z x)
    (ht : ∀ m z H' A, m ∈ l → f m z → Ex H H' → (∀ y H3, Ex H' H3 → Rout H3 y m → A y H3) → turn g tYes te vs σw z H' A (fun _ => False))
    (k : ∀ D ys H', Nw H D → Ex H H' → LM H' D ys → ys.length = l.length → (∀ z ∈ ys.zip l, Rout H' z.1 z.2) → Q (.ref D) H') : lcG J g tYes te vs σ H Q := by
  intro D hD
  refine lc_it w (fun i H' => Kp H H' ∧ ∃ ys, H' D = some (.lst ys) ∧ ys.length = (l.take i).length ∧ ∀ z ∈ ys.zip (l.take i), Rout H' z.1 z.2) ⟨kp_up hD kp_rfl, [], by rw [upd_same], rfl, fun z hz => by cases hz⟩ (fun i H' _ p => hG H' ⟨p.1⟩) (fun i x H1 H2 hi p y => ?_) (fun H' p => ?_)
  · obtain ⟨rfl, m, hm, hf⟩ := hy i H1 x H2 hi y
    obtain ⟨kp, ys, e1, e2, e3⟩ := p
    rw [hw]
    have hli : (l.take i).length = i := by rw [List.length_take]; omega
    have et : l.take (i + 1) = l.take i ++ [m] := by rw [List.take_succ, hm]; rfl
    refine ht m x H2 (fun y H4 => ∃ acc, H4 D = some (.lst acc) ∧ acc.length < sizeLine ∧ (Kp H (upd H4 D (.lst (acc ++ [y]))) ∧ ∃ ys, (upd H4 D (.lst (acc ++ [y]))) D = some (.lst ys) ∧ ys.length = (l.take (i + 1)).length ∧ ∀ z ∈ ys.zip (l.take (i + 1)), Rout (upd H4 D (.lst (acc ++ [y]))) z.1 z.2)) (List.mem_of_getElem? hm) hf ⟨kp⟩ (fun y H3 ex ro => ?_)
    have e5 : H3 D = some (.lst ys) := ex.ex.a e1 nt_l
    have mu : Mu H3 D (upd H3 D (.lst (ys ++ [y]))) := ⟨kp_but e5 nt_l (fun _ z => nomatch z) fun a o n h => by rw [upd_ne n]; exact h, ys, e5⟩
    refine ⟨ys, e5, by omega, kp_upl hD kp e1 ex.ex, ys ++ [y], upd_same, by rw [et, List.length_append, List.length_append, e2]; rfl, fun z hz => ?_⟩
    rw [et, List.zip_append e2] at hz
    rcases List.mem_append.mp hz with hz | hz
    · exact mono2 _ _ _ _ _ mu (mono _ _ _ _ ex.ex (e3 z hz))
    · rw [List.mem_singleton.mp hz]
      exact mono2 _ _ _ _ _ mu ro
  · obtain ⟨kp, ys, e1, e2, e3⟩ := p
    rw [List.take_length] at e2 e3
    exact k D ys H' (nw_of hD) ⟨kp⟩ ⟨e1⟩ e2 e3
/-- over a list of objects of a kind: a list of new objects of another -/
theorem lc_lo {α : Type} {Rin Rout : Hp → Addr → α → Prop} {σ σw : L2.St} {g : TG} {te : TE} {vs : List Nat} {ms : List α} [hx : LR K H p xs] [hw : Wp σ vs σw] (hin : AL (Rin H) xs ms) (mono : ∀ H H' y m, Kp H H' → Rout H y m → Rout H' y m) (mono2 : ∀ H H' D y m, Mu H D H' → Rout H y m → Rout H' y m) (hl : xs.length ≤ sizeLine)
    (ht : ∀ m z H' A, m ∈ ms → Rin H z m → Ex H H' → (∀ y H3, Ex H' H3 → Rout H3 y m → A (.ref y) H3) → turn g tYes te vs σw (.ref z) H' A (fun _ => False))
    (k : ∀ D ys H', Nw H D → Ex H H' → LM H' D ys → AL (Rout H') ys ms → Q (.ref D) H') : lcG (Itl K p) g tYes te vs σ H Q := by
  have hlen := hin.len
  refine lc_core_o (n := ms.length) (l := ms) (by rw [← hlen]; exact walk_list (xs := xs)) (fun m z => ∃ a, z = .ref a ∧ Rin H a m) (fun H z m => ∃ a, z = .ref a ∧ Rout H a m) (fun H1 H2 y m kp ⟨a, e, r⟩ => ⟨a, e, mono _ _ _ _ kp r⟩) (fun H1 H2 D y m mu ⟨a, e, r⟩ => ⟨a, e, mono2 _ _ _ _ _ mu r⟩) hw.eq (by omega) (fun H' e => ex_l e.ex hx.lr) (fun i H1 x H2 hi y => ?_) (fun m z H' A hm ⟨a, e, r⟩ ex h => ?_) (fun D ys H' nw ex lm h1 h2 => k D ys H' nw ex lm ⟨h1, h2⟩)
  · obtain ⟨rfl, e⟩ := y
    obtain ⟨a, m, e1, e2, e3⟩ := al_at' hin e
    exact ⟨rfl, m, e2, a, e1, e3⟩
  · subst e
    exact ht m a H' A hm r ex fun y H3 e3 ro => h _ H3 e3 ⟨y, rfl, ro⟩
end
/-! ### None compared -/
section
variable {K : PySem.W.Frag} {H : Hp} {Q : VK} {i : Int}
theorem sh_non : SeqAt.shaped .none = true := by decide
theorem sh_int (i : Int) : SeqAt.shaped (.int i) = true := rfl
instance : Go (uEq K .non .non H Q) (Q (.bl true) H) := ⟨fun k => .inr ⟨_, _, .non, .non, sh_non, sh_non, k⟩⟩
instance : Go (uNe K .non .non H Q) (Q (.bl false) H) := ⟨fun k => .inr ⟨_, _, .non, .non, sh_non, sh_non, k⟩⟩
instance : Go (uEq K (.int i) .non H Q) (Q (.bl false) H) := ⟨fun k => .inr ⟨_, _, .int i, .non, sh_int i, sh_non, k⟩⟩
instance : Go (uNe K (.int i) .non H Q) (Q (.bl true) H) := ⟨fun k => .inr ⟨_, _, .int i, .non, sh_int i, sh_non, k⟩⟩
instance : Go (uEq K .non (.int i) H Q) (Q (.bl false) H) := ⟨fun k => .inr ⟨_, _, .non, .int i, sh_non, sh_int i, k⟩⟩
instance : Go (uNe K .non (.int i) H Q) (Q (.bl true) H) := ⟨fun k => .inr ⟨_, _, .non, .int i, sh_non, sh_int i, k⟩⟩
end
end U

namespace U
variable [QN]
open PySem PySem.Spec PyProof.Rows L2
open SX (S)
section
variable {K : PySem.W.Frag} {H H' H0 : Hp} {a p q l : Addr} {b k : Bool} {xs ys : List V} {Q : VK} {i : Int} {G : Prop} {R : It → Hp → Prop} {lo hi : Option Int}
instance : Go (uInt [.bl k] H Q) (Q (.int (if k then 1 else 0)) H) := ⟨fun h => .inl (.inr ⟨k, rfl, h⟩)⟩
/-! ### pieces of a list or a tuple -/
/-- what a list can be extended by -/
class XR (K : PySem.W.Frag) (H : Hp) (a : Addr) (xs : outParam (List V)) : Prop where
  xr : H a = some (.lst xs) ∨ SqT K H a xs
def sliceX (K : PySem.W.Frag) (xs : List V) (H : Hp) (Q : VK) : Prop := ∀ q H', Ex H H' → XR K H' q xs → Q (.ref q) H'
theorem cut_whole {xs : List V} {lo hi : Option Int} (h : HT.sIx xs.length 0 lo = 0 ∧ HT.sIx xs.length xs.length hi = xs.length) : cutV xs lo hi = xs := by
  unfold cutV
  rw [h.1, h.2, List.drop_zero, Nat.sub_zero, List.take_length]
instance (priority := 800) [h : SR K H p b xs] : Go (uSl K (.ref p) lo hi H Q) (sliceX K (cutV xs lo hi) H Q) := ⟨fun k => by
  rcases h.or with g | g
  · exact .inl ⟨p, xs, rfl, g, fun q hq => k q _ (ex_new hq) ⟨.inl upd_same⟩⟩
  · exact .inr (.inr ⟨p, xs, rfl, g, fun hw => k p H ⟨kp_rfl⟩ ⟨.inr (by rw [cut_whole hw]; exact g)⟩, fun _ q hq => k q _ (ex_new hq) ⟨.inr (.inl (.inl upd_same))⟩⟩)⟩
instance (priority := 800) [h : LM H p xs] [g : XR K H q ys] : Go (uExt K (.ref p) [.ref q] H Q) (Sd (xs.length + ys.length ≤ sizeLine) (setL p (xs ++ ys) H fun H' => Q .non H')) := ⟨fun k => ⟨p, q, xs, ys, rfl, rfl, h.lm, g.xr, k.1, k.2⟩⟩
end
end U

namespace U
variable [QN]
open PySem PySem.Spec PyProof.Rows L2
open SX (S)
section
variable {tl : TA} {sp : Sp} {dvs : List V} {W : WX} {σ : L2.St} {H : Hp} {Q : VK}
omit [QN] in
instance : Go (tCallX sp dvs W tl σ H Q) (tl σ H fun vs H1 => callG sp vs dvs H1 Q (fun cls d H' => W cls d σ H')) := ⟨fun k => k⟩
end
/-! ### a comprehension that picks -/
section
variable {K : PySem.W.Frag} {H : Hp} {Q : VK} {p : Addr} {xs : List V}
theorem lc_lf {α : Type} {Rin : Hp → Addr → α → Prop} {σ σw : L2.St} {g : TG} {tt : TT} {te : TE} {vs : List Nat} {ms : List α} (f : α → Bool) [hx : LR K H p xs] [hw : Wp σ vs σw] (hin : AL (Rin H) xs ms) (hl : xs.length ≤ sizeLine)
    (ht : ∀ m z H' A B, m ∈ ms → Rin H z m → Ex H H' → (∀ H3, Ex H' H3 → f m = true → A (.ref z) H3) → (∀ H3, Ex H' H3 → f m = false → B H3) → turn g tt te vs σw (.ref z) H' A B)
    (k : ∀ D ys H', Nw H D → Ex H H' → LM H' D ys → ys.length = (ms.filter f).length → Q (.ref D) H') : lcG (Itl K p) g tt te vs σ H Q := by
  have hlen := hin.len
  intro D hD
  refine lc_it (walk_list (xs := xs)) (fun i H' => Kp H H' ∧ ∃ ys, H' D = some (.lst ys) ∧ ys.length = ((ms.take i).filter f).length) ⟨kp_up hD kp_rfl, [], by rw [upd_same], rfl⟩ (fun i H' _ p => ex_l p.1 hx.lr) (fun i x H1 H2 hi p y => ?_) (fun H' p => ?_)
  · obtain ⟨rfl, e⟩ := y
    obtain ⟨a, m, rfl, hm, hr⟩ := al_at' hin e
    obtain ⟨kp, ys, e1, e2⟩ := p
    rw [hw.eq]
    have et : ms.take (i + 1) = ms.take i ++ [m] := by rw [List.take_succ, hm]; rfl
    have hly : ys.length ≤ i := by
      rw [e2]
      exact Nat.le_trans (List.length_filter_le ..) (by rw [List.length_take]; omega)
    refine ht m a H2 (fun y H4 => ∃ acc, H4 D = some (.lst acc) ∧ acc.length < sizeLine ∧ (Kp H (upd H4 D (.lst (acc ++ [y]))) ∧ ∃ ys, (upd H4 D (.lst (acc ++ [y]))) D = some (.lst ys) ∧ ys.length = ((ms.take (i + 1)).filter f).length)) (fun H3 => Kp H H3 ∧ ∃ ys, H3 D = some (.lst ys) ∧ ys.length = ((ms.take (i + 1)).filter f).length) (List.mem_of_getElem? hm) hr ⟨kp⟩ (fun H3 ex hf => ?_) (fun H3 ex hf => ?_)
    · have e5 : H3 D = some (.lst ys) := ex.ex.a e1 nt_l
      exact ⟨ys, e5, by omega, kp_upl hD kp e1 ex.ex, _, upd_same, by rw [et, List.filter_append, List.length_append, List.length_append, e2]; simp [hf]⟩
    · have e5 : H3 D = some (.lst ys) := ex.ex.a e1 nt_l
      exact ⟨kp_tr kp ex.ex, ys, e5, by rw [et, List.filter_append, List.length_append, e2]; simp [hf]⟩
  · obtain ⟨kp, ys, e1, e2⟩ := p
    rw [hlen, List.take_length] at e2
    exact k D ys H' (nw_of hD) ⟨kp⟩ ⟨e1⟩ e2
end
/-! ### list methods in a suite -/
section
variable {X : Cx} {K : PySem.W.Frag} {T id : String} {name : Str} {r : V → List V → Hp → VK → Prop} {o e : Expr} {es : List Expr} {to : TE} {t : TA} {apos cpos : Pos}
omit [QN] in
theorem pe_bmK (pa : PlainAttrs T) (slot : Slot T name id) (hty : typeOf (.builtin id) = pure (.type "method_descriptor")) (hm : MtR X id r) (ho : PE X o to) (ha : PA X (e :: es) t) (hK : X.K = K := by rfl)
    (hbase : attributeBase o name X.env (eval o X.env) = eval o X.env := by rfl)
    (hfew : ((backTo cpos (starEach (e :: es) X.env)).all (fun x => !x.1) && (backToKw cpos (keywordEach [] X.env)).all (fun x => x.1.isSome)
      && decide ((e :: es).length + ([] : List Keyword).length + (if ([] : List Keyword).isEmpty then 0 else 1) < 30)) = true := by rfl)
    (hline : (apos.endLine == cpos.line) = true := by rfl) (hs : starEach (e :: es) X.env = (false, eval e X.env) :: starEach es X.env := by rfl) (hplain : (backTo cpos (starEach es X.env)).any (·.1) = false := by rfl) :
    PE X (.Call (.Attribute o name apos) (e :: es) [] cpos) (tBM K T r to t) := by
  subst hK
  exact pe_bm pa slot hty hm ho ha hbase hfew hline hs hplain
end
/-! ### a promise for both: it goes, or it raises -/
def spO (a b : Sp) : Sp := fun vs H Q E => a vs H Q E ∨ b vs H Q E
section
variable {P : Program} {w : World} {K : PySem.W.Frag} {mg : Str → Option Value} {base : Heap} {x x' qual qual' : Str} {params params' : Arguments} {body body' : List Stmt} {scope scope' : Scope} {dvs dvs' : List V} {kws kws' : List (Str × V)} {f : Addr} {fd fd' : FuncData} {k : Nat} {ps : List Str} {sp1 sp2 : Sp}
omit [QN] in
theorem funD_inj (F : FunD K x qual params body scope dvs kws f fd) (F' : FunD K x' qual' params' body' scope' dvs' kws' f fd') : fd = fd' := by
  obtain ⟨_, _, _, _, _, _, _, _, _, _, _, lk, _⟩ := F.ex
  obtain ⟨_, _, _, _, _, _, _, _, _, _, _, lk', _⟩ := F'.ex
  rw [lk] at lk'
  injection lk' with e
  injection e with _ _ e3
  injection e3
theorem fn_or (F : FnOk P w K mg base C8.CX0 k f fd ps sp1) (G : FnOk P w K mg base (L2.CX P w) k f fd ps sp2) : FnOk P w K mg base (L2.CX P w) k f fd ps (spO sp1 sp2) :=
  ⟨fun vs H Q E h => h.elim (F.len vs H Q E) (G.len vs H Q E), fun A outer s H args us vs Q E hr e0 hb r h => h.elim (fun h => (ok_x F).run A outer s H args us vs Q E hr e0 hb r h) fun h => G.run A outer s H args us vs Q E hr e0 hb r h⟩
end
section
variable {K : PySem.W.Frag} {a D dd : Addr} {fs : List (Str × V)} {c : V} {cv : Value} {b : Bool} {H : Hp} {Q : VK}
theorem isE_of [h : XD H dd fs] (C : ExcC K D) (hcv : ClsV c cv) (hk : PySem.W.kitOne K (.ref D) cv = some b) (k : Q (.bl b) H) : uIsE K a (.ref D) (some dd) [.ref a, c] H Q := ⟨D, dd, fs, c, cv, b, rfl, rfl, C, rfl, h.xd, hcv, hk, k⟩
end
/-! ### a tuple or a list taken apart -/
def gTL (K : PySem.W.Frag) (n : Nat) (t : TGs) : TG := fun v σ H Q => gTup K n t v σ H Q ∨ gUnl K n t v σ H Q
section
variable {X : Cx} {K : PySem.W.Frag} {pos : Pos} {gs : TGs} {n : Nat} {q : Addr} {xs : List V} {σ : L2.St} {H : Hp} {R : L2.St → Hp → Prop}
theorem pg_tl {es : List Expr} {k : Nat} {t : TGs} (hc : X.calm = true) (h : PGs X es t) (hK : X.K = K := by rfl) (hn : (assignEach es X.env).length = n := by rfl) (hst : (assignEach es X.env).findIdx? (·.1) = none := by rfl) : PG X (.Tuple es k pos) (gTL K n t) := by
  subst hK
  exact ⟨fun pins s σ H v u Q I r hw => hw.elim (fun hw => (pg_tup hc h hn hst).run pins s σ H v u Q I r hw) fun hw => (pg_unl hc h hn hst).run pins s σ H v u Q I r hw⟩
instance [h : TR K H q xs] : Go (gTL K n gs (.ref q) σ H R) (Sd (xs.length = n) (gs xs σ H R)) := ⟨fun k => .inl ⟨q, xs, rfl, h.tr, k.1, k.2⟩⟩
instance [h : LR K H q xs] : Go (gTL K n gs (.ref q) σ H R) (Sd (xs.length = n) (gs xs σ H R)) := ⟨fun k => .inr ⟨q, xs, rfl, h.lr, k.1, k.2⟩⟩
end
end U

namespace T
open PySem PySem.Spec PyProof.Rows L2
abbrev DefP (K : PySem.W.Frag) (d : He.DefD) : Prop := ∃ fd, FunD K d.name d.qual d.params d.body d.scope (d.dvs K) (d.kws K) (He.fAd K d.at_) fd
theorem inB_ok {K : PySem.W.Frag} {x k : PySem.Str} (h : inB K x k = true) : ∃ v, PySem.W.nsIn K (He.ga K x) k = some (some v) := by
  unfold inB at h
  split at h
  · rename_i v e
    exact ⟨v, e⟩
  · cases h
structure Txt0 (K : PySem.W.Frag) (mg : PySem.Str → Option Value) (w : World) : Prop where
  f_NotRising_init : DefP K d_NotRising_init
  f_order : DefP K d_order
  f_first_wrong : DefP K d_first_wrong
  f_need_rising : DefP K d_need_rising
  f_joined : DefP K d_joined
  f_place_in : DefP K d_place_in
  f_is_whole : DefP K d_is_whole
  f_figures_of : DefP K d_figures_of
  f_is_name : DefP K d_is_name
  f_is_figures : DefP K d_is_figures
  f_is_points : DefP K d_is_points
  f_is_maker : DefP K d_is_maker
  f_is_letters : DefP K d_is_letters
  f_need_year : DefP K d_need_year
  f_need_copy : DefP K d_need_copy
  f_makers_in : DefP K d_makers_in
  f_Mark_init : DefP K d_Mark_init
  f_Mark_text_of : DefP K d_Mark_text_of
  f_Mark_eq : DefP K d_Mark_eq
  f_Mark_str : DefP K d_Mark_str
  f_Mark_key : DefP K d_Mark_key
  f_Mark_ahead : DefP K d_Mark_ahead
  f_law_cell_at : DefP K d_law_cell_at
  f_law_pool : DefP K d_law_pool
  f_law_take : DefP K d_law_take
  f_law_figures : DefP K d_law_figures
  f_law_maker : DefP K d_law_maker
  f_law_parts : DefP K d_law_parts
  f_law_near_word : DefP K d_law_near_word
  f_law_near_makers : DefP K d_law_near_makers
  f_law_near_year : DefP K d_law_near_year
  f_law_near_copy : DefP K d_law_near_copy
  f_law_near : DefP K d_law_near
  f_law_mark : DefP K d_law_mark
  f_law_key : DefP K d_law_key
  f_law_order : DefP K d_law_order
  f_law_whole : DefP K d_law_whole
  f_law_cells : DefP K d_law_cells
  f_law_sides : DefP K d_law_sides
  f_law_same : DefP K d_law_same
  f_law_marks : DefP K d_law_marks
  f_law_both : DefP K d_law_both
  f_law_places : DefP K d_law_places
  f_law_refused : DefP K d_law_refused
  f_law_spoilt : DefP K d_law_spoilt
  f_law : DefP K d_law
  g_MarkError : mg "MarkError" = some (.ref (He.ga K "MarkError"))
  g_NotRising : mg "NotRising" = some (.ref (He.ga K "NotRising"))
  n_NotRising_at : NoAttr K (He.ga K "NotRising") "at"
  m_NotRising_init : Meth K (He.ga K "NotRising") "__init__" (He.ma K (He.ga K "NotRising") "__init__")
  g_order : mg "order" = some (.ref (He.ga K "order"))
  g_first_wrong : mg "first_wrong" = some (.ref (He.ga K "first_wrong"))
  g_need_rising : mg "need_rising" = some (.ref (He.ga K "need_rising"))
  g_joined : mg "joined" = some (.ref (He.ga K "joined"))
  g_place_in : mg "place_in" = some (.ref (He.ga K "place_in"))
  k_LETTERS : ∃ t, mg "LETTERS" = some (.str "abcdefghijklmnopqrstuvwxyz" t)
  k_FIGURES : ∃ t, mg "FIGURES" = some (.str "0123456789" t)
  k_LONGEST : ∃ t, mg "LONGEST" = some (.int 6 t)
  k_PART : ∃ t, mg "PART" = some (.int 60 t)
  g_is_whole : mg "is_whole" = some (.ref (He.ga K "is_whole"))
  g_figures_of : mg "figures_of" = some (.ref (He.ga K "figures_of"))
  g_is_name : mg "is_name" = some (.ref (He.ga K "is_name"))
  g_is_figures : mg "is_figures" = some (.ref (He.ga K "is_figures"))
  g_is_points : mg "is_points" = some (.ref (He.ga K "is_points"))
  g_is_maker : mg "is_maker" = some (.ref (He.ga K "is_maker"))
  g_is_letters : mg "is_letters" = some (.ref (He.ga K "is_letters"))
  k_MOST_MAKERS : ∃ t, mg "MOST_MAKERS" = some (.int 3 t)
  k_FIRST_YEAR : ∃ t, mg "FIRST_YEAR" = some (.int 1000 t)
  k_LAST_YEAR : ∃ t, mg "LAST_YEAR" = some (.int 2999 t)
  k_GREATEST : ∃ t, mg "GREATEST" = some (.int 9999 t)
  g_need_year : mg "need_year" = some (.ref (He.ga K "need_year"))
  g_need_copy : mg "need_copy" = some (.ref (He.ga K "need_copy"))
  g_makers_in : mg "makers_in" = some (.ref (He.ga K "makers_in"))
  g_Mark : mg "Mark" = some (.ref (He.ga K "Mark"))
  c_Mark : Cls K (He.ga K "Mark")
  mk_Mark : Mk K (He.ga K "Mark") (He.ma K (He.ga K "Mark") "__init__")
  n_Mark_kept_copy : NoAttr K (He.ga K "Mark") "kept_copy"
  n_Mark_kept_letters : NoAttr K (He.ga K "Mark") "kept_letters"
  n_Mark_kept_makers : NoAttr K (He.ga K "Mark") "kept_makers"
  n_Mark_kept_number : NoAttr K (He.ga K "Mark") "kept_number"
  n_Mark_kept_points : NoAttr K (He.ga K "Mark") "kept_points"
  n_Mark_kept_text : NoAttr K (He.ga K "Mark") "kept_text"
  n_Mark_kept_year : NoAttr K (He.ga K "Mark") "kept_year"
  m_Mark_text_of : Meth K (He.ga K "Mark") "text_of" (He.ma K (He.ga K "Mark") "text_of")
  m_Mark_eq : Meth K (He.ga K "Mark") "__eq__" (He.ma K (He.ga K "Mark") "__eq__")
  m_Mark_str : Meth K (He.ga K "Mark") "__str__" (He.ma K (He.ga K "Mark") "__str__")
  m_Mark_key : Meth K (He.ga K "Mark") "key" (He.ma K (He.ga K "Mark") "key")
  m_Mark_ahead : Meth K (He.ga K "Mark") "ahead" (He.ma K (He.ga K "Mark") "ahead")
  g_law_cell_at : mg "_law_cell_at" = some (.ref (He.ga K "_law_cell_at"))
  g_law_pool : mg "_law_pool" = some (.ref (He.ga K "_law_pool"))
  g_law_take : mg "_law_take" = some (.ref (He.ga K "_law_take"))
  g_law_figures : mg "_law_figures" = some (.ref (He.ga K "_law_figures"))
  g_law_maker : mg "_law_maker" = some (.ref (He.ga K "_law_maker"))
  g_law_parts : mg "_law_parts" = some (.ref (He.ga K "_law_parts"))
  g_law_near_word : mg "_law_near_word" = some (.ref (He.ga K "_law_near_word"))
  g_law_near_makers : mg "_law_near_makers" = some (.ref (He.ga K "_law_near_makers"))
  g_law_near_year : mg "_law_near_year" = some (.ref (He.ga K "_law_near_year"))
  g_law_near_copy : mg "_law_near_copy" = some (.ref (He.ga K "_law_near_copy"))
  g_law_near : mg "_law_near" = some (.ref (He.ga K "_law_near"))
  g_law_mark : mg "_law_mark" = some (.ref (He.ga K "_law_mark"))
  g_law_key : mg "_law_key" = some (.ref (He.ga K "_law_key"))
  g_law_order : mg "_law_order" = some (.ref (He.ga K "_law_order"))
  g_law_whole : mg "_law_whole" = some (.ref (He.ga K "_law_whole"))
  g_law_cells : mg "_law_cells" = some (.ref (He.ga K "_law_cells"))
  g_law_sides : mg "_law_sides" = some (.ref (He.ga K "_law_sides"))
  g_law_same : mg "_law_same" = some (.ref (He.ga K "_law_same"))
  g_law_marks : mg "_law_marks" = some (.ref (He.ga K "_law_marks"))
  g_law_both : mg "_law_both" = some (.ref (He.ga K "_law_both"))
  g_law_places : mg "_law_places" = some (.ref (He.ga K "_law_places"))
  g_law_refused : mg "_law_refused" = some (.ref (He.ga K "_law_refused"))
  g_law_spoilt : mg "_law_spoilt" = some (.ref (He.ga K "_law_spoilt"))
  g_law : mg "law" = some (.ref (He.ga K "law"))
  b_len : mg "len" = none
  b_isinstance : mg "isinstance" = none
  b_all : mg "all" = none
  b_max : mg "max" = none
  b_int : mg "int" = none
  b_str : mg "str" = none
  b_bool : mg "bool" = none
  b_list : mg "list" = none
  b_tuple : mg "tuple" = none
  b_range : mg "range" = none
  b_zip : mg "zip" = none
  b_sorted : mg "sorted" = none
  b_divmod : mg "divmod" = none
  b_ValueError : mg "ValueError" = none
  me_MarkError : U.MeC K (He.ga K "MarkError")
  o_NotRising : OexC K (He.ga K "NotRising")
  x_NotRising : ExcC K (He.ga K "NotRising")
  on_Mark : U.OwnNe K (He.ga K "Mark")
  q_NotRising_MarkError : PySem.W.kitOne K (.ref (He.ga K "NotRising")) (.ref (He.ga K "MarkError")) = some true
  q_NotRising_ValueError : PySem.W.kitOne K (.ref (He.ga K "NotRising")) (.type "ValueError") = some true
  h_NotRising_NotRising : PySem.W.exmOne K (.ref (He.ga K "NotRising")) (.ref (He.ga K "NotRising")) = some true
structure Txt [U.QN] (K : PySem.W.Frag) (mg : PySem.Str → Option Value) (w : World) (base : Heap) : Prop extends Txt0 K mg w where
  tb0 : True
  tq_law_sides : LamX.TabB base mg (He.cT K ("_law_sides", none)).1 (He.cT K ("_law_sides", none)).2
  tm_law_sides : ((He.cT K ("_law_sides", none)).2, ((d_law_sides.qual ++ ".<locals>." ++ "<lambda>") : PySem.Str)) ∈ U.QN.tabs
  tu_law_sides : ∀ p ∈ U.QN.tabs, p.1 = (He.cT K ("_law_sides", none)).2 → p.2 = ((d_law_sides.qual ++ ".<locals>." ++ "<lambda>") : PySem.Str)
theorem txt_of {K : PySem.W.Frag} {h : Heap} {mg : PySem.Str → Option Value} {w : World} (X : K.In h) (G : h.Ns mainGlobals mg) (e : He.SaysX fa fn ts tf ex w h K) : Txt0 K mg w := by
  have c := e.t.d
  have z : (exs K).all id = true := e.more
  exact {
    f_NotRising_init := c.def_ 0 (d := d_NotRising_init) rfl
    f_order := c.def_ 1 (d := d_order) rfl
    f_first_wrong := c.def_ 2 (d := d_first_wrong) rfl
    f_need_rising := c.def_ 3 (d := d_need_rising) rfl
    f_joined := c.def_ 4 (d := d_joined) rfl
    f_place_in := c.def_ 5 (d := d_place_in) rfl
    f_is_whole := c.def_ 6 (d := d_is_whole) rfl
    f_figures_of := c.def_ 7 (d := d_figures_of) rfl
    f_is_name := c.def_ 8 (d := d_is_name) rfl
    f_is_figures := c.def_ 9 (d := d_is_figures) rfl
    f_is_points := c.def_ 10 (d := d_is_points) rfl
    f_is_maker := c.def_ 11 (d := d_is_maker) rfl
    f_is_letters := c.def_ 12 (d := d_is_letters) rfl
    f_need_year := c.def_ 13 (d := d_need_year) rfl
    f_need_copy := c.def_ 14 (d := d_need_copy) rfl
    f_makers_in := c.def_ 15 (d := d_makers_in) rfl
    f_Mark_init := c.def_ 16 (d := d_Mark_init) rfl
    f_Mark_text_of := c.def_ 17 (d := d_Mark_text_of) rfl
    f_Mark_eq := c.def_ 18 (d := d_Mark_eq) rfl
    f_Mark_str := c.def_ 19 (d := d_Mark_str) rfl
    f_Mark_key := c.def_ 20 (d := d_Mark_key) rfl
    f_Mark_ahead := c.def_ 21 (d := d_Mark_ahead) rfl
    f_law_cell_at := c.def_ 22 (d := d_law_cell_at) rfl
    f_law_pool := c.def_ 23 (d := d_law_pool) rfl
    f_law_take := c.def_ 24 (d := d_law_take) rfl
    f_law_figures := c.def_ 25 (d := d_law_figures) rfl
    f_law_maker := c.def_ 26 (d := d_law_maker) rfl
    f_law_parts := c.def_ 27 (d := d_law_parts) rfl
    f_law_near_word := c.def_ 28 (d := d_law_near_word) rfl
    f_law_near_makers := c.def_ 29 (d := d_law_near_makers) rfl
    f_law_near_year := c.def_ 30 (d := d_law_near_year) rfl
    f_law_near_copy := c.def_ 31 (d := d_law_near_copy) rfl
    f_law_near := c.def_ 32 (d := d_law_near) rfl
    f_law_mark := c.def_ 33 (d := d_law_mark) rfl
    f_law_key := c.def_ 34 (d := d_law_key) rfl
    f_law_order := c.def_ 35 (d := d_law_order) rfl
    f_law_whole := c.def_ 36 (d := d_law_whole) rfl
    f_law_cells := c.def_ 37 (d := d_law_cells) rfl
    f_law_sides := c.def_ 38 (d := d_law_sides) rfl
    f_law_same := c.def_ 39 (d := d_law_same) rfl
    f_law_marks := c.def_ 40 (d := d_law_marks) rfl
    f_law_both := c.def_ 41 (d := d_law_both) rfl
    f_law_places := c.def_ 42 (d := d_law_places) rfl
    f_law_refused := c.def_ 43 (d := d_law_refused) rfl
    f_law_spoilt := c.def_ 44 (d := d_law_spoilt) rfl
    f_law := c.def_ 45 (d := d_law) rfl
    g_MarkError := He.glo_ok X G (c.fact 0 (f := .glo "MarkError") rfl)
    g_NotRising := He.glo_ok X G (c.fact 1 (f := .glo "NotRising") rfl)
    n_NotRising_at := He.noat_ok (c.fact 2 (f := .noat "NotRising" "at") rfl)
    m_NotRising_init := He.meth_ok (c.fact 3 (f := .meth "NotRising" "__init__") rfl)
    g_order := He.glo_ok X G (c.fact 4 (f := .glo "order") rfl)
    g_first_wrong := He.glo_ok X G (c.fact 5 (f := .glo "first_wrong") rfl)
    g_need_rising := He.glo_ok X G (c.fact 6 (f := .glo "need_rising") rfl)
    g_joined := He.glo_ok X G (c.fact 7 (f := .glo "joined") rfl)
    g_place_in := He.glo_ok X G (c.fact 8 (f := .glo "place_in") rfl)
    k_LETTERS := He.str_ok X G (c.fact 9 (f := .str "LETTERS" "abcdefghijklmnopqrstuvwxyz") rfl)
    k_FIGURES := He.str_ok X G (c.fact 10 (f := .str "FIGURES" "0123456789") rfl)
    k_LONGEST := He.int_ok X G (c.fact 11 (f := .int "LONGEST" 6) rfl)
    k_PART := He.int_ok X G (c.fact 12 (f := .int "PART" 60) rfl)
    g_is_whole := He.glo_ok X G (c.fact 13 (f := .glo "is_whole") rfl)
    g_figures_of := He.glo_ok X G (c.fact 14 (f := .glo "figures_of") rfl)
    g_is_name := He.glo_ok X G (c.fact 15 (f := .glo "is_name") rfl)
    g_is_figures := He.glo_ok X G (c.fact 16 (f := .glo "is_figures") rfl)
    g_is_points := He.glo_ok X G (c.fact 17 (f := .glo "is_points") rfl)
    g_is_maker := He.glo_ok X G (c.fact 18 (f := .glo "is_maker") rfl)
    g_is_letters := He.glo_ok X G (c.fact 19 (f := .glo "is_letters") rfl)
    k_MOST_MAKERS := He.int_ok X G (c.fact 20 (f := .int "MOST_MAKERS" 3) rfl)
    k_FIRST_YEAR := He.int_ok X G (c.fact 21 (f := .int "FIRST_YEAR" 1000) rfl)
    k_LAST_YEAR := He.int_ok X G (c.fact 22 (f := .int "LAST_YEAR" 2999) rfl)
    k_GREATEST := He.int_ok X G (c.fact 23 (f := .int "GREATEST" 9999) rfl)
    g_need_year := He.glo_ok X G (c.fact 24 (f := .glo "need_year") rfl)
    g_need_copy := He.glo_ok X G (c.fact 25 (f := .glo "need_copy") rfl)
    g_makers_in := He.glo_ok X G (c.fact 26 (f := .glo "makers_in") rfl)
    g_Mark := He.glo_ok X G (c.fact 27 (f := .glo "Mark") rfl)
    c_Mark := He.cls_ok (c.fact 28 (f := .cls "Mark") rfl)
    mk_Mark := He.mkr_ok (c.fact 29 (f := .mkr "Mark") rfl)
    n_Mark_kept_copy := He.noat_ok (c.fact 30 (f := .noat "Mark" "kept_copy") rfl)
    n_Mark_kept_letters := He.noat_ok (c.fact 31 (f := .noat "Mark" "kept_letters") rfl)
    n_Mark_kept_makers := He.noat_ok (c.fact 32 (f := .noat "Mark" "kept_makers") rfl)
    n_Mark_kept_number := He.noat_ok (c.fact 33 (f := .noat "Mark" "kept_number") rfl)
    n_Mark_kept_points := He.noat_ok (c.fact 34 (f := .noat "Mark" "kept_points") rfl)
    n_Mark_kept_text := He.noat_ok (c.fact 35 (f := .noat "Mark" "kept_text") rfl)
    n_Mark_kept_year := He.noat_ok (c.fact 36 (f := .noat "Mark" "kept_year") rfl)
    m_Mark_text_of := He.meth_ok (c.fact 37 (f := .meth "Mark" "text_of") rfl)
    m_Mark_eq := He.meth_ok (c.fact 38 (f := .meth "Mark" "__eq__") rfl)
    m_Mark_str := He.meth_ok (c.fact 39 (f := .meth "Mark" "__str__") rfl)
    m_Mark_key := He.meth_ok (c.fact 40 (f := .meth "Mark" "key") rfl)
    m_Mark_ahead := He.meth_ok (c.fact 41 (f := .meth "Mark" "ahead") rfl)
    g_law_cell_at := He.glo_ok X G (c.fact 42 (f := .glo "_law_cell_at") rfl)
    g_law_pool := He.glo_ok X G (c.fact 43 (f := .glo "_law_pool") rfl)
    g_law_take := He.glo_ok X G (c.fact 44 (f := .glo "_law_take") rfl)
    g_law_figures := He.glo_ok X G (c.fact 45 (f := .glo "_law_figures") rfl)
    g_law_maker := He.glo_ok X G (c.fact 46 (f := .glo "_law_maker") rfl)
    g_law_parts := He.glo_ok X G (c.fact 47 (f := .glo "_law_parts") rfl)
    g_law_near_word := He.glo_ok X G (c.fact 48 (f := .glo "_law_near_word") rfl)
    g_law_near_makers := He.glo_ok X G (c.fact 49 (f := .glo "_law_near_makers") rfl)
    g_law_near_year := He.glo_ok X G (c.fact 50 (f := .glo "_law_near_year") rfl)
    g_law_near_copy := He.glo_ok X G (c.fact 51 (f := .glo "_law_near_copy") rfl)
    g_law_near := He.glo_ok X G (c.fact 52 (f := .glo "_law_near") rfl)
    g_law_mark := He.glo_ok X G (c.fact 53 (f := .glo "_law_mark") rfl)
    g_law_key := He.glo_ok X G (c.fact 54 (f := .glo "_law_key") rfl)
    g_law_order := He.glo_ok X G (c.fact 55 (f := .glo "_law_order") rfl)
    g_law_whole := He.glo_ok X G (c.fact 56 (f := .glo "_law_whole") rfl)
    g_law_cells := He.glo_ok X G (c.fact 57 (f := .glo "_law_cells") rfl)
    g_law_sides := He.glo_ok X G (c.fact 58 (f := .glo "_law_sides") rfl)
    g_law_same := He.glo_ok X G (c.fact 59 (f := .glo "_law_same") rfl)
    g_law_marks := He.glo_ok X G (c.fact 60 (f := .glo "_law_marks") rfl)
    g_law_both := He.glo_ok X G (c.fact 61 (f := .glo "_law_both") rfl)
    g_law_places := He.glo_ok X G (c.fact 62 (f := .glo "_law_places") rfl)
    g_law_refused := He.glo_ok X G (c.fact 63 (f := .glo "_law_refused") rfl)
    g_law_spoilt := He.glo_ok X G (c.fact 64 (f := .glo "_law_spoilt") rfl)
    g_law := He.glo_ok X G (c.fact 65 (f := .glo "law") rfl)
    b_len := He.free_ok X G (c.fact 66 (f := .free "len") rfl)
    b_isinstance := He.free_ok X G (c.fact 67 (f := .free "isinstance") rfl)
    b_all := He.free_ok X G (c.fact 68 (f := .free "all") rfl)
    b_max := He.free_ok X G (c.fact 69 (f := .free "max") rfl)
    b_int := He.free_ok X G (c.fact 70 (f := .free "int") rfl)
    b_str := He.free_ok X G (c.fact 71 (f := .free "str") rfl)
    b_bool := He.free_ok X G (c.fact 72 (f := .free "bool") rfl)
    b_list := He.free_ok X G (c.fact 73 (f := .free "list") rfl)
    b_tuple := He.free_ok X G (c.fact 74 (f := .free "tuple") rfl)
    b_range := He.free_ok X G (c.fact 75 (f := .free "range") rfl)
    b_zip := He.free_ok X G (c.fact 76 (f := .free "zip") rfl)
    b_sorted := He.free_ok X G (c.fact 77 (f := .free "sorted") rfl)
    b_divmod := He.free_ok X G (c.fact 78 (f := .free "divmod") rfl)
    b_ValueError := He.free_ok X G (c.fact 79 (f := .free "ValueError") rfl)
    me_MarkError := U.meB_ok (List.all_eq_true.mp z _ (List.mem_of_getElem? (i := 0) (by rfl)))
    o_NotRising := U.oexB_ok (List.all_eq_true.mp z _ (List.mem_of_getElem? (i := 1) (by rfl)))
    x_NotRising := U.excB_ok (List.all_eq_true.mp z _ (List.mem_of_getElem? (i := 2) (by rfl)))
    on_Mark := U.ownNeB_ok (List.all_eq_true.mp z _ (List.mem_of_getElem? (i := 3) (by rfl)))
    q_NotRising_MarkError := of_decide_eq_true (List.all_eq_true.mp z _ (List.mem_of_getElem? (i := 4) (by rfl)))
    q_NotRising_ValueError := of_decide_eq_true (List.all_eq_true.mp z _ (List.mem_of_getElem? (i := 5) (by rfl)))
    h_NotRising_NotRising := of_decide_eq_true (List.all_eq_true.mp z _ (List.mem_of_getElem? (i := 6) (by rfl)))
  }
@[reducible] def qn (K : PySem.W.Frag) : U.QN := ⟨tabsK K⟩
theorem txt_base {K : PySem.W.Frag} {base : Heap} {mg : PySem.Str → Option Value} {w : World} (T : Txt0 K mg w) (hT : ∀ p ∈ tf.map (He.cT K), LamX.TabB base mg p.1 p.2) : @Txt (qn K) K mg w base := by
  letI := qn K
  exact {
    toTxt0 := T
    tb0 := trivial
    tq_law_sides := hT _ (List.mem_map.mpr ⟨("_law_sides", none), List.mem_of_getElem? (i := 0) (by rfl), rfl⟩)
    tm_law_sides := (List.mem_of_getElem? (i := 0) (by rfl) : _ ∈ tabsK K)
    tu_law_sides := fun p hp e => by
      have hp : p ∈ tabsK K := hp
      rw [List.mem_singleton.mp (show p ∈ [_] from hp)]
  }
end T
local macro_rules | `(tactic| walk_at "usd") => `(tactic| first | with_reducible assumption | omega | (simp only [U.z24, List.length_cons, List.length_nil, List.length_append, List.length_map]; omega) | rfl | (constructor <;> omega))
local macro_rules | `(tactic| walk_at "ugo") => `(tactic| repeat (first | with_reducible refine U.Go.go ?_ | ((with_reducible refine U.Sd.k ?_ ?_); focus walk_at "usd") | ((with_reducible refine U.fld_of ?_); refine ⟨_, rfl, ?_⟩) | ((with_reducible refine U.meth_of ?_); refine ⟨rfl, ?_⟩) | ((with_reducible refine U.sfld_p ?_); first | (refine U.sfld_of (gs := [_]) (by simp only [List.length_cons, List.length_nil]; omega) rfl ?_) | (refine U.sfld_of (gs := [_, _]) (by simp only [List.length_cons, List.length_nil]; omega) rfl ?_) | (refine U.sfld_of (gs := [_, _, _]) (by simp only [List.length_cons, List.length_nil]; omega) rfl ?_) | (refine U.sfld_of (gs := [_, _, _, _]) (by simp only [List.length_cons, List.length_nil]; omega) rfl ?_) | (refine U.sfld_of (gs := [_, _, _, _, _]) (by simp only [List.length_cons, List.length_nil]; omega) rfl ?_) | (refine U.sfld_of (gs := [_, _, _, _, _, _]) (by simp only [List.length_cons, List.length_nil]; omega) rfl ?_) | (refine U.sfld_of (gs := [_, _, _, _, _, _, _]) (by simp only [List.length_cons, List.length_nil]; omega) rfl ?_) | (refine U.sfld_of (gs := [_, _, _, _, _, _, _, _]) (by simp only [List.length_cons, List.length_nil]; omega) rfl ?_) | (refine U.sfld_of (gs := [_, _, _, _, _, _, _, _, _]) (by simp only [List.length_cons, List.length_nil]; omega) rfl ?_))))
local macro_rules | `(tactic| walk_at "uwalk") => `(tactic| (walk_at "ugo"; try (refine U.br2 (fun _ => ?_) (fun _ => ?_) <;> walk_at "uwalk")))
local macro_rules | `(tactic| walk_at "ust0") => `(tactic| simp only [U.cx_K, U.cx_K0, U.cx_prog, U.cx_w, L2.start, List.map_cons, List.map_nil, List.length_cons, List.length_nil, List.replicate, List.cons_append, List.nil_append, Nat.reduceAdd, Nat.reduceSub])
local macro_rules | `(tactic| walk_at "ubo") => `(tactic| (rw [Bool.eq_iff_iff]; simp only [Bool.and_eq_true, Bool.or_eq_true, Bool.not_eq_true', decide_eq_true_eq, decide_eq_false_iff_not, Bool.false_eq_true, iff_true, iff_false, true_iff, false_iff, not_true_eq_false, not_false_eq_true, and_true, true_and, and_false, false_and, or_true, true_or, or_false, false_or]; omega))

namespace T
open PySem PySem.Spec PyProof.Rows L2 U
open SX (S)
variable [QN]
/-! ### the signs -/
def letters : List Nat := (List.range 26).map (· + 97)
def figs : List Nat := (List.range 10).map (· + 48)
abbrev Lt (c : Nat) : Prop := 97 ≤ c ∧ c ≤ 122
abbrev Fg (c : Nat) : Prop := 48 ≤ c ∧ c ≤ 57
theorem mem_letters {c : Nat} : c ∈ ([97, 98, 99, 100, 101, 102, 103, 104, 105, 106, 107, 108, 109, 110, 111, 112, 113, 114, 115, 116, 117, 118, 119, 120, 121, 122] : List Nat) ↔ Lt c := by
  simp only [List.mem_cons, List.not_mem_nil, or_false, Lt]; omega
theorem mem_figs {c : Nat} : c ∈ ([48, 49, 50, 51, 52, 53, 54, 55, 56, 57] : List Nat) ↔ Fg c := by
  simp only [List.mem_cons, List.not_mem_nil, or_false, Fg]; omega
/-- figures, at least one, the last one no 0 -/
structure Figs (a : List Nat) : Prop where
  all : ∀ c ∈ a, Fg c
  last : ∃ c, atI a (-1) = some c ∧ c ≠ 48
structure Name (a : List Nat) : Prop where
  len : 1 ≤ a.length ∧ a.length ≤ 3
  all : ∀ c ∈ a, Lt c
structure Maker (a : List Nat) : Prop where
  ex : ∃ c t, a = c :: t ∧ Lt c ∧ Figs t
section
variable {P : Program} {w : World} {K : PySem.W.Frag} {mg : PySem.Str → Option Value} {base : Heap}
/-! is_whole -/
def hiOk (i : Int) : V → Bool | .int h => decide (i ≤ h) | _ => true
def sp_is_whole : Sp := fun vs H Q _ => ∃ (i lo : Int) (hi : V), vs = [.int i, .int lo, hi] ∧ (hi = .non ∨ ∃ h, hi = .int h) ∧ Q (.bl (decide (lo ≤ i) && hiOk i hi)) H
theorem ok_is_whole (T : Txt K mg w base) : ∃ fd, FunD K d_is_whole.name d_is_whole.qual d_is_whole.params d_is_whole.body d_is_whole.scope (d_is_whole.dvs K) (d_is_whole.kws K) (He.fAd K d_is_whole.at_) fd ∧ FnOk P w K mg base C8.CX0 1 (He.fAd K d_is_whole.at_) fd ["thing", "low", "high"] sp_is_whole := by
  obtain ⟨fd, F⟩ := T.f_is_whole
  refine ⟨fd, F, ?_⟩
  have sc := (show FnScope ["thing", "low", "high"] ["thing", "low", "high"] (defScope s_is_whole) from ⟨rfl, rfl, rfl, by decide +kernel, rfl, by decide +kernel, by decide +kernel⟩)
  refine F.ok sc (fun vs H Q E h => ?_) (fun cdv A outer s H vs Q E hr h => ?_)
  · obtain ⟨i, lo, hi, rfl, hh, k⟩ := h; rfl
  obtain ⟨i, lo, hi, rfl, hh, k⟩ := h
  have hu := hr.units
  refine ⟨_, PSs.nox (pss_cons (ps_if (PW.pt (pw_or (pt_not (pt_val (pe_callB (U.cu_isi (K := K)) (by rfl) T.b_isinstance (by decide +kernel) (pa_cons (pv 0) (pa_cons (U.pe_ty (n := "int") rfl T.b_int (by decide +kernel)) pa_nil))))) (pw_or (pt_val (pe_callB (U.cu_isi (K := K)) (by rfl) T.b_isinstance (by decide +kernel) (pa_cons (pv 0) (pa_cons (U.pe_ty (n := "bool") rfl T.b_bool (by decide +kernel)) pa_nil)))) (pw_or1 (pt_cmpR (U.ou_ltD (K := K) hu) (pv 0) (pv 1) (nomark _)))))) (pss_one (ps_ret pe_bl)) pss_nil)
  (pss_one (ps_ret (pe_or (pe_cmpR U.ou_is (pv 2) pe_non (nomark _)) (pe_one (pe_cmpR (U.ou_leD (K := K) hu) (pv 0) (pv 2) (nomark _))))))), ?_⟩
  walk_at "ust0"
  rcases hh with rfl | ⟨h, rfl⟩
  · walk_at "uwalk"
    · exact qb k (by simp only [hiOk]; walk_at "ubo")
    · exact qb k (by simp only [hiOk]; walk_at "ubo")
  · walk_at "uwalk"
    · exact qb k (by simp only [hiOk]; walk_at "ubo")
    · exact qb k (by simp only [hiOk]; walk_at "ubo")
theorem c_is_whole (T : Txt K mg w base) : C8.Cal P w K mg base 1 "is_whole" sp_is_whole [] := by
  obtain ⟨fd, F, ok⟩ := ok_is_whole (P := P) (w := w) (base := base) T
  exact cal_d F T.g_is_whole (F.binds1 3 1 (by intro z; cases z) rfl fun _ _ _ _ _ _ _ us its hl hl2 => match us, its, hl, hl2 with | [_, _, _], [_], _, _ => ⟨_, rfl, rfl⟩) ok

instance {i lo h : Int} {H : Hp} {Q : VK} {E : XK} : Go (sp_is_whole [.int i, .int lo, .int h] H Q E) (Q (.bl (decide (lo ≤ i ∧ i ≤ h))) H) := ⟨fun k => ⟨i, lo, _, rfl, .inr ⟨h, rfl⟩, qb k (by simp [hiOk])⟩⟩
instance {i lo : Int} {H : Hp} {Q : VK} {E : XK} : Go (sp_is_whole [.int i, .int lo, .non] H Q E) (Q (.bl (decide (lo ≤ i))) H) := ⟨fun k => ⟨i, lo, _, rfl, .inl rfl, qb k (by simp [hiOk])⟩⟩
/-! is_name, of what is one -/
theorem fm_all {α : Type} (l : List α) (f : α → Bool) : l.filterMap (fun c => some (V.bl (f c))) = (l.map f).map V.bl := by
  induction l with
  | nil => rfl
  | cons a l ih => simp [ih]
theorem all_id {α : Type} (l : List α) (f : α → Bool) : (l.map f).all id = l.all f := by
  induction l with
  | nil => rfl
  | cons a l ih => simp [ih]
theorem c_is_whole_2 (T : Txt K mg w base) : C8.Cal P w K mg base 1 "is_whole" sp_is_whole [.non] := by
  obtain ⟨fd, F, ok⟩ := ok_is_whole (P := P) (w := w) (base := base) T
  exact cal_d F T.g_is_whole (F.binds1 2 0 (by intro z; cases z) rfl fun _ _ _ _ _ _ _ us its hl hl2 => match us, its, hl, hl2 with | [_, _], [_], _, _ => ⟨_, rfl, rfl⟩) ok
def sp_is_name : Sp := fun vs H Q _ => ∃ (a : List Nat), vs = [.str (S a)] ∧ a.length ≤ 6 ∧ 1 ≤ a.length ∧ (∀ c ∈ a, Lt c) ∧ ∀ H', Ex H H' → Q (.bl true) H'
theorem ok_is_name (T : Txt K mg w base) : ∃ fd, FunD K d_is_name.name d_is_name.qual d_is_name.params d_is_name.body d_is_name.scope (d_is_name.dvs K) (d_is_name.kws K) (He.fAd K d_is_name.at_) fd ∧ FnOk P w K mg base C8.CX0 1 (He.fAd K d_is_name.at_) fd ["thing"] sp_is_name := by
  obtain ⟨fd, F⟩ := T.f_is_name
  refine ⟨fd, F, ?_⟩
  have sc := (show FnScope ["thing", "sign"] ["thing"] (defScope s_is_name) from ⟨rfl, rfl, rfl, by decide +kernel, rfl, by decide +kernel, by decide +kernel⟩)
  refine F.ok sc (fun vs H Q E h => ?_) (fun cdv A outer s H vs Q E hr h => ?_)
  · obtain ⟨a, rfl, l1, l2, ha, k⟩ := h; rfl
  obtain ⟨a, rfl, l1, l2, ha, k⟩ := h
  have hu := hr.units
  refine ⟨_, PSs.nox (pss_cons (ps_if (PW.pt (pw_or (pt_not (pt_val (pe_callB (U.cu_isi (K := K)) (by rfl) T.b_isinstance (by decide +kernel) (pa_cons (pv 0) (pa_cons (U.pe_ty (n := "str") rfl T.b_str (by decide +kernel)) pa_nil))))) (pw_or1 (pt_not (pt_chain (U.ou_leD (K := K) hu) (U.ou_leD (K := K) hu) pe_int (pe_callB (U.cu_len (K := K)) (by rfl) T.b_len (by decide +kernel) (pa_cons (pv 0) pa_nil)) (U.pe_gi rfl T.k_LONGEST)))))) (pss_one (ps_ret pe_bl)) pss_nil)
  (pss_one (ps_ret (pe_callB (U.cu_all (K := K) rfl) (by rfl) T.b_all (by decide +kernel) (pa_cons (pe_lc (own := [("sign", 1)]) (by rfl) sc.nd (pi_str (pv 0)) (blkOk_by (own := [("sign", 1)]) (N := ["thing", "sign"]) (sc := (defScope s_is_name)) (by decide +kernel)) (fun _ _ _ _ _ => (pg_name (i := 1) sc.nd rfl (by first | exact Or.inl rfl | exact Or.inr rfl))) (fun _ _ _ _ _ => pts_nil) (fun _ _ _ _ _ => (pe_cmpR (U.ou_in (K := K)) (pv 1) (U.pe_gs (l := [97, 98, 99, 100, 101, 102, 103, 104, 105, 106, 107, 108, 109, 110, 111, 112, 113, 114, 115, 116, 117, 118, 119, 120, 121, 122]) rfl T.k_LETTERS) rfl))) pa_nil))))), ?_⟩
  walk_at "ust0"
  walk_at "ugo"
  refine brT (by omega) ?_
  walk_at "ugo"
  refine brT (by omega) ?_
  walk_at "ugo"
  refine lc_s (σw := [some (.str (S a)), none]) rfl (fun c => some (.bl (decide (Lt c)))) (by walk_at "usd") (fun c H' A B hc e hA hB => ?_) (fun D H' hD e hL => ?_)
  · walk_at "ugo"
    exact hA _ (by simp only [mem_letters])
  · rw [fm_all] at hL
    walk_at "ugo"
    refine all_b (LR.lr (K := K) (H := H') (a := D)) ?_
    refine qb (k _ e) ?_
    rw [all_id]
    exact (List.all_eq_true.mpr fun c hc => by simpa using ha c hc).symm
theorem c_is_name (T : Txt K mg w base) : C8.Cal P w K mg base 1 "is_name" sp_is_name [] := by
  obtain ⟨fd, F, ok⟩ := ok_is_name (P := P) (w := w) (base := base) T
  exact cal_n F T.g_is_name (F.bindsN fun _ _ _ _ _ _ us hl => match us, hl with | [_], _ => rfl) ok
/-! is_figures, is_points, is_maker, is_letters: of what are such -/
def sp_is_figures : Sp := fun vs H Q _ => ∃ (a : List Nat), vs = [.str (S a)] ∧ a.length ≤ 1000 ∧ Figs a ∧ ∀ H', Ex H H' → Q (.bl true) H'
theorem ok_is_figures (T : Txt K mg w base) : ∃ fd, FunD K d_is_figures.name d_is_figures.qual d_is_figures.params d_is_figures.body d_is_figures.scope (d_is_figures.dvs K) (d_is_figures.kws K) (He.fAd K d_is_figures.at_) fd ∧ FnOk P w K mg base C8.CX0 1 (He.fAd K d_is_figures.at_) fd ["thing"] sp_is_figures := by
  obtain ⟨fd, F⟩ := T.f_is_figures
  refine ⟨fd, F, ?_⟩
  have sc := (show FnScope ["thing", "sign"] ["thing"] (defScope s_is_figures) from ⟨rfl, rfl, rfl, by decide +kernel, rfl, by decide +kernel, by decide +kernel⟩)
  refine F.ok sc (fun vs H Q E h => ?_) (fun cdv A outer s H vs Q E hr h => ?_)
  · obtain ⟨a, rfl, l1, ha, k⟩ := h; rfl
  obtain ⟨a, rfl, l1, ha, k⟩ := h
  have hu := hr.units
  refine ⟨_, PSs.nox (pss_one (ps_ret (pe_and (pe_cmpR (U.ou_ne (K := K) hu) (pv 0) (U.pe_s (l := []) (by decide +kernel)) (nomark _)) (pe_and (pe_callB (U.cu_all (K := K) rfl) (by rfl) T.b_all (by decide +kernel) (pa_cons (pe_lc (own := [("sign", 1)]) (by rfl) sc.nd (pi_str (pv 0)) (blkOk_by (own := [("sign", 1)]) (N := ["thing", "sign"]) (sc := (defScope s_is_figures)) (by decide +kernel)) (fun _ _ _ _ _ => (pg_name (i := 1) sc.nd rfl (by first | exact Or.inl rfl | exact Or.inr rfl))) (fun _ _ _ _ _ => pts_nil) (fun _ _ _ _ _ => (pe_cmpR (U.ou_in (K := K)) (pv 1) (U.pe_gs (l := [48, 49, 50, 51, 52, 53, 54, 55, 56, 57]) rfl T.k_FIGURES) rfl))) pa_nil)) (pe_one (pe_cmpR (U.ou_ne (K := K) hu) (pe_ix (U.xu (K := K)) (pv 0) (pe_un un_neg pe_int) (fun _ _ => rfl)) (U.pe_s (l := [48]) (by decide +kernel)) (nomark _))))))), ?_⟩
  walk_at "ust0"
  obtain ⟨c, hc, h0⟩ := ha.last
  have hne : a ≠ [] := by rintro rfl; cases hc
  walk_at "ugo"
  rw [decide_eq_false hne]
  walk_at "ugo"
  refine lc_s (σw := [some (.str (S a)), none]) rfl (fun c => some (.bl (decide (Fg c)))) (by walk_at "usd") (fun c H' A B hc e hA hB => ?_) (fun D H' hD e hL => ?_)
  · walk_at "ugo"
    exact hA _ (by simp only [mem_figs])
  · rw [fm_all] at hL
    walk_at "ugo"
    refine all_b (LR.lr (K := K) (H := H') (a := D)) ?_
    rw [all_id, List.all_eq_true.mpr fun c hc => decide_eq_true (ha.all c hc)]
    walk_at "ugo"
    refine ix_sg (by walk_at "usd") hc ?_
    walk_at "ugo"
    exact qb (k _ e) (by simp [h0])
theorem c_is_figures (T : Txt K mg w base) : C8.Cal P w K mg base 1 "is_figures" sp_is_figures [] := by
  obtain ⟨fd, F, ok⟩ := ok_is_figures (P := P) (w := w) (base := base) T
  exact cal_n F T.g_is_figures (F.bindsN fun _ _ _ _ _ _ us hl => match us, hl with | [_], _ => rfl) ok
instance {a : List Nat} {H : Hp} {Q : VK} {E : XK} : Go (sp_is_figures [.str (S a)] H Q E) (Sd (a.length ≤ 1000) (Sd (Figs a) (∀ H', Ex H H' → Q (.bl true) H'))) := ⟨fun k => ⟨a, rfl, k.1, k.2.1, k.2.2⟩⟩
def sp_is_points : Sp := fun vs H Q _ => ∃ (a : List Nat), vs = [.str (S a)] ∧ a.length ≤ 1000 ∧ (a = [] ∨ Figs a) ∧ ∀ H', Ex H H' → Q (.bl true) H'
theorem ok_is_points (T : Txt K mg w base) : ∃ fd, FunD K d_is_points.name d_is_points.qual d_is_points.params d_is_points.body d_is_points.scope (d_is_points.dvs K) (d_is_points.kws K) (He.fAd K d_is_points.at_) fd ∧ FnOk P w K mg base C8.CX0 2 (He.fAd K d_is_points.at_) fd ["thing"] sp_is_points := by
  obtain ⟨fd, F⟩ := T.f_is_points
  refine ⟨fd, F, ?_⟩
  have sc := (show FnScope ["thing"] ["thing"] (defScope s_is_points) from ⟨rfl, rfl, rfl, by decide +kernel, rfl, by decide +kernel, by decide +kernel⟩)
  refine F.ok sc (fun vs H Q E h => ?_) (fun cdv A outer s H vs Q E hr h => ?_)
  · obtain ⟨a, rfl, l1, ha, k⟩ := h; rfl
  obtain ⟨a, rfl, l1, ha, k⟩ := h
  have hu := hr.units
  refine ⟨_, PSs.nox (pss_one (ps_ret (pe_and (pe_callB (U.cu_isi (K := K)) (by rfl) T.b_isinstance (by decide +kernel) (pa_cons (pv 0) (pa_cons (U.pe_ty (n := "str") rfl T.b_str (by decide +kernel)) pa_nil))) (pe_one (pe_or (pe_cmpR (U.ou_eq (K := K) hu) (pv 0) (U.pe_s (l := []) (by decide +kernel)) (nomark _)) (pe_one (C8.pe_c (c_is_figures T) hr (by decide) rfl (pa_cons (pv 0) pa_nil)))))))), ?_⟩
  walk_at "ust0"
  rcases ha with rfl | ha
  · walk_at "ugo"
    exact k _ ⟨kp_rfl⟩
  · have hne : a ≠ [] := by obtain ⟨c, hc, _⟩ := ha.last; rintro rfl; cases hc
    walk_at "ugo"
    rw [decide_eq_false hne]
    walk_at "ugo"
    exact k
theorem c_is_points (T : Txt K mg w base) : C8.Cal P w K mg base 2 "is_points" sp_is_points [] := by
  obtain ⟨fd, F, ok⟩ := ok_is_points (P := P) (w := w) (base := base) T
  exact cal_n F T.g_is_points (F.bindsN fun _ _ _ _ _ _ us hl => match us, hl with | [_], _ => rfl) ok
instance {a : List Nat} {H : Hp} {Q : VK} {E : XK} : Go (sp_is_points [.str (S a)] H Q E) (Sd (a.length ≤ 1000) (Sd (a = [] ∨ Figs a) (∀ H', Ex H H' → Q (.bl true) H'))) := ⟨fun k => ⟨a, rfl, k.1, k.2.1, k.2.2⟩⟩
def sp_is_maker : Sp := fun vs H Q _ => ∃ (a : List Nat), vs = [.str (S a)] ∧ a.length ≤ 1000 ∧ Maker a ∧ ∀ H', Ex H H' → Q (.bl true) H'
theorem ok_is_maker (T : Txt K mg w base) : ∃ fd, FunD K d_is_maker.name d_is_maker.qual d_is_maker.params d_is_maker.body d_is_maker.scope (d_is_maker.dvs K) (d_is_maker.kws K) (He.fAd K d_is_maker.at_) fd ∧ FnOk P w K mg base C8.CX0 2 (He.fAd K d_is_maker.at_) fd ["thing"] sp_is_maker := by
  obtain ⟨fd, F⟩ := T.f_is_maker
  refine ⟨fd, F, ?_⟩
  have sc := (show FnScope ["thing"] ["thing"] (defScope s_is_maker) from ⟨rfl, rfl, rfl, by decide +kernel, rfl, by decide +kernel, by decide +kernel⟩)
  refine F.ok sc (fun vs H Q E h => ?_) (fun cdv A outer s H vs Q E hr h => ?_)
  · obtain ⟨a, rfl, l1, ha, k⟩ := h; rfl
  obtain ⟨a, rfl, l1, ha, k⟩ := h
  have hu := hr.units
  refine ⟨_, PSs.nox (pss_cons (ps_if (PW.pt (pw_or (pt_not (pt_val (pe_callB (U.cu_isi (K := K)) (by rfl) T.b_isinstance (by decide +kernel) (pa_cons (pv 0) (pa_cons (U.pe_ty (n := "str") rfl T.b_str (by decide +kernel)) pa_nil))))) (pw_or1 (pt_cmpR (U.ou_eq (K := K) hu) (pv 0) (U.pe_s (l := []) (by decide +kernel)) (nomark _))))) (pss_one (ps_ret pe_bl)) pss_nil)
  (pss_one (ps_ret (pe_and (pe_cmpR (U.ou_in (K := K)) (pe_ix (U.xu (K := K)) (pv 0) pe_int (fun _ _ => rfl)) (U.pe_gs (l := [97, 98, 99, 100, 101, 102, 103, 104, 105, 106, 107, 108, 109, 110, 111, 112, 113, 114, 115, 116, 117, 118, 119, 120, 121, 122]) rfl T.k_LETTERS) rfl) (pe_one (C8.pe_c (c_is_figures T) hr (by decide) rfl (pa_cons (pe_slice (U.su (K := K)) (pv 0) (po_some pe_int) po_none) pa_nil))))))), ?_⟩
  walk_at "ust0"
  obtain ⟨c, t, rfl, hc, ht⟩ := ha.ex
  rw [List.length_cons] at l1
  walk_at "ugo"
  rw [decide_eq_false (List.cons_ne_nil _ _)]
  walk_at "ugo"
  refine ix_sg (by walk_at "usd") (c := c) (by simp [atI, ixN]) ?_
  walk_at "ugo"
  refine brT (mem_letters.mpr hc) ?_
  walk_at "ugo"
  refine sl_fr (by walk_at "usd") (by omega) ?_
  have e : List.drop (Int.toNat 1) (c :: t) = t := rfl
  rw [e]
  walk_at "ugo"
  exact k
theorem c_is_maker (T : Txt K mg w base) : C8.Cal P w K mg base 2 "is_maker" sp_is_maker [] := by
  obtain ⟨fd, F, ok⟩ := ok_is_maker (P := P) (w := w) (base := base) T
  exact cal_n F T.g_is_maker (F.bindsN fun _ _ _ _ _ _ us hl => match us, hl with | [_], _ => rfl) ok
instance {a : List Nat} {H : Hp} {Q : VK} {E : XK} : Go (sp_is_maker [.str (S a)] H Q E) (Sd (a.length ≤ 1000) (Sd (Maker a) (∀ H', Ex H H' → Q (.bl true) H'))) := ⟨fun k => ⟨a, rfl, k.1, k.2.1, k.2.2⟩⟩
instance {a : List Nat} {H : Hp} {Q : VK} {E : XK} : Go (sp_is_name [.str (S a)] H Q E) (Sd (a.length ≤ 6) (Sd (1 ≤ a.length) (Sd (∀ c ∈ a, Lt c) (∀ H', Ex H H' → Q (.bl true) H')))) := ⟨fun k => ⟨a, rfl, k.1, k.2.1, k.2.2.1, k.2.2.2⟩⟩
def sp_is_letters : Sp := fun vs H Q _ => ∃ (a : List Nat), vs = [.str (S a)] ∧ Name a ∧ ∀ H', Ex H H' → Q (.bl true) H'
theorem ok_is_letters (T : Txt K mg w base) : ∃ fd, FunD K d_is_letters.name d_is_letters.qual d_is_letters.params d_is_letters.body d_is_letters.scope (d_is_letters.dvs K) (d_is_letters.kws K) (He.fAd K d_is_letters.at_) fd ∧ FnOk P w K mg base C8.CX0 2 (He.fAd K d_is_letters.at_) fd ["thing"] sp_is_letters := by
  obtain ⟨fd, F⟩ := T.f_is_letters
  refine ⟨fd, F, ?_⟩
  have sc := (show FnScope ["thing"] ["thing"] (defScope s_is_letters) from ⟨rfl, rfl, rfl, by decide +kernel, rfl, by decide +kernel, by decide +kernel⟩)
  refine F.ok sc (fun vs H Q E h => ?_) (fun cdv A outer s H vs Q E hr h => ?_)
  · obtain ⟨a, rfl, ha, k⟩ := h; rfl
  obtain ⟨a, rfl, ha, k⟩ := h
  have hu := hr.units
  refine ⟨_, PSs.nox (pss_one (ps_ret (pe_and (C8.pe_c (c_is_name T) hr (by decide) rfl (pa_cons (pv 0) pa_nil)) (pe_one (pe_cmpR (U.ou_leD (K := K) hu) (pe_callB (U.cu_len (K := K)) (by rfl) T.b_len (by decide +kernel) (pa_cons (pv 0) pa_nil)) pe_int (nomark _)))))), ?_⟩
  walk_at "ust0"
  have l1 := ha.len.1
  have l2 := ha.len.2
  have l3 := ha.all
  walk_at "ugo"
  intro H' e
  walk_at "ugo"
  exact qb (k _ e) (by simp; omega)
theorem c_is_letters (T : Txt K mg w base) : C8.Cal P w K mg base 2 "is_letters" sp_is_letters [] := by
  obtain ⟨fd, F, ok⟩ := ok_is_letters (P := P) (w := w) (base := base) T
  exact cal_n F T.g_is_letters (F.bindsN fun _ _ _ _ _ _ us hl => match us, hl with | [_], _ => rfl) ok
instance {a : List Nat} {H : Hp} {Q : VK} {E : XK} : Go (sp_is_letters [.str (S a)] H Q E) (Sd (Name a) (∀ H', Ex H H' → Q (.bl true) H')) := ⟨fun k => ⟨a, rfl, k.1, k.2⟩⟩
/-! need_year, need_copy -/
def sp_need_year : Sp := fun vs H Q _ => ∃ y : V, vs = [y] ∧ (y = .non ∨ ∃ i : Int, y = .int i ∧ 1000 ≤ i ∧ i ≤ 2999) ∧ Q .non H
theorem ok_need_year (T : Txt K mg w base) : ∃ fd, FunD K d_need_year.name d_need_year.qual d_need_year.params d_need_year.body d_need_year.scope (d_need_year.dvs K) (d_need_year.kws K) (He.fAd K d_need_year.at_) fd ∧ FnOk P w K mg base C8.CX0 2 (He.fAd K d_need_year.at_) fd ["year"] sp_need_year := by
  obtain ⟨fd, F⟩ := T.f_need_year
  refine ⟨fd, F, ?_⟩
  have sc := (show FnScope ["year"] ["year"] (defScope s_need_year) from ⟨rfl, rfl, rfl, by decide +kernel, rfl, by decide +kernel, by decide +kernel⟩)
  refine F.ok sc (fun vs H Q E h => ?_) (fun cdv A outer s H vs Q E hr h => ?_)
  · obtain ⟨y, rfl, hy, k⟩ := h; rfl
  obtain ⟨y, rfl, hy, k⟩ := h
  have hu := hr.units
  refine ⟨_, PSs.nox (pss_one (ps_if (PW.pt (pw_and (pt_cmpR U.ou_isn (pv 0) pe_non (nomark _)) (pw_and1 (pt_not (pt_val (C8.pe_c (c_is_whole T) hr (by decide) rfl (pa_cons (pv 0) (pa_cons (U.pe_gi rfl T.k_FIRST_YEAR) (pa_cons (U.pe_gi rfl T.k_LAST_YEAR) pa_nil))))))))) (pss_one ps_never) pss_nil)), ?_⟩
  walk_at "ust0"
  rcases hy with rfl | ⟨i, rfl, h1, h2⟩
  · walk_at "ugo"
    exact k
  · walk_at "ugo"
    refine brT ⟨h1, h2⟩ ?_
    walk_at "ugo"
    exact k
theorem c_need_year (T : Txt K mg w base) : C8.Cal P w K mg base 2 "need_year" sp_need_year [] := by
  obtain ⟨fd, F, ok⟩ := ok_need_year (P := P) (w := w) (base := base) T
  exact cal_n F T.g_need_year (F.bindsN fun _ _ _ _ _ _ us hl => match us, hl with | [_], _ => rfl) ok
instance {y : V} {H : Hp} {Q : VK} {E : XK} : Go (sp_need_year [y] H Q E) (Sd (y = .non ∨ ∃ i : Int, y = .int i ∧ 1000 ≤ i ∧ i ≤ 2999) (Q .non H)) := ⟨fun k => ⟨y, rfl, k.1, k.2⟩⟩
def sp_need_copy : Sp := fun vs H Q _ => ∃ y : V, vs = [y] ∧ (y = .non ∨ ∃ i : Int, y = .int i ∧ 2 ≤ i) ∧ Q .non H
theorem ok_need_copy (T : Txt K mg w base) : ∃ fd, FunD K d_need_copy.name d_need_copy.qual d_need_copy.params d_need_copy.body d_need_copy.scope (d_need_copy.dvs K) (d_need_copy.kws K) (He.fAd K d_need_copy.at_) fd ∧ FnOk P w K mg base C8.CX0 2 (He.fAd K d_need_copy.at_) fd ["copy"] sp_need_copy := by
  obtain ⟨fd, F⟩ := T.f_need_copy
  refine ⟨fd, F, ?_⟩
  have sc := (show FnScope ["copy"] ["copy"] (defScope s_need_copy) from ⟨rfl, rfl, rfl, by decide +kernel, rfl, by decide +kernel, by decide +kernel⟩)
  refine F.ok sc (fun vs H Q E h => ?_) (fun cdv A outer s H vs Q E hr h => ?_)
  · obtain ⟨y, rfl, hy, k⟩ := h; rfl
  obtain ⟨y, rfl, hy, k⟩ := h
  have hu := hr.units
  refine ⟨_, PSs.nox (pss_one (ps_if (PW.pt (pw_and (pt_cmpR U.ou_isn (pv 0) pe_non (nomark _)) (pw_and1 (pt_not (pt_val (C8.pe_c (c_is_whole_2 T) hr (by decide) rfl (pa_cons (pv 0) (pa_cons pe_int pa_nil)))))))) (pss_one ps_never) pss_nil)), ?_⟩
  walk_at "ust0"
  rcases hy with rfl | ⟨i, rfl, h1⟩
  · walk_at "ugo"
    exact k
  · walk_at "ugo"
    refine brT h1 ?_
    walk_at "ugo"
    exact k
theorem c_need_copy (T : Txt K mg w base) : C8.Cal P w K mg base 2 "need_copy" sp_need_copy [] := by
  obtain ⟨fd, F, ok⟩ := ok_need_copy (P := P) (w := w) (base := base) T
  exact cal_n F T.g_need_copy (F.bindsN fun _ _ _ _ _ _ us hl => match us, hl with | [_], _ => rfl) ok
instance {y : V} {H : Hp} {Q : VK} {E : XK} : Go (sp_need_copy [y] H Q E) (Sd (y = .non ∨ ∃ i : Int, y = .int i ∧ 2 ≤ i) (Q .non H)) := ⟨fun k => ⟨y, rfl, k.1, k.2⟩⟩
end
end T

namespace T
open PySem PySem.Spec PyProof.Rows L2 U
open SX (S)
variable [QN]
section
variable {P : Program} {w : World} {K : PySem.W.Frag} {mg : PySem.Str → Option Value} {base : Heap}
/-! makers_in: a list or a tuple of makers, or none -/
theorem tx_at {ms : List (List Nat)} {k : Nat} {x : V} (h : (ms.map tx)[k]? = some x) : ∃ m, x = tx m ∧ m ∈ ms := by
  rw [List.getElem?_map] at h
  cases e : ms[k]? with
  | none => rw [e] at h; cases h
  | some m => rw [e] at h; cases h; exact ⟨m, rfl, List.mem_of_getElem? e⟩
def sp_makers_in (K : PySem.W.Frag) : Sp := fun vs H Q _ => ∃ (y : V) (ms : List (List Nat)), vs = [y] ∧ ((y = .non ∧ ms = []) ∨ ∃ p, y = .ref p ∧ (SqL K H p (ms.map tx) ∨ SqT K H p (ms.map tx))) ∧ ms.length ≤ 3 ∧ (∀ m ∈ ms, Maker m ∧ m.length ≤ 1000) ∧ ∀ p H', Ex H H' → TR K H' p (ms.map tx) → Q (.ref p) H'
theorem ok_makers_in (T : Txt K mg w base) : ∃ fd, FunD K d_makers_in.name d_makers_in.qual d_makers_in.params d_makers_in.body d_makers_in.scope (d_makers_in.dvs K) (d_makers_in.kws K) (He.fAd K d_makers_in.at_) fd ∧ FnOk P w K mg base C8.CX0 3 (He.fAd K d_makers_in.at_) fd ["makers"] (sp_makers_in K) := by
  obtain ⟨fd, F⟩ := T.f_makers_in
  refine ⟨fd, F, ?_⟩
  have sc := (show FnScope ["makers", "maker"] ["makers"] (defScope s_makers_in) from ⟨rfl, rfl, rfl, by decide +kernel, rfl, by decide +kernel, by decide +kernel⟩)
  refine F.ok sc (fun vs H Q E h => ?_) (fun cdv A outer s H vs Q E hr h => ?_)
  · obtain ⟨y, ms, rfl, hy, l3, hm, k⟩ := h; rfl
  obtain ⟨y, ms, rfl, hy, l3, hm, k⟩ := h
  have hu := hr.units
  refine ⟨_, PSs.nox (pss_cons (ps_if (pt_cmpR U.ou_is (pv 0) pe_non (nomark _)) (pss_one (ps_ret (pe_tup pa_nil))) pss_nil)
  (pss_cons (ps_if (PW.pt (pw_or (pt_not (pt_val (pe_callB (U.cu_isi (K := K)) (by rfl) T.b_isinstance (by decide +kernel) (pa_cons (pv 0) (pa_cons (pe_tup (pa_cons (U.pe_ty (n := "list") rfl T.b_list (by decide +kernel)) (pa_cons (U.pe_ty (n := "tuple") rfl T.b_tuple (by decide +kernel)) pa_nil))) pa_nil))))) (pw_or1 (pt_cmpR (U.ou_gtD (K := K) hu) (pe_callB (U.cu_len (K := K)) (by rfl) T.b_len (by decide +kernel) (pa_cons (pv 0) pa_nil)) (U.pe_gi rfl T.k_MOST_MAKERS) (nomark _))))) (pss_one ps_never) pss_nil)
  (pss_cons (ps_for PassesOwn.never rfl (U.pi_seq (K := K) (pv 0)) (pg_name (i := 1) sc.nd rfl (by first | exact Or.inl rfl | exact Or.inr rfl)) (pss_one (ps_if (pt_not (pt_val (C8.pe_c (c_is_maker T) hr (by decide) rfl (pa_cons (pv 1) pa_nil)))) (pss_one ps_never) pss_nil)))
  (pss_one (ps_ret (pe_callTy (U.cu_tup (K := K)) (by rfl) T.b_tuple (by decide +kernel) (pa_cons (pv 0) pa_nil))))))), ?_⟩
  walk_at "ust0"
  rcases hy with ⟨rfl, rfl⟩ | ⟨p, rfl, hp⟩
  · walk_at "ugo"
    refine al_t' fun p H' nw ex tm => ?_
    exact k p H' ⟨Et.et⟩ (by simpa using (inferInstance : TR K H' p []))
  · have hl : (ms.map tx).length = ms.length := List.length_map ..
    rcases hp with hp | hp
    · haveI : LR K H p (ms.map tx) := ⟨hp⟩
      walk_at "ugo"
      refine al_t' fun q H' nw ex tm => ?_
      walk_at "ugo"
      refine brF (by omega) ?_
      walk_at "ugo"
      refine for_l (xs := ms.map tx) (fun i σ H2 => (∃ o, σ = [some (.ref p), o]) ∧ Et H' H2) ⟨⟨_, rfl⟩, inferInstance⟩ (fun i σ H2 hi h => ex_l h.2.et (LR.lr (K := K) (H := H') (a := p))) (fun i x σ H2 hi hx h => ?_) (fun σ H2 h => ?_)
      · obtain ⟨⟨o, rfl⟩, e⟩ := h
        obtain ⟨m, rfl, hmm⟩ := tx_at hx
        have h1 := (hm m hmm).1
        have h2 := (hm m hmm).2
        walk_at "ugo"
        intro H3 e3
        walk_at "ugo"
        exact ⟨⟨_, rfl⟩, inferInstance⟩
      · obtain ⟨⟨o, rfl⟩, e⟩ := h
        haveI : Ex H' H2 := ⟨e.et⟩
        walk_at "ugo"
        refine al_t' fun r H3 nw ex tm => ?_
        exact k r H3 ⟨Et.et⟩ inferInstance
    · haveI : TR K H p (ms.map tx) := ⟨hp⟩
      walk_at "ugo"
      refine al_t' fun q H' nw ex tm => ?_
      walk_at "ugo"
      refine brF (by omega) ?_
      walk_at "ugo"
      refine for_t (xs := ms.map tx) (fun i σ H2 => (∃ o, σ = [some (.ref p), o]) ∧ Et H' H2) ⟨⟨_, rfl⟩, inferInstance⟩ (fun i σ H2 hi h => ex_t h.2.et (TR.tr (K := K) (H := H') (a := p))) (fun i x σ H2 hi hx h => ?_) (fun σ H2 h => ?_)
      · obtain ⟨⟨o, rfl⟩, e⟩ := h
        obtain ⟨m, rfl, hmm⟩ := tx_at hx
        have h1 := (hm m hmm).1
        have h2 := (hm m hmm).2
        walk_at "ugo"
        intro H3 e3
        walk_at "ugo"
        exact ⟨⟨_, rfl⟩, inferInstance⟩
      · obtain ⟨⟨o, rfl⟩, e⟩ := h
        haveI : Ex H' H2 := ⟨e.et⟩
        walk_at "ugo"
        exact k p H2 ⟨Et.et⟩ inferInstance
theorem c_makers_in (T : Txt K mg w base) : C8.Cal P w K mg base 3 "makers_in" (sp_makers_in K) [] := by
  obtain ⟨fd, F, ok⟩ := ok_makers_in (P := P) (w := w) (base := base) T
  exact cal_n F T.g_makers_in (F.bindsN fun _ _ _ _ _ _ us hl => match us, hl with | [_], _ => rfl) ok
/-! figures_of, of a number below 10^60 -/
def sp_figures_of : Sp := fun vs H Q _ => ∃ n : Nat, vs = [.int (n : Int)] ∧ n < 10 ^ 60 ∧ ∀ H', Ex H H' → Q (.str (S (nm n))) H'
theorem ok_figures_of (T : Txt K mg w base) : ∃ fd, FunD K d_figures_of.name d_figures_of.qual d_figures_of.params d_figures_of.body d_figures_of.scope (d_figures_of.dvs K) (d_figures_of.kws K) (He.fAd K d_figures_of.at_) fd ∧ FnOk P w K mg base C8.CX0 1 (He.fAd K d_figures_of.at_) fd ["number"] sp_figures_of := by
  obtain ⟨fd, F⟩ := T.f_figures_of
  refine ⟨fd, F, ?_⟩
  have sc := (show FnScope ["number", "parts", "rest"] ["number"] (defScope s_figures_of) from ⟨rfl, rfl, rfl, by decide +kernel, rfl, by decide +kernel, by decide +kernel⟩)
  refine F.ok sc (fun vs H Q E h => ?_) (fun cdv A outer s H vs Q E hr h => ?_)
  · obtain ⟨n, rfl, hn, k⟩ := h; rfl
  obtain ⟨n, rfl, hn, k⟩ := h
  have hu := hr.units
  refine ⟨_, PSs.nox (pss_cons (ps_set (i := 1) sc.nd rfl (by first | exact Or.inl rfl | exact Or.inr rfl) (pe_lst pa_nil))
  (pss_cons (ps_while PassesOwn.never (pt_cmpR (U.ou_geD (K := K) hu) (pv 0) (pe_op U.ou_pow pe_int pe_int) (nomark _)) (pss_cons (ps_asg (pe_callB call_divmod (by rfl) T.b_divmod (by decide +kernel) (pa_cons (pv 0) (pa_cons (pe_op U.ou_pow pe_int pe_int) pa_nil))) (U.pg_tl (K := K) (n := 2) rfl (pgs_cons (pg_name (i := 0) sc.nd rfl (by first | exact Or.inl rfl | exact Or.inr rfl)) (pgs_cons (pg_name (i := 2) sc.nd rfl (by first | exact Or.inl rfl | exact Or.inr rfl)) pgs_nil))))
    (pss_one (ps_expr (pe_bm PySem.F.plainAttrs_list PySem.F.slot_list_append PySem.F.type_list_append mt_append (pv 1) (pa_cons (pe_m1 PySem.F.slot_str_zfill PySem.F.type_str_zfill mt_zfill (pe_callTy U.cu_str (by rfl) T.b_str (by decide +kernel) (pa_cons (pv 2) pa_nil)) (U.pe_gi rfl T.k_PART)) pa_nil))))))
  (pss_cons (ps_expr (pe_bm PySem.F.plainAttrs_list PySem.F.slot_list_append PySem.F.type_list_append mt_append (pv 1) (pa_cons (pe_callTy U.cu_str (by rfl) T.b_str (by decide +kernel) (pa_cons (pv 0) pa_nil)) pa_nil)))
  (pss_one (ps_ret (pe_m1 PySem.F.slot_str_join PySem.F.type_str_join (U.mu_join (K := K)) (U.pe_s (l := []) (by decide +kernel)) (U.pe_rev (K := K) (pv 1)))))))), ?_⟩
  walk_at "ust0"
  walk_at "ugo"
  refine al_l fun p H1 nw ex lm => ?_
  walk_at "ugo"
  refine wh (fun m σ H' => σ = [some (.int (n : Int)), some (.ref p), none] ∧ H' = H1) 0 ⟨rfl, rfl⟩ fun m σ H' h => ?_
  obtain ⟨rfl, rfl⟩ := h
  walk_at "ugo"
  refine brF (by show ¬ ((10 : Int) ^ 60 ≤ n); omega) ?_
  walk_at "ugo"
  refine mu_l' fun H2 m2 l2 => ?_
  walk_at "ugo"
  refine al_l fun q H3 nw3 ex3 lm3 => ?_
  have hl := TL.numL_len (k := 60) (by decide) hn
  walk_at "ugo"
  refine Sd.k (by simp only [List.nil_append, List.reverse_cons, List.reverse_nil, List.map_cons, List.map_nil, List.sum_cons, List.sum_nil, List.length_cons, List.length_nil, nm]; omega) ?_
  exact qv (k H3 ⟨Et.et⟩) rfl
theorem c_figures_of (T : Txt K mg w base) : C8.Cal P w K mg base 1 "figures_of" sp_figures_of [] := by
  obtain ⟨fd, F, ok⟩ := ok_figures_of (P := P) (w := w) (base := base) T
  exact cal_n F T.g_figures_of (F.bindsN fun _ _ _ _ _ _ us hl => match us, hl with | [_], _ => rfl) ok
/-! ### a mark's parts -/
structure Pt where
  lets : List Nat
  num : Nat
  pts : List Nat
  hands : List (List Nat)
  age : Option Nat
  twin : Option Nat
  deriving DecidableEq
structure Pt.Ok (m : Pt) : Prop where
  l : Name m.lets
  n : 1 ≤ m.num ∧ m.num ≤ 9999
  p : m.pts = [] ∨ Figs m.pts
  pl : m.pts.length ≤ 1000
  h3 : m.hands.length ≤ 3
  h : ∀ a ∈ m.hands, Maker a ∧ a.length ≤ 1000
  y : ∀ n, m.age = some n → 1000 ≤ n ∧ n ≤ 2999
  c : ∀ n, m.twin = some n → 2 ≤ n ∧ n < 10 ^ 59
def oV : Option Nat → V | none => .non | some n => .int (n : Int)
def Pt.words (m : Pt) : List (List Nat) := [m.lets ++ nm m.num ++ (if m.pts = [] then [] else 46 :: m.pts)] ++ m.hands ++ (m.age.map nm).toList ++ (m.twin.map fun n => 99 :: 46 :: nm n).toList
def Pt.text (m : Pt) : List Nat := TL.joinL [32] m.words
abbrev Pt.f6 (m : Pt) (t : Addr) : List (PySem.Str × V) := [("kept_makers", .ref t), ("kept_letters", tx m.lets), ("kept_number", .int (m.num : Int)), ("kept_points", tx m.pts), ("kept_year", oV m.age), ("kept_copy", oV m.twin)]
abbrev Pt.f7 (m : Pt) (t : Addr) : List (PySem.Str × V) := [("kept_makers", .ref t), ("kept_letters", tx m.lets), ("kept_number", .int (m.num : Int)), ("kept_points", tx m.pts), ("kept_year", oV m.age), ("kept_copy", oV m.twin), ("kept_text", tx m.text)]
theorem sum_le {l : List (List Nat)} {n : Nat} (h : ∀ a ∈ l, a.length ≤ n) : (l.map (·.length)).sum ≤ l.length * n := by
  induction l with
  | nil => simp
  | cons a l ih =>
    have h1 := h a (List.mem_cons_self ..)
    have h2 := ih fun b hb => h b (List.mem_cons_of_mem _ hb)
    simp only [List.map_cons, List.sum_cons, List.length_cons, Nat.succ_mul]
    omega
theorem nm_len {n : Nat} (h : n < 10 ^ 60) : (nm n).length ≤ 60 := TL.numL_len (k := 60) (by decide) h
instance {n : Nat} {H : Hp} {Q : VK} {E : XK} : Go (sp_figures_of [.int (n : Int)] H Q E) (Sd (n < 10 ^ 60) (∀ H', Ex H H' → Q (.str (S (nm n))) H')) := ⟨fun k => ⟨n, rfl, k.1, k.2⟩⟩
/-! text_of -/
def sp_Mark_text_of (K : PySem.W.Frag) : Sp := fun vs H Q _ => ∃ (x dx t : Addr) (m : Pt), vs = [.ref x] ∧ IR H x (He.ga K "Mark") dx (m.f6 t) ∧ TR K H t (m.hands.map tx) ∧ m.Ok ∧ ∀ H', Ex H H' → Q (tx m.text) H'
theorem join_len (ws : List (List Nat)) (n : Nat) (h : ws.length ≤ 6) (h2 : (ws.map (·.length)).sum ≤ 5000) : (ws.map (·.length)).sum + ws.length * ([32] : List Nat).length ≤ 16777216 := by
  rw [List.length_singleton]; omega
theorem ok_Mark_text_of (T : Txt K mg w base) : ∃ fd, FunD K d_Mark_text_of.name d_Mark_text_of.qual d_Mark_text_of.params d_Mark_text_of.body d_Mark_text_of.scope (d_Mark_text_of.dvs K) (d_Mark_text_of.kws K) (He.fAd K d_Mark_text_of.at_) fd ∧ FnOk P w K mg base C8.CX0 2 (He.fAd K d_Mark_text_of.at_) fd ["self"] (sp_Mark_text_of K) := by
  obtain ⟨fd, F⟩ := T.f_Mark_text_of
  refine ⟨fd, F, ?_⟩
  have sc := (show FnScope ["self", "words"] ["self"] (defScope s_Mark_text_of) from ⟨rfl, rfl, rfl, by decide +kernel, rfl, by decide +kernel, by decide +kernel⟩)
  refine F.ok sc (fun vs H Q E h => ?_) (fun cdv A outer s H vs Q E hr h => ?_)
  · obtain ⟨x, dx, t, m, rfl, ir, tr, ok, k⟩ := h; rfl
  obtain ⟨x, dx, t, m, rfl, ir, tr, ok, k⟩ := h
  have hu := hr.units
  haveI : CA K (He.ga K "Mark") "kept_copy" := ⟨T.c_Mark, T.n_Mark_kept_copy⟩
  haveI : CA K (He.ga K "Mark") "kept_letters" := ⟨T.c_Mark, T.n_Mark_kept_letters⟩
  haveI : CA K (He.ga K "Mark") "kept_makers" := ⟨T.c_Mark, T.n_Mark_kept_makers⟩
  haveI : CA K (He.ga K "Mark") "kept_number" := ⟨T.c_Mark, T.n_Mark_kept_number⟩
  haveI : CA K (He.ga K "Mark") "kept_points" := ⟨T.c_Mark, T.n_Mark_kept_points⟩
  haveI : CA K (He.ga K "Mark") "kept_year" := ⟨T.c_Mark, T.n_Mark_kept_year⟩
  refine ⟨_, PSs.nox (pss_cons (ps_set (i := 1) sc.nd rfl (by first | exact Or.inl rfl | exact Or.inr rfl) (pe_lst (pa_cons (U.pe_joinedU (.cons (pe_fmt (U.pe_fld' (K := K) (pv 0) rfl)) (.cons (pe_fmt (U.pe_fld' (K := K) (pv 0) rfl)) .nil))) pa_nil)))
  (pss_cons (ps_if (pt_cmpR (U.ou_ne (K := K) hu) (U.pe_fld' (K := K) (pv 0) rfl) (U.pe_s (l := []) (by decide +kernel)) (nomark _)) (pss_one (U.ps_augL (K := K) (pv 1) pe_int (pe_op (U.ou_add (K := K)) (U.pe_s (l := [46]) (by decide +kernel)) (U.pe_fld' (K := K) (pv 0) rfl)) U.ip_add')) pss_nil)
  (pss_cons (ps_expr (pe_bm PySem.F.plainAttrs_list PySem.F.slot_list_extend PySem.F.type_list_extend (U.mt_ext (K := K)) (pv 1) (pa_cons (U.pe_fld' (K := K) (pv 0) rfl) pa_nil)))
  (pss_cons (ps_if (pt_cmpR U.ou_isn (U.pe_fld' (K := K) (pv 0) rfl) pe_non (nomark _)) (pss_one (ps_expr (pe_bm PySem.F.plainAttrs_list PySem.F.slot_list_append PySem.F.type_list_append mt_append (pv 1) (pa_cons (pe_callTy U.cu_str (by rfl) T.b_str (by decide +kernel) (pa_cons (U.pe_fld' (K := K) (pv 0) rfl) pa_nil)) pa_nil)))) pss_nil)
  (pss_cons (ps_if (pt_cmpR U.ou_isn (U.pe_fld' (K := K) (pv 0) rfl) pe_non (nomark _)) (pss_one (ps_expr (pe_bm PySem.F.plainAttrs_list PySem.F.slot_list_append PySem.F.type_list_append mt_append (pv 1) (pa_cons (pe_op (U.ou_add (K := K)) (U.pe_s (l := [99, 46]) (by decide +kernel)) (C8.pe_c (c_figures_of T) hr (by decide) rfl (pa_cons (U.pe_fld' (K := K) (pv 0) rfl) pa_nil))) pa_nil)))) pss_nil)
  (pss_one (ps_ret (pe_m1 PySem.F.slot_str_join PySem.F.type_str_join (U.mu_join (K := K)) (U.pe_s (l := [32]) (by decide +kernel)) (pv 1))))))))), ?_⟩
  walk_at "ust0"
  have b1 := ok.l.len.2
  have b2 := nm_len (n := m.num) (by have := ok.n.2; omega)
  have b3 := ok.pl
  have b4 := ok.h3
  have b5 := sum_le fun a ha => (ok.h a ha).2
  have b6 : m.num < 10 ^ 60 := by have := ok.n.2; omega
  have b7 : (m.hands.map tx).length ≤ 3 := by rw [List.length_map]; omega
  have b8 := ok.y
  have b9 := ok.c
  obtain ⟨lets, num, pts, hands, age, twin⟩ := m
  dsimp only [Pt.f6] at ir tr b1 b2 b3 b4 b5 b6 b7 b8 b9 k
  have leaf : ∀ {Q : VK} {H : Hp} (a b : List Nat), Q (tx a) H → a = b → Q (tx b) H := fun a b k e => e ▸ k
  walk_at "ugo"
  refine al_l fun p H1 nw ex lm => ?_
  walk_at "ugo"
  refine br2 (fun hp => ?_) (fun hp => ?_)
  · subst hp
    walk_at "ugo"
    refine mu_l' fun H2 m2 l2 => ?_
    rcases age with _ | y <;> dsimp only [oV] at ir
    · walk_at "ugo"
      rcases twin with _ | z <;> dsimp only [oV] at ir
      · walk_at "ugo"
        refine Sd.k (by simp only [List.map_cons, List.map_append, List.map_nil, List.sum_cons, List.sum_append, List.sum_nil, List.length_append, List.length_cons, List.length_nil]; omega) ?_
        exact qv (k _ ⟨Et.et⟩) (by simp [Pt.text, Pt.words])
      · have hz := (b9 z rfl).2
        have hl := nm_len (n := z) (by omega)
        walk_at "ugo"
        intro H3 e3
        walk_at "ugo"
        refine mu_l' fun H4 m4 l4 => ?_
        walk_at "ugo"
        refine Sd.k (by simp only [List.map_cons, List.map_append, List.map_nil, List.sum_cons, List.sum_append, List.sum_nil, List.length_append, List.length_cons, List.length_nil]; omega) ?_
        exact qv (k _ ⟨Et.et⟩) (by simp [Pt.text, Pt.words])
    · have hy := (b8 y rfl).2
      have hyl := nm_len (n := y) (by omega)
      walk_at "ugo"
      refine mu_l' fun H5 m5 l5 => ?_
      rcases twin with _ | z <;> dsimp only [oV] at ir
      · walk_at "ugo"
        refine Sd.k (by simp only [List.map_cons, List.map_append, List.map_nil, List.sum_cons, List.sum_append, List.sum_nil, List.length_append, List.length_cons, List.length_nil]; omega) ?_
        exact qv (k _ ⟨Et.et⟩) (by simp [Pt.text, Pt.words])
      · have hz := (b9 z rfl).2
        have hl := nm_len (n := z) (by omega)
        walk_at "ugo"
        intro H3 e3
        walk_at "ugo"
        refine mu_l' fun H4 m4 l4 => ?_
        walk_at "ugo"
        refine Sd.k (by simp only [List.map_cons, List.map_append, List.map_nil, List.sum_cons, List.sum_append, List.sum_nil, List.length_append, List.length_cons, List.length_nil]; omega) ?_
        exact qv (k _ ⟨Et.et⟩) (by simp [Pt.text, Pt.words])
  · walk_at "ugo"
    refine gl_of (by omega) (by omega) rfl ?_
    walk_at "ugo"
    refine sl_of (j := 0) (zs := [_]) (by simp [ixN]) rfl ?_
    refine mu_l' fun H1a m1a l1a => ?_
    walk_at "ugo"
    refine mu_l' fun H2 m2 l2 => ?_
    rcases age with _ | y <;> dsimp only [oV] at ir
    · walk_at "ugo"
      rcases twin with _ | z <;> dsimp only [oV] at ir
      · walk_at "ugo"
        refine Sd.k (by simp only [List.map_cons, List.map_append, List.map_nil, List.sum_cons, List.sum_append, List.sum_nil, List.length_append, List.length_cons, List.length_nil]; omega) ?_
        exact qv (k _ ⟨Et.et⟩) (by simp [Pt.text, Pt.words, hp])
      · have hz := (b9 z rfl).2
        have hl := nm_len (n := z) (by omega)
        walk_at "ugo"
        intro H3 e3
        walk_at "ugo"
        refine mu_l' fun H4 m4 l4 => ?_
        walk_at "ugo"
        refine Sd.k (by simp only [List.map_cons, List.map_append, List.map_nil, List.sum_cons, List.sum_append, List.sum_nil, List.length_append, List.length_cons, List.length_nil]; omega) ?_
        exact qv (k _ ⟨Et.et⟩) (by simp [Pt.text, Pt.words, hp])
    · have hy := (b8 y rfl).2
      have hyl := nm_len (n := y) (by omega)
      walk_at "ugo"
      refine mu_l' fun H5 m5 l5 => ?_
      rcases twin with _ | z <;> dsimp only [oV] at ir
      · walk_at "ugo"
        refine Sd.k (by simp only [List.map_cons, List.map_append, List.map_nil, List.sum_cons, List.sum_append, List.sum_nil, List.length_append, List.length_cons, List.length_nil]; omega) ?_
        exact qv (k _ ⟨Et.et⟩) (by simp [Pt.text, Pt.words, hp])
      · have hz := (b9 z rfl).2
        have hl := nm_len (n := z) (by omega)
        walk_at "ugo"
        intro H3 e3
        walk_at "ugo"
        refine mu_l' fun H4 m4 l4 => ?_
        walk_at "ugo"
        refine Sd.k (by simp only [List.map_cons, List.map_append, List.map_nil, List.sum_cons, List.sum_append, List.sum_nil, List.length_append, List.length_cons, List.length_nil]; omega) ?_
        exact qv (k _ ⟨Et.et⟩) (by simp [Pt.text, Pt.words, hp])
theorem c_m_text_of (T : Txt K mg w base) : C8.Met P w K mg base 2 (He.ga K "Mark") "text_of" (sp_Mark_text_of K) [] := by
  obtain ⟨fd, F, ok⟩ := ok_Mark_text_of (P := P) (w := w) (base := base) T
  exact ⟨_, fd, _, [], T.c_Mark, T.m_Mark_text_of, ok, F.bindsN fun _ _ _ _ _ _ us hl => match us, hl with | [_], _ => rfl, .nil⟩
end
end T

namespace T
open PySem PySem.Spec PyProof.Rows L2 U
open SX (S)
variable [QN]
section
variable {P : Program} {w : World} {K : PySem.W.Frag} {mg : PySem.Str → Option Value} {base : Heap}
/-- makers as they are handed in -/
class HdV (K : PySem.W.Frag) (H : Hp) (y : V) (hs : outParam (List (List Nat))) : Prop where
  hv : (y = .non ∧ hs = []) ∨ ∃ p, y = .ref p ∧ (SqL K H p (hs.map tx) ∨ SqT K H p (hs.map tx))
instance {H H' : Hp} {y : V} {hs : List (List Nat)} [e : Ex H H'] [h : HdV K H y hs] : HdV K H' y hs := ⟨h.hv.imp id fun ⟨p, e1, e2⟩ => ⟨p, e1, e2.imp (ex_l e.ex) (ex_t e.ex)⟩⟩
instance {H : Hp} : HdV K H .non [] := ⟨.inl ⟨rfl, rfl⟩⟩
theorem hdv_l {H : Hp} {p : Addr} {hs : List (List Nat)} (h : LR K H p (hs.map tx)) : HdV K H (.ref p) hs := ⟨.inr ⟨p, rfl, .inl h.lr⟩⟩
theorem hdv_t {H : Hp} {p : Addr} {hs : List (List Nat)} (h : TR K H p (hs.map tx)) : HdV K H (.ref p) hs := ⟨.inr ⟨p, rfl, .inr h.tr⟩⟩
instance {H : Hp} {Q : VK} {E : XK} {y : V} {ms : List (List Nat)} [h : HdV K H y ms] : Go (sp_makers_in K [y] H Q E) (Sd (ms.length ≤ 3) (Sd (∀ m ∈ ms, Maker m ∧ m.length ≤ 1000) (∀ p H', Ex H H' → TR K H' p (ms.map tx) → Q (.ref p) H'))) := ⟨fun k => ⟨y, ms, rfl, h.hv, k.1, k.2.1, k.2.2⟩⟩
instance {H : Hp} {Q : VK} {E : XK} {x dx t : Addr} {m : Pt} [ir : IR H x (He.ga K "Mark") dx (m.f6 t)] [tr : TR K H t (m.hands.map tx)] : Go (sp_Mark_text_of K [.ref x] H Q E) (Sd m.Ok (∀ H', Ex H H' → Q (tx m.text) H')) := ⟨fun k => ⟨x, dx, t, m, rfl, ir, tr, k.1, k.2⟩⟩
theorem oV_year {m : Pt} (ok : m.Ok) : oV m.age = .non ∨ ∃ i : Int, oV m.age = .int i ∧ 1000 ≤ i ∧ i ≤ 2999 := by
  cases h : m.age with
  | none => exact .inl rfl
  | some y => have := ok.y y h; exact .inr ⟨y, rfl, by omega, by omega⟩
theorem oV_copy {m : Pt} (ok : m.Ok) : oV m.twin = .non ∨ ∃ i : Int, oV m.twin = .int i ∧ 2 ≤ i := by
  cases h : m.twin with
  | none => exact .inl rfl
  | some y => have := ok.c y h; exact .inr ⟨y, rfl, by omega⟩
/-! Mark(..) of good parts, the makers a list -/
def sp_Mark_init (K : PySem.W.Frag) : Sp := fun vs H Q _ => ∃ (x dx : Addr) (y : V) (m : Pt), vs = [.ref x, tx m.lets, .int (m.num : Int), tx m.pts, y, oV m.age, oV m.twin] ∧ IR H x (He.ga K "Mark") dx [] ∧ HdV K H y m.hands ∧ m.Ok ∧ ∀ t H', Mi H x H' → IR H' x (He.ga K "Mark") dx (m.f7 t) → TR K H' t (m.hands.map tx) → Q .non H'
theorem ok_Mark_init (T : Txt K mg w base) : ∃ fd, FunD K d_Mark_init.name d_Mark_init.qual d_Mark_init.params d_Mark_init.body d_Mark_init.scope (d_Mark_init.dvs K) (d_Mark_init.kws K) (He.fAd K d_Mark_init.at_) fd ∧ FnOk P w K mg base C8.CX0 4 (He.fAd K d_Mark_init.at_) fd ["self", "letters", "number", "points", "makers", "year", "copy"] (sp_Mark_init K) := by
  obtain ⟨fd, F⟩ := T.f_Mark_init
  refine ⟨fd, F, ?_⟩
  have sc := (show FnScope ["self", "letters", "number", "points", "makers", "year", "copy"] ["self", "letters", "number", "points", "makers", "year", "copy"] (defScope s_Mark_init) from ⟨rfl, rfl, rfl, by decide +kernel, rfl, by decide +kernel, by decide +kernel⟩)
  refine F.ok sc (fun vs H Q E h => ?_) (fun cdv A outer s H vs Q E hr h => ?_)
  · obtain ⟨x, dx, y, m, rfl, ir, hd, ok, k⟩ := h; rfl
  obtain ⟨x, dx, y, m, rfl, ir, hd, ok, k⟩ := h
  have hu := hr.units
  haveI : CA K (He.ga K "Mark") "kept_copy" := ⟨T.c_Mark, T.n_Mark_kept_copy⟩
  haveI : CA K (He.ga K "Mark") "kept_letters" := ⟨T.c_Mark, T.n_Mark_kept_letters⟩
  haveI : CA K (He.ga K "Mark") "kept_makers" := ⟨T.c_Mark, T.n_Mark_kept_makers⟩
  haveI : CA K (He.ga K "Mark") "kept_number" := ⟨T.c_Mark, T.n_Mark_kept_number⟩
  haveI : CA K (He.ga K "Mark") "kept_points" := ⟨T.c_Mark, T.n_Mark_kept_points⟩
  haveI : CA K (He.ga K "Mark") "kept_text" := ⟨T.c_Mark, T.n_Mark_kept_text⟩
  haveI : CA K (He.ga K "Mark") "kept_year" := ⟨T.c_Mark, T.n_Mark_kept_year⟩
  refine ⟨_, PSs.nox (pss_cons (ps_if (pt_not (pt_val (C8.pe_c (c_is_letters T) hr (by decide) rfl (pa_cons (pv 1) pa_nil)))) (pss_one ps_never) pss_nil)
  (pss_cons (ps_if (pt_not (pt_val (C8.pe_c (c_is_whole T) hr (by decide) rfl (pa_cons (pv 2) (pa_cons pe_int (pa_cons (U.pe_gi rfl T.k_GREATEST) pa_nil)))))) (pss_one ps_never) pss_nil)
  (pss_cons (ps_if (pt_not (pt_val (C8.pe_c (c_is_points T) hr (by decide) rfl (pa_cons (pv 3) pa_nil)))) (pss_one ps_never) pss_nil)
  (pss_cons (ps_fld (pv 0) (C8.pe_c (c_makers_in T) hr (by decide) rfl (pa_cons (pv 4) pa_nil)) rfl)
  (pss_cons (ps_expr (C8.pe_c (c_need_year T) hr (by decide) rfl (pa_cons (pv 5) pa_nil)))
  (pss_cons (ps_expr (C8.pe_c (c_need_copy T) hr (by decide) rfl (pa_cons (pv 6) pa_nil)))
  (pss_cons (ps_fld (pv 0) (pv 1) rfl)
  (pss_cons (ps_fld (pv 0) (pv 2) rfl)
  (pss_cons (ps_fld (pv 0) (pv 3) rfl)
  (pss_cons (ps_fld (pv 0) (pv 5) rfl)
  (pss_cons (ps_fld (pv 0) (pv 6) rfl)
  (pss_one (ps_fld (pv 0) (C8.pe_mt0 (c_m_text_of T) hr (by decide) (pv 0)) rfl))))))))))))), ?_⟩
  walk_at "ust0"
  have b1 := ok.l
  have b2 := ok.p
  have b3 := ok.pl
  have b4 := ok.h3
  have b5 := ok.h
  have b6 := oV_year ok
  have b7 := oV_copy ok
  have b8 := ok.n
  walk_at "ugo"
  intro H1 e1
  walk_at "ugo"
  refine brT (by omega) ?_
  walk_at "ugo"
  intro H2 e2
  walk_at "ugo"
  intro t H3 e3 t3
  walk_at "ugo"
  refine mi_i fun H4 m4 i4 => ?_
  walk_at "ugo"
  refine mi_i fun H5 m5 i5 => ?_
  walk_at "ugo"
  refine mi_i fun H6 m6 i6 => ?_
  walk_at "ugo"
  refine mi_i fun H7 m7 i7 => ?_
  walk_at "ugo"
  refine mi_i fun H8 m8 i8 => ?_
  walk_at "ugo"
  refine mi_i fun H9 m9 i9 => ?_
  haveI : IR H9 x (He.ga K "Mark") dx (m.f6 t) := i9
  walk_at "ugo"
  intro H10 e10
  walk_at "ugo"
  refine mi_i fun H11 m11 i11 => ?_
  walk_at "ugo"
  exact k t H11 mi_of i11 inferInstance
theorem c_Mark_2_points_makers_year_copy (T : Txt K mg w base) : MakN P w K mg base 4 "Mark" (He.ga K "Mark") (sp_Mark_init K) 2 ["points", "makers", "year", "copy"] gCat := by
  obtain ⟨fd, F, ok⟩ := ok_Mark_init (P := P) (w := w) (base := base) T
  obtain ⟨its, b⟩ := (F.kbindsD 3 ["points", "makers", "year", "copy"] (fun us _ ws => gCat us ws) (by intro z; cases z) (fun r _ z => r.append z) fun _ _ _ _ _ _ _ us its ws h1 h2 h3 => match us, its, ws, h1, h2, h3 with | [_, _, _], [_, _, _, _], [_, _, _, _], _, _, _ => ⟨_, rfl, by kernel_rfl⟩)
  exact ⟨_, fd, _, _, T.mk_Mark, ok, T.g_Mark, b⟩
/-! str(mark) -/
def sp_Mark_str (K : PySem.W.Frag) : Sp := fun vs H Q _ => ∃ (x dx t : Addr) (m : Pt), vs = [.ref x] ∧ IR H x (He.ga K "Mark") dx (m.f7 t) ∧ m.text.length ≤ 100000 ∧ Q (tx m.text) H
theorem ok_Mark_str (T : Txt K mg w base) : ∃ fd, FunD K d_Mark_str.name d_Mark_str.qual d_Mark_str.params d_Mark_str.body d_Mark_str.scope (d_Mark_str.dvs K) (d_Mark_str.kws K) (He.fAd K d_Mark_str.at_) fd ∧ FnOk P w K mg base C8.CX0 1 (He.fAd K d_Mark_str.at_) fd ["self"] (sp_Mark_str K) := by
  obtain ⟨fd, F⟩ := T.f_Mark_str
  refine ⟨fd, F, ?_⟩
  have sc := (show FnScope ["self"] ["self"] (defScope s_Mark_str) from ⟨rfl, rfl, rfl, by decide +kernel, rfl, by decide +kernel, by decide +kernel⟩)
  refine F.ok sc (fun vs H Q E h => ?_) (fun cdv A outer s H vs Q E hr h => ?_)
  · obtain ⟨x, dx, t, m, rfl, ir, hl, k⟩ := h; rfl
  obtain ⟨x, dx, t, m, rfl, ir, hl, k⟩ := h
  have hu := hr.units
  haveI : CA K (He.ga K "Mark") "kept_text" := ⟨T.c_Mark, T.n_Mark_kept_text⟩
  refine ⟨_, PSs.nox (pss_one (ps_ret (pe_joined1 (pe_fmt (U.pe_fld' (K := K) (pv 0) rfl))))), ?_⟩
  walk_at "ust0"
  walk_at "ugo"
  exact k
end
end T

namespace T
open PySem PySem.Spec PyProof.Rows L2 U
open SX (S)
/-! ### the order of marks -/
def keyL (m : Pt) : List PyData := [.str (S m.lets), .int (m.num : Int), .str (S m.pts), .tuple (m.hands.map fun a => PyData.str (S a)), .int (m.age.getD 0 : Nat), .int (m.twin.getD 0 : Nat)]
def Pt.key (m : Pt) : PyData := .tuple (keyL m)
theorem alike_strs : ∀ (a b : List (List Nat)), PySem.W.alikeAll (a.map fun x => PyData.str (S x)) (b.map fun x => PyData.str (S x)) = true
  | [], [] => rfl
  | [], _ :: _ => rfl
  | _ :: _, [] => rfl
  | _ :: a, _ :: b => by
    show (true && PySem.W.alikeAll _ _) = true
    rw [alike_strs a b]; rfl
theorem key_alike (m m' : Pt) : PySem.W.alike m.key m'.key = true := by
  show (true && (true && (true && (PySem.W.alikeAll (m.hands.map fun x => PyData.str (S x)) (m'.hands.map fun x => PyData.str (S x)) && (true && (true && true)))))) = true
  rw [alike_strs]; rfl
theorem depth_strs (l : List (List Nat)) : PyData.depthAll (l.map fun x => PyData.str (S x)) = 0 := by
  induction l with
  | nil => rfl
  | cons a l ih =>
    show max 0 (PyData.depthAll _) = 0
    rw [ih]; rfl
theorem key_depth (m : Pt) : m.key.depth ≤ 20 := by
  show max 0 (max 0 (max 0 (max (PyData.depthAll (m.hands.map fun x => PyData.str (S x)) + 1) (max 0 (max 0 0))))) + 1 ≤ 20
  rw [depth_strs]
  decide
theorem key_tup (m : Pt) : ∃ a r, m.key = .tuple (a :: r) := ⟨_, _, rfl⟩
/-- m is ahead of m' -/
def Pt.lt (m m' : Pt) : Bool := PySem.W.dataLt m.key m'.key
theorem lt_irrefl (m : Pt) : m.lt m = false := PyProof.Rows.lex_irrefl (O := itemOrd) _
theorem lt_trans {a b c : Pt} (h1 : a.lt b = true) (h2 : b.lt c = true) : a.lt c = true := PyProof.Rows.lex_trans (O := itemOrd) _ _ _ h1 h2
theorem lt_asymm {a b : Pt} (h : a.lt b = true) : b.lt a = false := by
  cases e : b.lt a with
  | false => rfl
  | true => rw [← lt_irrefl a]; exact (lt_trans h e).symm
theorem lt_neg {a b c : Pt} (h : a.lt c = true) : a.lt b = true ∨ b.lt c = true := PyProof.Rows.lex_negTrans (O := itemOrd) _ _ _ h
theorem toks_strs : ∀ (a b : List (List Nat)) (r r' : List (Int ⊕ List Nat)), PySem.W.keyToksAll (a.map fun x => PyData.str (S x)) ++ r = PySem.W.keyToksAll (b.map fun x => PyData.str (S x)) ++ r' → a = b ∧ r = r'
  | [], [], r, r', h => by
    injection h with _ h
    exact ⟨rfl, h⟩
  | [], b :: bs, r, r', h => by
    injection h with h _
    cases h
  | a :: as, [], r, r', h => by
    injection h with h _
    cases h
  | a :: as, b :: bs, r, r', h => by
    injection h with _ h
    injection h with h1 h
    injection h1 with h1
    obtain ⟨h2, h3⟩ := toks_strs as bs r r' h
    exact ⟨by rw [show a = b from h1, h2], h3⟩
theorem toks_inj {m m' : Pt} (h : PySem.W.keyToks m.key = PySem.W.keyToks m'.key) : m.lets = m'.lets ∧ m.num = m'.num ∧ m.pts = m'.pts ∧ m.hands = m'.hands ∧ m.age.getD 0 = m'.age.getD 0 ∧ m.twin.getD 0 = m'.twin.getD 0 := by
  injection h with _ h
  injection h with h1 h
  injection h with _ h
  injection h with h2 h
  injection h with _ h
  injection h with h3 h
  injection h with _ h
  obtain ⟨h4, h⟩ := toks_strs _ _ _ _ h
  injection h with _ h
  injection h with h5 h
  injection h with _ h
  injection h with h6 h
  injection h1 with h1
  injection h2 with h2
  injection h3 with h3
  injection h5 with h5
  injection h6 with h6
  exact ⟨h1, Int.ofNat_inj.mp h2, h3, h4, Int.ofNat_inj.mp h5, Int.ofNat_inj.mp h6⟩
theorem opt_eq {a b : Option Nat} (ha : ∀ n, a = some n → 0 < n) (hb : ∀ n, b = some n → 0 < n) (h : a.getD 0 = b.getD 0) : a = b := by
  cases a with
  | none =>
    cases b with
    | none => rfl
    | some n => have := hb n rfl; simp at h; omega
  | some m =>
    cases b with
    | none => have := ha m rfl; simp at h; omega
    | some n => simp at h; rw [h]
theorem pt_eq {m m' : Pt} (o : m.Ok) (o' : m'.Ok) (h : m.lets = m'.lets ∧ m.num = m'.num ∧ m.pts = m'.pts ∧ m.hands = m'.hands ∧ m.age.getD 0 = m'.age.getD 0 ∧ m.twin.getD 0 = m'.twin.getD 0) : m = m' := by
  obtain ⟨h1, h2, h3, h4, h5, h6⟩ := h
  have e5 := opt_eq (fun n hn => by have := o.y n hn; omega) (fun n hn => by have := o'.y n hn; omega) h5
  have e6 := opt_eq (fun n hn => by have := o.c n hn; omega) (fun n hn => by have := o'.c n hn; omega) h6
  obtain ⟨a1, a2, a3, a4, a5, a6⟩ := m
  obtain ⟨b1, b2, b3, b4, b5, b6⟩ := m'
  simp only at h1 h2 h3 h4 e5 e6
  rw [h1, h2, h3, h4, e5, e6]
theorem lt_total {m m' : Pt} (o : m.Ok) (o' : m'.Ok) (h1 : m.lt m' = false) (h2 : m'.lt m = false) : m = m' := pt_eq o o' (toks_inj (PyProof.Rows.lex_total (O := itemOrd) _ _ h1 h2))
/-! equal keys -/
theorem eqv_strs : ∀ (a b : List (List Nat)), PyData.eqvAll (a.map fun x => PyData.str (S x)) (b.map fun x => PyData.str (S x)) = decide (a = b)
  | [], [] => rfl
  | [], _ :: _ => rfl
  | _ :: _, [] => rfl
  | x :: a, y :: b => by
    show ((S x == S y) && PyData.eqvAll _ _) = _
    rw [eqv_strs a b, SX.S_beq_eq, Bool.eq_iff_iff]
    simp
theorem key_eqv {m m' : Pt} (o : m.Ok) (o' : m'.Ok) : PyData.eqv m.key m'.key = true ↔ m = m' := by
  have e : PyData.eqv m.key m'.key = ((S m.lets == S m'.lets) && (((m.num : Int) == (m'.num : Int)) && ((S m.pts == S m'.pts) && (PyData.eqvAll (m.hands.map fun x => PyData.str (S x)) (m'.hands.map fun x => PyData.str (S x)) && (((m.age.getD 0 : Nat) : Int) == ((m'.age.getD 0 : Nat) : Int) && ((((m.twin.getD 0 : Nat) : Int) == ((m'.twin.getD 0 : Nat) : Int)) && true)))))) := rfl
  rw [e, eqv_strs, SX.S_beq_eq, SX.S_beq_eq]
  constructor
  · intro h
    simp only [Bool.and_eq_true, decide_eq_true_eq, beq_iff_eq, Int.ofNat_inj] at h
    obtain ⟨h1, h2, h3, h4, h5, h6, _⟩ := h
    exact pt_eq o o' ⟨h1, by omega, h3, h4, by omega, by omega⟩
  · rintro rfl
    simp
/-! ### the text tells the mark -/
theorem span_eq {p : Nat → Prop} : ∀ (a a' b b' : List Nat), (∀ c ∈ a, p c) → (∀ c ∈ a', p c) → (∀ c t, b = c :: t → ¬ p c) → (∀ c t, b' = c :: t → ¬ p c) → a ++ b = a' ++ b' → a = a' ∧ b = b'
  | [], [], b, b', _, _, _, _, h => ⟨rfl, h⟩
  | [], c :: a', b, b', _, h2, h3, _, h => absurd (h2 c (List.mem_cons_self ..)) (h3 c _ h)
  | c :: a, [], b, b', h1, _, _, h4, h => absurd (h1 c (List.mem_cons_self ..)) (h4 c _ h.symm)
  | c :: a, c' :: a', b, b', h1, h2, h3, h4, h => by
    injection h with e h
    obtain ⟨e1, e2⟩ := span_eq a a' b b' (fun d hd => h1 d (List.mem_cons_of_mem _ hd)) (fun d hd => h2 d (List.mem_cons_of_mem _ hd)) h3 h4 h
    exact ⟨by rw [e, e1], e2⟩
theorem join_inj : ∀ (ws ws' : List (List Nat)), ws ≠ [] → ws' ≠ [] → (∀ w ∈ ws, 32 ∉ w) → (∀ w ∈ ws', 32 ∉ w) → TL.joinL [32] ws = TL.joinL [32] ws' → ws = ws'
  | [], _, h, _, _, _, _ => absurd rfl h
  | _, [], _, h, _, _, _ => absurd rfl h
  | [w], [w'], _, _, _, _, h => by
    have h : w = w' := h
    rw [h]
  | [w], w' :: v' :: r', _, _, h1, h2, h => by
    have h : w = w' ++ ([32] ++ TL.joinL [32] (v' :: r')) := h
    exact absurd (by rw [h]; simp : 32 ∈ w) (h1 w (List.mem_cons_self ..))
  | w :: v :: r, [w'], _, _, h1, h2, h => by
    have h : w ++ ([32] ++ TL.joinL [32] (v :: r)) = w' := h
    exact absurd (by rw [← h]; simp : 32 ∈ w') (h2 w' (List.mem_cons_self ..))
  | w :: v :: r, w' :: v' :: r', _, _, h1, h2, h => by
    have h : w ++ (32 :: TL.joinL [32] (v :: r)) = w' ++ (32 :: TL.joinL [32] (v' :: r')) := h
    obtain ⟨e1, e2⟩ := span_eq (p := fun c => c ≠ 32) w w' _ _ (fun c hc e => h1 w (List.mem_cons_self ..) (e ▸ hc)) (fun c hc e => h2 w' (List.mem_cons_self ..) (e ▸ hc)) (fun c t e => by injection e with e _; simp [← e]) (fun c t e => by injection e with e _; simp [← e]) h
    injection e2 with _ e2
    rw [e1, join_inj (v :: r) (v' :: r') (by simp) (by simp) (fun x hx => h1 x (List.mem_cons_of_mem _ hx)) (fun x hx => h2 x (List.mem_cons_of_mem _ hx)) e2]
theorem maker_no {a : List Nat} (h : Maker a) : 32 ∉ a := by
  obtain ⟨c, t, rfl, hc, ht⟩ := h.ex
  intro hm
  rcases List.mem_cons.mp hm with e | e
  · have := hc.1; omega
  · have := (ht.all _ e).1; omega
theorem fig_ne {t : List Nat} (h : Figs t) : ∃ d r, t = d :: r ∧ Fg d := by
  obtain ⟨c, hc, _⟩ := h.last
  cases t with
  | nil => cases hc
  | cons d r => exact ⟨d, r, rfl, h.all d (List.mem_cons_self ..)⟩
theorem maker_two {a : List Nat} (h : Maker a) : ∃ c d r, a = c :: d :: r ∧ Lt c ∧ Fg d := by
  obtain ⟨c, t, rfl, hc, ht⟩ := h.ex
  obtain ⟨d, r, rfl, hd⟩ := fig_ne ht
  exact ⟨c, d, r, rfl, hc, hd⟩
theorem nm_head (n : Nat) : ∃ d r, nm n = d :: r ∧ Fg d := by
  cases e : nm n with
  | nil => exact absurd e (TL.numL_ne n)
  | cons d r => exact ⟨d, r, rfl, TL.numL_digits n d (by show d ∈ nm n; rw [e]; exact List.mem_cons_self ..)⟩
def ageW (y : Option Nat) : List (List Nat) := (y.map nm).toList
def twinW (z : Option Nat) : List (List Nat) := (z.map fun n => 99 :: 46 :: nm n).toList
theorem ends_inj {y y' z z' : Option Nat} (h : ageW y ++ twinW z = ageW y' ++ twinW z') : y = y' ∧ z = z' := by
  have tw : ∀ n, (99 :: 46 :: nm n) ≠ [] := fun n => by simp
  have hn : ∀ n m : Nat, nm n ≠ 99 :: 46 :: nm m := fun n m e => by
    obtain ⟨d, r, e1, h1⟩ := nm_head n
    rw [e1] at e
    injection e with e _
    have := h1.2; omega
  cases y <;> cases y' <;> cases z <;> cases z' <;> simp [ageW, twinW] at h ⊢
  all_goals first
    | (exact TL.numL_inj h)
    | (exact ⟨TL.numL_inj h.1, TL.numL_inj h.2⟩)
    | (exact absurd h (hn _ _))
    | (exact absurd h.symm (hn _ _))
    | skip
theorem words_inj : ∀ (a a' : List (List Nat)) (y y' z z' : Option Nat), (∀ w ∈ a, Maker w) → (∀ w ∈ a', Maker w) → a ++ (ageW y ++ twinW z) = a' ++ (ageW y' ++ twinW z') → a = a' ∧ y = y' ∧ z = z'
  | [], [], y, y', z, z', _, _, h => ⟨rfl, ends_inj h⟩
  | [], w :: a', y, y', z, z', _, h2, h => by
    obtain ⟨c, d, r, e, hc, hd⟩ := maker_two (h2 w (List.mem_cons_self ..))
    subst e
    exfalso
    cases y with
    | some n =>
      injection (show nm n :: twinW z = _ from h) with h _
      obtain ⟨d', r', e1, h1⟩ := nm_head n
      rw [e1] at h
      injection h with h _
      have := h1.2; have := hc.1; omega
    | none =>
      cases z with
      | none => cases h
      | some n =>
        injection (show (99 :: 46 :: nm n) :: [] = _ from h) with h _
        injection h with _ h
        injection h with h _
        have := hd.1; omega
  | w :: a, [], y, y', z, z', h1, _, h => by
    obtain ⟨c, d, r, e, hc, hd⟩ := maker_two (h1 w (List.mem_cons_self ..))
    subst e
    exfalso
    cases y' with
    | some n =>
      injection (show _ = nm n :: twinW z' from h) with h _
      obtain ⟨d', r', e1, h1⟩ := nm_head n
      rw [e1] at h
      injection h with h _
      have := h1.2; have := hc.1; omega
    | none =>
      cases z' with
      | none => cases h
      | some n =>
        injection (show _ = (99 :: 46 :: nm n) :: [] from h) with h _
        injection h with _ h
        injection h with h _
        have := hd.1; omega
  | w :: a, w' :: a', y, y', z, z', h1, h2, h => by
    injection h with e h
    obtain ⟨e1, e2⟩ := words_inj a a' y y' z z' (fun x hx => h1 x (List.mem_cons_of_mem _ hx)) (fun x hx => h2 x (List.mem_cons_of_mem _ hx)) h
    exact ⟨by rw [e, e1], e2⟩
def headW (m : Pt) : List Nat := m.lets ++ nm m.num ++ (if m.pts = [] then [] else 46 :: m.pts)
theorem headW_inj {m m' : Pt} (o : m.Ok) (o' : m'.Ok) (h : headW m = headW m') : m.lets = m'.lets ∧ m.num = m'.num ∧ m.pts = m'.pts := by
  unfold headW at h
  rw [List.append_assoc, List.append_assoc] at h
  have hd : ∀ (k : Pt) (c : Nat) (t : List Nat), nm k.num ++ (if k.pts = [] then [] else 46 :: k.pts) = c :: t → ¬ Lt c := fun k c t e => by
    obtain ⟨d, r, e1, h1⟩ := nm_head k.num
    rw [e1] at e
    injection e with e _
    intro hl
    have := h1.2; have := hl.1; omega
  have pd : ∀ (k : Pt) (c : Nat) (t : List Nat), (if k.pts = [] then [] else 46 :: k.pts) = c :: t → ¬ Fg c := fun k c t e => by
    split at e
    · cases e
    · injection e with e _
      intro hl
      have := hl.1; omega
  obtain ⟨e1, h⟩ := span_eq (p := Lt) _ _ _ _ o.l.all o'.l.all (hd m) (hd m') h
  obtain ⟨e2, h⟩ := span_eq (p := Fg) _ _ _ _ (TL.numL_digits _) (TL.numL_digits _) (pd m) (pd m') h
  refine ⟨e1, TL.numL_inj e2, ?_⟩
  split at h
  · rename_i e
    split at h
    · rename_i e'
      rw [e, e']
    · cases h
  · split at h
    · cases h
    · injection h
theorem headW_no {m : Pt} (o : m.Ok) : 32 ∉ headW m := by
  intro h
  unfold headW at h
  rcases List.mem_append.mp h with h | h
  · rcases List.mem_append.mp h with h | h
    · have := (o.l.all _ h).1; omega
    · have := (TL.numL_digits _ _ h).1; omega
  · split at h
    · cases h
    · rcases List.mem_cons.mp h with h | h
      · omega
      · rcases o.p with e | e
        · rw [e] at h; cases h
        · have := (e.all _ h).1; omega
theorem words_eq (m : Pt) : m.words = headW m :: (m.hands ++ (ageW m.age ++ twinW m.twin)) := by
  unfold Pt.words headW ageW twinW
  simp
theorem words_no {m : Pt} (o : m.Ok) : ∀ w ∈ m.words, 32 ∉ w := by
  intro w hw
  rw [words_eq] at hw
  rcases List.mem_cons.mp hw with e | hw
  · rw [e]; exact headW_no o
  rcases List.mem_append.mp hw with hw | hw
  · exact maker_no (o.h w hw).1
  rcases List.mem_append.mp hw with hw | hw
  · unfold ageW at hw
    cases e : m.age with
    | none => rw [e] at hw; cases hw
    | some n =>
      rw [e] at hw
      have hw : w = nm n := by simpa using hw
      rw [hw]
      intro h
      have := (TL.numL_digits _ _ h).1; omega
  · unfold twinW at hw
    cases e : m.twin with
    | none => rw [e] at hw; cases hw
    | some n =>
      rw [e] at hw
      have hw : w = 99 :: 46 :: nm n := by simpa using hw
      rw [hw]
      intro h
      rcases List.mem_cons.mp h with h | h
      · omega
      rcases List.mem_cons.mp h with h | h
      · omega
      have := (TL.numL_digits _ _ h).1; omega
theorem text_inj {m m' : Pt} (o : m.Ok) (o' : m'.Ok) (h : m.text = m'.text) : m = m' := by
  have e := join_inj _ _ (by rw [words_eq]; simp) (by rw [words_eq]; simp) (words_no o) (words_no o') h
  rw [words_eq, words_eq] at e
  injection e with e1 e2
  obtain ⟨h1, h2, h3⟩ := headW_inj o o' e1
  obtain ⟨h4, h5, h6⟩ := words_inj _ _ _ _ _ _ (fun w hw => (o.h w hw).1) (fun w hw => (o'.h w hw).1) e2
  exact pt_eq o o' ⟨h1, h2, h3, h4, by rw [h5], by rw [h6]⟩
theorem text_iff {m m' : Pt} (o : m.Ok) (o' : m'.Ok) : m.text = m'.text ↔ m = m' := ⟨text_inj o o', fun e => by rw [e]⟩
end T

namespace T
open PySem PySem.Spec PyProof.Rows L2 U
open SX (S)
variable [QN]
section
variable {P : Program} {w : World} {K : PySem.W.Frag} {mg : PySem.Str → Option Value} {base : Heap}
/-- a mark object -/
class MkO (K : PySem.W.Frag) (H : Hp) (x : Addr) (m : outParam Pt) : Prop where
  ex : ∃ dx t, IR H x (He.ga K "Mark") dx (m.f7 t) ∧ TR K H t (m.hands.map tx)
instance {H H' : Hp} {x : Addr} {m : Pt} [e : Ex H H'] [h : MkO K H x m] : MkO K H' x m := by
  obtain ⟨dx, t, ir, tr⟩ := h.ex
  exact ⟨dx, t, inferInstance, inferInstance⟩
instance {H H' : Hp} {x p : Addr} {m : Pt} [e : Mu H p H'] [h : MkO K H x m] : MkO K H' x m := by
  obtain ⟨dx, t, ir, tr⟩ := h.ex
  exact ⟨dx, t, inferInstance, inferInstance⟩
instance {H H' : Hp} {x p : Addr} {m : Pt} [e : Mi H p H'] [n : Ne' x p] [h : MkO K H x m] : MkO K H' x m := by
  obtain ⟨dx, t, ir, tr⟩ := h.ex
  exact ⟨dx, t, inferInstance, inferInstance⟩
theorem mko_ne {H H0 : Hp} {x p : Addr} {m : Pt} (w : Nw H0 p) (h : MkO K H0 x m) : Ne' x p := by
  obtain ⟨dx, t, ir, tr⟩ := h.ex
  exact inferInstance
theorem mko_et {H H' : Hp} {x : Addr} {m : Pt} (h : MkO K H x m) (e : Kp H H') : MkO K H' x m := by
  haveI : Ex H H' := ⟨e⟩
  exact inferInstance
theorem c_m_str (T : Txt K mg w base) : C8.Met P w K mg base 1 (He.ga K "Mark") "__str__" (sp_Mark_str K) [] := by
  obtain ⟨fd, F, ok⟩ := ok_Mark_str (P := P) (w := w) (base := base) T
  exact ⟨_, fd, _, [], T.c_Mark, T.m_Mark_str, ok, F.bindsN fun _ _ _ _ _ _ us hl => match us, hl with | [_], _ => rfl, .nil⟩
instance {H : Hp} {Q : VK} {E : XK} {x dx t : Addr} {m : Pt} [ir : IR H x (He.ga K "Mark") dx (m.f7 t)] : Go (sp_Mark_str K [.ref x] H Q E) (Sd (m.text.length ≤ 100000) (Q (tx m.text) H)) := ⟨fun k => ⟨x, dx, t, m, rfl, ir, k.1, k.2⟩⟩


/-! == of marks -/
def sp_Mark_eq (K : PySem.W.Frag) : Sp := fun vs H Q _ => ∃ (x y : Addr) (m m' : Pt), vs = [.ref x, .ref y] ∧ MkO K H x m ∧ MkO K H y m' ∧ m.Ok ∧ m'.Ok ∧ Q (.bl (decide (m = m'))) H
theorem ok_Mark_eq (T : Txt K mg w base) : ∃ fd, FunD K d_Mark_eq.name d_Mark_eq.qual d_Mark_eq.params d_Mark_eq.body d_Mark_eq.scope (d_Mark_eq.dvs K) (d_Mark_eq.kws K) (He.fAd K d_Mark_eq.at_) fd ∧ FnOk P w K mg base C8.CX0 1 (He.fAd K d_Mark_eq.at_) fd ["self", "other"] (sp_Mark_eq K) := by
  obtain ⟨fd, F⟩ := T.f_Mark_eq
  refine ⟨fd, F, ?_⟩
  have sc := (show FnScope ["self", "other"] ["self", "other"] (defScope s_Mark_eq) from ⟨rfl, rfl, rfl, by decide +kernel, rfl, by decide +kernel, by decide +kernel⟩)
  refine F.ok sc (fun vs H Q E h => ?_) (fun cdv A outer s H vs Q E hr h => ?_)
  · obtain ⟨x, y, m, m', rfl, mk, mk', ok, ok', k⟩ := h; rfl
  obtain ⟨x, y, m, m', rfl, mk, mk', ok, ok', k⟩ := h
  have hu := hr.units
  haveI : CA K (He.ga K "Mark") "kept_text" := ⟨T.c_Mark, T.n_Mark_kept_text⟩
  haveI : IsC K (He.ga K "Mark") := ⟨T.c_Mark, T.on_Mark⟩
  refine ⟨_, PSs.nox (pss_one (ps_ret (pe_and (pe_callB (U.cu_isi (K := K)) (by rfl) T.b_isinstance (by decide +kernel) (pa_cons (pv 1) (pa_cons (pe_glob (v := .ref _) rfl T.g_Mark rfl) pa_nil))) (pe_one (pe_cmpR (U.ou_eq (K := K) hu) (U.pe_fld' (K := K) (pv 0) rfl) (U.pe_fld' (K := K) (pv 1) rfl) (nomark _)))))), ?_⟩
  walk_at "ust0"
  obtain ⟨dx, t, ir, tr⟩ := mk.ex
  obtain ⟨dy, t', ir', tr'⟩ := mk'.ex
  walk_at "ugo"
  exact qb k (by rw [decide_eq_decide]; exact (text_iff ok ok').symm)
theorem c_m_eq (T : Txt K mg w base) : C8.Met P w K mg base 1 (He.ga K "Mark") "__eq__" (sp_Mark_eq K) [] := by
  obtain ⟨fd, F, ok⟩ := ok_Mark_eq (P := P) (w := w) (base := base) T
  exact ⟨_, fd, _, [], T.c_Mark, T.m_Mark_eq, ok, F.bindsN fun _ _ _ _ _ _ us hl => match us, hl with | [_, _], _ => rfl, .nil⟩
instance {H : Hp} {Q : VK} {E : XK} {x y : Addr} {m m' : Pt} [mk : MkO K H x m] [mk' : MkO K H y m'] : Go (sp_Mark_eq K [.ref x, .ref y] H Q E) (Sd m.Ok (Sd m'.Ok (Q (.bl (decide (m = m'))) H))) := ⟨fun k => ⟨x, y, m, m', rfl, mk, mk', k.1, k.2.1, k.2.2⟩⟩
instance {H : Hp} {Q : VK} {x y : Addr} {m m' : Pt} [mk : MkO K H x m] [mk' : MkO K H y m'] : Go (uEqO K (He.ga K "Mark") (sp_Mark_eq K) (.ref x) (.ref y) H Q) (Sd m.Ok (Sd m'.Ok (Q (.bl (decide (m = m'))) H))) := ⟨fun k => by
  obtain ⟨dx, t, ir, tr⟩ := mk.ex
  obtain ⟨dy, t', ir', tr'⟩ := mk'.ex
  exact eqO_of ⟨x, y, m, m', rfl, mk, mk', k.1, k.2.1, Go.go k.2.2⟩⟩
instance {H : Hp} {Q : VK} {x y : Addr} {m m' : Pt} [mk : MkO K H x m] [mk' : MkO K H y m'] : Go (uNeO K (He.ga K "Mark") (sp_Mark_eq K) (.ref x) (.ref y) H Q) (Sd m.Ok (Sd m'.Ok (Q (.bl (!decide (m = m'))) H))) := ⟨fun k => by
  obtain ⟨dx, t, ir, tr⟩ := mk.ex
  obtain ⟨dy, t', ir', tr'⟩ := mk'.ex
  exact neO_of ⟨x, y, m, m', rfl, mk, mk', k.1, k.2.1, Go.go k.2.2⟩⟩

instance {H : Hp} {Q : VK} {x : Addr} {m : Pt} [mk : MkO K H x m] [c : IsC K (He.ga K "Mark")] : Go (uIsi K [.ref x, .ref (He.ga K "Mark")] H Q) (Q (.bl true) H) := ⟨fun k => by
  obtain ⟨dx, t, ir, tr⟩ := mk.ex
  exact Go.go k⟩

/-! key, ahead -/
/-- a mark's key -/
class KyR (K : PySem.W.Frag) (H : Hp) (p : Addr) (m : outParam Pt) : Prop where
  dp : Dp K H (.ref p) m.key
instance {H H' : Hp} {p : Addr} {m : Pt} [e : Ex H H'] [h : KyR K H p m] : KyR K H' p m := ⟨dp_up e.ex _ _ h.dp⟩
theorem ky_of {H : Hp} {p t : Addr} {m : Pt} (h : TR K H p [tx m.lets, .int (m.num : Int), tx m.pts, .ref t, .int ((m.age.getD 0 : Nat) : Int), .int ((m.twin.getD 0 : Nat) : Int)]) (g : TR K H t (m.hands.map tx)) : KyR K H p m :=
  ⟨.tup h.tr (.cons (.str _) (.cons (.int _) (.cons (.str _) (.cons (.tup g.tr (dpa_tx _)) (.cons (.int _) (.cons (.int _) .nil))))))⟩
instance {H : Hp} {Q : VK} {p q : Addr} {m m' : Pt} [h : KyR K H p m] [g : KyR K H q m'] : Go (uLtD K (.ref p) (.ref q) H Q) (Q (.bl (m.lt m')) H) := ⟨fun k => .inr ⟨m.key, m'.key, h.dp, g.dp, key_alike m m', (fun z => nomatch z), Nat.le_trans (key_depth m) (by decide), k⟩⟩
instance {H : Hp} {Q : VK} {p q : Addr} {m m' : Pt} [h : KyR K H p m] [g : KyR K H q m'] : Go (uGeD K (.ref p) (.ref q) H Q) (Q (.bl (!m.lt m')) H) := ⟨fun k => .inr ⟨m.key, m'.key, h.dp, g.dp, key_alike m m', (fun z => nomatch z), Nat.le_trans (key_depth m) (by decide), k⟩⟩
instance {H : Hp} {Q : VK} {p q : Addr} {m m' : Pt} [h : KyR K H p m] [g : KyR K H q m'] : Go (uGtD K (.ref p) (.ref q) H Q) (Q (.bl (m'.lt m)) H) := ⟨fun k => .inr ⟨m.key, m'.key, h.dp, g.dp, key_alike m m', (fun z => nomatch z), Nat.le_trans (key_depth m) (by decide), k⟩⟩
instance {H : Hp} {Q : VK} {p q : Addr} {m m' : Pt} [h : KyR K H p m] [g : KyR K H q m'] : Go (uLeD K (.ref p) (.ref q) H Q) (Q (.bl (!m'.lt m)) H) := ⟨fun k => .inr ⟨m.key, m'.key, h.dp, g.dp, key_alike m m', (fun z => nomatch z), Nat.le_trans (key_depth m) (by decide), k⟩⟩
theorem key_shaped {m : Pt} (o : m.Ok) : SeqAt.shaped m.key = true := by
  have ok : ∀ a : List Nat, (∀ c ∈ a, c < 128) → PyData.strOk (S a) = true := fun a h => by
    have e : (S a).cps.toList = a := by simp [S]
    show (S a).cps.all (· < 0x110000) = true
    rw [← Array.all_toList, e]
    exact List.all_eq_true.mpr fun c hc => decide_eq_true (by have := h c hc; omega)
  have fig : ∀ a : List Nat, Figs a → ∀ c ∈ a, c < 128 := fun a h c hc => by have := (h.all c hc).2; omega
  have mkr : ∀ a : List Nat, Maker a → ∀ c ∈ a, c < 128 := fun a h c hc => by
    obtain ⟨d, t, rfl, hd, ht⟩ := h.ex
    rcases List.mem_cons.mp hc with e | e
    · have := hd.2; omega
    · exact fig t ht c e
  have hs : ∀ l : List (List Nat), (∀ a ∈ l, Maker a) → PyData.canLayAll0 (l.map fun x => PyData.str (S x)) = true := by
    intro l
    induction l with
    | nil => intro _; rfl
    | cons a l ih =>
      intro h
      show (PyData.strOk (S a) && PyData.canLayAll0 _) = true
      rw [ok a (mkr a (h a (List.mem_cons_self ..))), ih fun b hb => h b (List.mem_cons_of_mem _ hb)]
      rfl
  have e1 : PyData.strOk (S m.lets) = true := ok _ fun c hc => by have := (o.l.all c hc).2; omega
  have e2 : PyData.strOk (S m.pts) = true := ok _ fun c hc => by
    rcases o.p with e | e
    · rw [e] at hc; cases hc
    · exact fig _ e c hc
  have e3 := hs m.hands fun a ha => (o.h a ha).1
  have e4 : m.key.canLay0 = true := by
    show (PyData.strOk (S m.lets) && (true && (PyData.strOk (S m.pts) && (PyData.canLayAll0 (m.hands.map fun x => PyData.str (S x)) && (true && (true && true)))))) = true
    rw [e1, e2, e3]; rfl
  unfold SeqAt.shaped
  rw [e4, decide_eq_true (Nat.le_trans (key_depth m) (by decide))]
  rfl
theorem key_eqv_dec {m m' : Pt} (o : m.Ok) (o' : m'.Ok) : PyData.eqv m.key m'.key = decide (m = m') := by rw [Bool.eq_iff_iff, key_eqv o o', decide_eq_true_eq]
instance {H : Hp} {Q : VK} {p q : Addr} {m m' : Pt} [h : KyR K H p m] [g : KyR K H q m'] : Go (uEq K (.ref p) (.ref q) H Q) (Sd m.Ok (Sd m'.Ok (Q (.bl (decide (m = m'))) H))) := ⟨fun k => .inr ⟨m.key, m'.key, h.dp, g.dp, key_shaped k.1, key_shaped k.2.1, by rw [key_eqv_dec k.1 k.2.1]; exact k.2.2⟩⟩
instance {H : Hp} {Q : VK} {p q : Addr} {m m' : Pt} [h : KyR K H p m] [g : KyR K H q m'] : Go (uNe K (.ref p) (.ref q) H Q) (Sd m.Ok (Sd m'.Ok (Q (.bl (!decide (m = m'))) H))) := ⟨fun k => .inr ⟨m.key, m'.key, h.dp, g.dp, key_shaped k.1, key_shaped k.2.1, by rw [key_eqv_dec k.1 k.2.1]; exact k.2.2⟩⟩
def sp_Mark_key (K : PySem.W.Frag) : Sp := fun vs H Q _ => ∃ (x : Addr) (m : Pt), vs = [.ref x] ∧ MkO K H x m ∧ ∀ p H', Ex H H' → KyR K H' p m → Q (.ref p) H'
theorem ok_Mark_key (T : Txt K mg w base) : ∃ fd, FunD K d_Mark_key.name d_Mark_key.qual d_Mark_key.params d_Mark_key.body d_Mark_key.scope (d_Mark_key.dvs K) (d_Mark_key.kws K) (He.fAd K d_Mark_key.at_) fd ∧ FnOk P w K mg base C8.CX0 1 (He.fAd K d_Mark_key.at_) fd ["self"] (sp_Mark_key K) := by
  obtain ⟨fd, F⟩ := T.f_Mark_key
  refine ⟨fd, F, ?_⟩
  have sc := (show FnScope ["self", "year", "copy"] ["self"] (defScope s_Mark_key) from ⟨rfl, rfl, rfl, by decide +kernel, rfl, by decide +kernel, by decide +kernel⟩)
  refine F.ok sc (fun vs H Q E h => ?_) (fun cdv A outer s H vs Q E hr h => ?_)
  · obtain ⟨x, m, rfl, mk, k⟩ := h; rfl
  obtain ⟨x, m, rfl, mk, k⟩ := h
  have hu := hr.units
  haveI : CA K (He.ga K "Mark") "kept_copy" := ⟨T.c_Mark, T.n_Mark_kept_copy⟩
  haveI : CA K (He.ga K "Mark") "kept_letters" := ⟨T.c_Mark, T.n_Mark_kept_letters⟩
  haveI : CA K (He.ga K "Mark") "kept_makers" := ⟨T.c_Mark, T.n_Mark_kept_makers⟩
  haveI : CA K (He.ga K "Mark") "kept_number" := ⟨T.c_Mark, T.n_Mark_kept_number⟩
  haveI : CA K (He.ga K "Mark") "kept_points" := ⟨T.c_Mark, T.n_Mark_kept_points⟩
  haveI : CA K (He.ga K "Mark") "kept_year" := ⟨T.c_Mark, T.n_Mark_kept_year⟩
  refine ⟨_, PSs.nox (pss_cons (ps_set (i := 1) sc.nd rfl (by first | exact Or.inl rfl | exact Or.inr rfl) (pe_ifExp (pt_cmpR U.ou_is (U.pe_fld' (K := K) (pv 0) rfl) pe_non (nomark _)) pe_int (U.pe_fld' (K := K) (pv 0) rfl)))
  (pss_cons (ps_set (i := 2) sc.nd rfl (by first | exact Or.inl rfl | exact Or.inr rfl) (pe_ifExp (pt_cmpR U.ou_is (U.pe_fld' (K := K) (pv 0) rfl) pe_non (nomark _)) pe_int (U.pe_fld' (K := K) (pv 0) rfl)))
  (pss_one (ps_ret (pe_tup (pa_cons (U.pe_fld' (K := K) (pv 0) rfl) (pa_cons (U.pe_fld' (K := K) (pv 0) rfl) (pa_cons (U.pe_fld' (K := K) (pv 0) rfl) (pa_cons (U.pe_fld' (K := K) (pv 0) rfl) (pa_cons (pv 1) (pa_cons (pv 2) pa_nil))))))))))), ?_⟩
  walk_at "ust0"
  obtain ⟨dx, t, ir, tr⟩ := mk.ex
  have fin : ∀ H', Ex H H' → ∀ p, TR K H' p [tx m.lets, .int (m.num : Int), tx m.pts, .ref t, .int ((m.age.getD 0 : Nat) : Int), .int ((m.twin.getD 0 : Nat) : Int)] → Q (.ref p) H' := fun H' e p tr' => k p H' e (ky_of tr' inferInstance)
  cases ha : m.age <;> cases hb : m.twin <;> (rw [ha, hb] at fin; simp only [Pt.f7, ha, hb, oV, Option.getD] at ir fin; walk_at "ugo"; refine al_t' fun p H' nw ex tm => ?_; exact fin H' ex p inferInstance)
theorem c_m_key (T : Txt K mg w base) : C8.Met P w K mg base 1 (He.ga K "Mark") "key" (sp_Mark_key K) [] := by
  obtain ⟨fd, F, ok⟩ := ok_Mark_key (P := P) (w := w) (base := base) T
  exact ⟨_, fd, _, [], T.c_Mark, T.m_Mark_key, ok, F.bindsN fun _ _ _ _ _ _ us hl => match us, hl with | [_], _ => rfl, .nil⟩
instance {H : Hp} {Q : VK} {E : XK} {x : Addr} {m : Pt} [mk : MkO K H x m] : Go (sp_Mark_key K [.ref x] H Q E) (∀ p H', Ex H H' → KyR K H' p m → Q (.ref p) H') := ⟨fun k => ⟨x, m, rfl, mk, k⟩⟩


def sp_Mark_ahead (K : PySem.W.Frag) : Sp := fun vs H Q _ => ∃ (x y : Addr) (m m' : Pt), vs = [.ref x, .ref y] ∧ MkO K H x m ∧ MkO K H y m' ∧ ∀ H', Ex H H' → Q (.bl (m.lt m')) H'
theorem ok_Mark_ahead (T : Txt K mg w base) : ∃ fd, FunD K d_Mark_ahead.name d_Mark_ahead.qual d_Mark_ahead.params d_Mark_ahead.body d_Mark_ahead.scope (d_Mark_ahead.dvs K) (d_Mark_ahead.kws K) (He.fAd K d_Mark_ahead.at_) fd ∧ FnOk P w K mg base C8.CX0 2 (He.fAd K d_Mark_ahead.at_) fd ["self", "other"] (sp_Mark_ahead K) := by
  obtain ⟨fd, F⟩ := T.f_Mark_ahead
  refine ⟨fd, F, ?_⟩
  have sc := (show FnScope ["self", "other"] ["self", "other"] (defScope s_Mark_ahead) from ⟨rfl, rfl, rfl, by decide +kernel, rfl, by decide +kernel, by decide +kernel⟩)
  refine F.ok sc (fun vs H Q E h => ?_) (fun cdv A outer s H vs Q E hr h => ?_)
  · obtain ⟨x, y, m, m', rfl, mk, mk', k⟩ := h; rfl
  obtain ⟨x, y, m, m', rfl, mk, mk', k⟩ := h
  have hu := hr.units
  refine ⟨_, PSs.nox (pss_one (ps_ret (pe_cmpR (U.ou_ltD (K := K) hu) (C8.pe_mt0 (c_m_key T) hr (by decide) (pv 0)) (C8.pe_mt0 (c_m_key T) hr (by decide) (pv 1)) (nomark _)))), ?_⟩
  walk_at "ust0"
  obtain ⟨dx, t, ir, tr⟩ := mk.ex
  obtain ⟨dy, t', ir', tr'⟩ := mk'.ex
  walk_at "ugo"
  intro p H1 e1 ky
  walk_at "ugo"
  intro q H2 e2 ky2
  walk_at "ugo"
  exact k H2 ⟨Et.et⟩
theorem c_m_ahead (T : Txt K mg w base) : C8.Met P w K mg base 2 (He.ga K "Mark") "ahead" (sp_Mark_ahead K) [] := by
  obtain ⟨fd, F, ok⟩ := ok_Mark_ahead (P := P) (w := w) (base := base) T
  exact ⟨_, fd, _, [], T.c_Mark, T.m_Mark_ahead, ok, F.bindsN fun _ _ _ _ _ _ us hl => match us, hl with | [_, _], _ => rfl, .nil⟩
instance {H : Hp} {Q : VK} {E : XK} {x y : Addr} {m m' : Pt} [mk : MkO K H x m] [mk' : MkO K H y m'] : Go (sp_Mark_ahead K [.ref x, .ref y] H Q E) (∀ H', Ex H H' → Q (.bl (m.lt m')) H') := ⟨fun k => ⟨x, y, m, m', rfl, mk, mk', k⟩⟩

end
end T

namespace T
open PySem PySem.Spec PyProof.Rows L2 U
open SX (S)
variable [QN]
section
variable {P : Program} {w : World} {K : PySem.W.Frag} {mg : PySem.Str → Option Value} {base : Heap}
/-! the pool -/
class PL (H : Hp) (p : Addr) : Prop where
  ex : ∃ n : Int, LM H p [.int n] ∧ 0 ≤ n
instance {H H' : Hp} {p : Addr} [e : Ex H H'] [h : PL H p] : PL H' p := by
  obtain ⟨n, lm, h0⟩ := h.ex
  exact ⟨n, inferInstance, h0⟩
instance {H H' : Hp} {p q : Addr} [e : Mu H q H'] [n : Ne' p q] [h : PL H p] : PL H' p := by
  obtain ⟨n, lm, h0⟩ := h.ex
  exact ⟨n, inferInstance, h0⟩
instance {H H' : Hp} {p q : Addr} [e : Mi H q H'] [h : PL H p] : PL H' p := by
  obtain ⟨n, lm, h0⟩ := h.ex
  exact ⟨n, inferInstance, h0⟩
instance {H0 : Hp} {p q : Addr} [w : Nw H0 p] [h : PL H0 q] : Ne' q p := by
  obtain ⟨n, lm, h0⟩ := h.ex
  exact inferInstance
instance {H0 : Hp} {p q : Addr} [w : Nw H0 p] [h : PL H0 q] : Ne' p q := by
  obtain ⟨n, lm, h0⟩ := h.ex
  exact inferInstance
theorem mu_pl {H H' : Hp} {p : Addr} [h : PL H p] [m : Mx H p H'] : Mu H p H' := by
  obtain ⟨n, lm, h0⟩ := h.ex
  exact mu_of
def sp_law_take : Sp := fun vs H Q _ => ∃ (p : Addr) (s : Int), vs = [.ref p, .int s] ∧ PL H p ∧ 0 < s ∧ s < 10 ^ 60 ∧ ∀ (r : Nat) H', (r : Int) < s → Mu H p H' → PL H' p → Q (.int (r : Int)) H'
theorem ok_law_take (T : Txt K mg w base) : ∃ fd, FunD K d_law_take.name d_law_take.qual d_law_take.params d_law_take.body d_law_take.scope (d_law_take.dvs K) (d_law_take.kws K) (He.fAd K d_law_take.at_) fd ∧ FnOk P w K mg base C8.CX0 1 (He.fAd K d_law_take.at_) fd ["pool", "size"] sp_law_take := by
  obtain ⟨fd, F⟩ := T.f_law_take
  refine ⟨fd, F, ?_⟩
  have sc := (show FnScope ["pool", "size", "found"] ["pool", "size"] (defScope s_law_take) from ⟨rfl, rfl, rfl, by decide +kernel, rfl, by decide +kernel, by decide +kernel⟩)
  refine F.ok sc (fun vs H Q E h => ?_) (fun cdv A outer s H vs Q E hr h => ?_)
  · obtain ⟨p, s', rfl, pl, h0, h1, k⟩ := h; rfl
  obtain ⟨p, s', rfl, pl, h0, h1, k⟩ := h
  have hu := hr.units
  refine ⟨_, PSs.nox (pss_cons (ps_set (i := 2) sc.nd rfl (by first | exact Or.inl rfl | exact Or.inr rfl) (pe_op U.ou_mod (pe_ix (U.xu (K := K)) (pv 0) pe_int (fun _ _ => rfl)) (pv 1)))
  (pss_cons (ps_asg (pe_op U.ou_fdiv (pe_ix (U.xu (K := K)) (pv 0) pe_int (fun _ _ => rfl)) (pv 1)) (pg_sub (pv 0) pe_int set_list))
  (pss_one (ps_ret (pv 2))))), ?_⟩
  walk_at "ust0"
  obtain ⟨n, lm, hn⟩ := pl.ex
  walk_at "ugo"
  refine ix_is (v := .int n) (atI_nat (j := 0) rfl) ?_
  walk_at "ugo"
  refine ix_is (v := .int n) (atI_nat (j := 0) rfl) ?_
  walk_at "ugo"
  refine Sd.k (cd h0 (by
    have : s'.natAbs < 10 ^ 60 := by omega
    exact Nat.lt_trans this (by decide))) ?_
  walk_at "ugo"
  refine sl_of (j := 0) (zs := [_]) (by simp [ixN]) rfl ?_
  refine mu_l' fun H1 m1 l1 => ?_
  walk_at "ugo"
  have h3 := Int.emod_nonneg n (b := s') (by omega)
  have h4 := Int.emod_lt_of_pos n h0
  refine qv (k (n % s').toNat H1 (by omega) m1 ⟨_, l1, Int.ediv_nonneg hn (by omega)⟩) ?_
  rw [Int.toNat_of_nonneg h3]
theorem c_law_take (T : Txt K mg w base) : C8.Cal P w K mg base 1 "_law_take" sp_law_take [] := by
  obtain ⟨fd, F, ok⟩ := ok_law_take (P := P) (w := w) (base := base) T
  exact cal_n F T.g_law_take (F.bindsN fun _ _ _ _ _ _ us hl => match us, hl with | [_, _], _ => rfl) ok
instance {H : Hp} {Q : VK} {E : XK} {p : Addr} {s : Int} [h : PL H p] : Go (sp_law_take [.ref p, .int s] H Q E) (Sd (0 < s) (Sd (s < 10 ^ 60) (∀ (r : Nat) H', (r : Int) < s → Mu H p H' → PL H' p → Q (.int (r : Int)) H'))) := ⟨fun k => ⟨p, s, rfl, h, k.1, k.2.1, k.2.2⟩⟩
/-! _law_pool -/
def sp_law_pool : Sp := fun vs H Q _ => ∃ (c : Int), vs = [.int c] ∧ ∀ p H', Nw H p → Ex H H' → PL H' p → Q (.ref p) H'
theorem ok_law_pool (T : Txt K mg w base) : ∃ fd, FunD K d_law_pool.name d_law_pool.qual d_law_pool.params d_law_pool.body d_law_pool.scope (d_law_pool.dvs K) (d_law_pool.kws K) (He.fAd K d_law_pool.at_) fd ∧ FnOk P w K mg base C8.CX0 1 (He.fAd K d_law_pool.at_) fd ["cell"] sp_law_pool := by
  obtain ⟨fd, F⟩ := T.f_law_pool
  refine ⟨fd, F, ?_⟩
  have sc := (show FnScope ["cell", "number", "k", "mix"] ["cell"] (defScope s_law_pool) from ⟨rfl, rfl, rfl, by decide +kernel, rfl, by decide +kernel, by decide +kernel⟩)
  refine F.ok sc (fun vs H Q E h => ?_) (fun cdv A outer s H vs Q E hr h => ?_)
  · obtain ⟨c, rfl, k⟩ := h; rfl
  obtain ⟨c, rfl, k⟩ := h
  have hu := hr.units
  refine ⟨_, PSs.nox (pss_cons (ps_if (pt_cmpR (U.ou_geD (K := K) hu) (pv 0) (pe_op U.ou_pow pe_int pe_int) (nomark _)) (pss_one (ps_ret (pe_lst (pa_cons (pv 0) pa_nil)))) pss_nil)
  (pss_cons (ps_set (i := 1) sc.nd rfl (by first | exact Or.inl rfl | exact Or.inr rfl) pe_int)
  (pss_cons (ps_for PassesOwn.never rfl (pi_range1 (by rfl) T.b_range (pa_cons pe_int pa_nil)) (pg_name (i := 2) sc.nd rfl (by first | exact Or.inl rfl | exact Or.inr rfl)) (pss_cons (ps_set (i := 3) sc.nd rfl (by first | exact Or.inl rfl | exact Or.inr rfl) (pe_op U.ou_mod (pe_op U.ou_pow (pe_op (U.ou_add (K := K)) (pe_op (U.ou_add (K := K)) (pe_op (U.ou_mul (K := K)) (pe_op U.ou_mod (pv 0) pe_int) pe_int) (pe_op (U.ou_mul (K := K)) pe_int (pv 2))) pe_int) pe_int) pe_int))
    (pss_one (ps_set (i := 1) sc.nd rfl (by first | exact Or.inl rfl | exact Or.inr rfl) (pe_op (U.ou_add (K := K)) (pe_op (U.ou_mul (K := K)) (pv 1) pe_int) (pe_op U.ou_mod (pe_op U.ou_pow (pe_op (U.ou_add (K := K)) (pe_op (U.ou_mul (K := K)) (pv 3) pe_int) (pv 2)) pe_int) pe_int))))))
  (pss_one (ps_ret (pe_lst (pa_cons (pv 1) pa_nil))))))), ?_⟩
  walk_at "ust0"
  walk_at "ugo"
  refine br2 (fun h => ?_) (fun h => ?_)
  · walk_at "ugo"
    refine al_l fun p H1 nw ex lm => ?_
    have h2 : (10 : Int) ^ ((18 : Int).toNat) = 1000000000000000000 := by decide
    rw [h2] at h
    exact k p H1 nw ex ⟨c, lm, by omega⟩
  · walk_at "ugo"
    refine for_r (n := 9) (i := 0) (fun i σ H' => (∃ (x : Int) (o1 o2 : Option V), σ = [some (.int c), some (.int x), o1, o2] ∧ 0 ≤ x ∧ x < 2 ^ (40 * i)) ∧ H' = H) ⟨⟨0, _, _, rfl, by omega, by decide⟩, rfl⟩ (fun i σ H' hi h => ?_) (fun σ H' h => ?_)
    · obtain ⟨⟨x, o1, o2, rfl, h0, h1⟩, rfl⟩ := h
      walk_at "ugo"
      have hx : (2 : Int) ^ (40 * i) ≤ 2 ^ 360 := by exact_mod_cast Nat.pow_le_pow_right (by decide) (by omega)
      have e40 : (2 : Int) ^ (40 * (i + 1)) = 2 ^ (40 * i) * 1099511627776 := by rw [Nat.mul_succ, Int.pow_add]; rfl
      generalize hy : (2 : Int) ^ (40 * i) = y at h1 hx e40
      have hc0 := Int.emod_nonneg c (b := 2147483647) (by decide)
      have hc1 := Int.emod_lt_of_pos c (b := 2147483647) (by decide)
      generalize c % 2147483647 = d at hc0 hc1 ⊢
      refine Sd.k (cm64 (by omega) (by omega)) ?_
      walk_at "ugo"
      refine Sd.k (cm64 (by omega) (by omega)) ?_
      walk_at "ugo"
      try (refine Sd.k ⟨by decide, by decide, by omega⟩ ?_; walk_at "ugo")
      have hm0 := Int.emod_nonneg ((d * 69621 + 7919 * (0 + (i : Int)) + 11) ^ (5 : Int).toNat) (b := 2147483647) (by decide)
      have hm1 := Int.emod_lt_of_pos ((d * 69621 + 7919 * (0 + (i : Int)) + 11) ^ (5 : Int).toNat) (b := 2147483647) (by decide)
      generalize (d * 69621 + 7919 * (0 + (i : Int)) + 11) ^ (5 : Int).toNat % 2147483647 = m at hm0 hm1 ⊢
      refine Sd.k (cm (by
        have : x.natAbs < 2 ^ 360 := by omega
        exact Nat.lt_trans this (by decide)) (by decide)) ?_
      walk_at "ugo"
      try (refine Sd.k (cm64 (by omega) (by omega)) ?_; walk_at "ugo")
      try (refine Sd.k ⟨by decide, by decide, by omega⟩ ?_; walk_at "ugo")
      have hn0 := Int.emod_nonneg ((m * 48271 + (0 + (i : Int))) ^ (5 : Int).toNat) (b := 2147483629) (by decide)
      have hn1 := Int.emod_lt_of_pos ((m * 48271 + (0 + (i : Int))) ^ (5 : Int).toNat) (b := 2147483629) (by decide)
      generalize (m * 48271 + (0 + (i : Int))) ^ (5 : Int).toNat % 2147483629 = u at hn0 hn1 ⊢
      exact ⟨⟨_, _, _, rfl, by omega, by rw [e40]; omega⟩, rfl⟩
    · obtain ⟨⟨x, o1, o2, rfl, h0, h1⟩, rfl⟩ := h
      walk_at "ugo"
      refine al_l fun p H1 nw ex lm => ?_
      exact k p H1 nw ex ⟨x, lm, h0⟩
theorem c_law_pool (T : Txt K mg w base) : C8.Cal P w K mg base 1 "_law_pool" sp_law_pool [] := by
  obtain ⟨fd, F, ok⟩ := ok_law_pool (P := P) (w := w) (base := base) T
  exact cal_n F T.g_law_pool (F.bindsN fun _ _ _ _ _ _ us hl => match us, hl with | [_], _ => rfl) ok
/-! drawn figures, makers -/
theorem at_figs {r : Nat} (h : r < 10) : atI ([48, 49, 50, 51, 52, 53, 54, 55, 56, 57] : List Nat) (r : Int) = some (48 + r) := atI_nat ((by decide : ∀ r, r < 10 → ([48, 49, 50, 51, 52, 53, 54, 55, 56, 57] : List Nat)[r]? = some (48 + r)) r h)
theorem at_figs1 {r : Nat} (h : r < 9) : atI ([49, 50, 51, 52, 53, 54, 55, 56, 57] : List Nat) (r : Int) = some (49 + r) := atI_nat ((by decide : ∀ r, r < 9 → ([49, 50, 51, 52, 53, 54, 55, 56, 57] : List Nat)[r]? = some (49 + r)) r h)
theorem at_lets {r : Nat} (h : r < 26) : atI ([97, 98, 99, 100, 101, 102, 103, 104, 105, 106, 107, 108, 109, 110, 111, 112, 113, 114, 115, 116, 117, 118, 119, 120, 121, 122] : List Nat) (r : Int) = some (97 + r) := atI_nat ((by decide : ∀ r, r < 26 → ([97, 98, 99, 100, 101, 102, 103, 104, 105, 106, 107, 108, 109, 110, 111, 112, 113, 114, 115, 116, 117, 118, 119, 120, 121, 122] : List Nat)[r]? = some (97 + r)) r h)
theorem at_abcd {r : Nat} (h : r < 4) : atI ([97, 98, 99, 100] : List Nat) (r : Int) = some (97 + r) := atI_nat ((by decide : ∀ r, r < 4 → ([97, 98, 99, 100] : List Nat)[r]? = some (97 + r)) r h)
theorem figs_snoc {a : List Nat} {r : Nat} (h : ∀ c ∈ a, Fg c) (hr : r < 9) : Figs (a ++ [49 + r]) :=
  ⟨fun c hc => by
    rcases List.mem_append.mp hc with hc | hc
    · exact h c hc
    · rw [List.mem_singleton.mp hc]; exact ⟨by omega, by omega⟩, 49 + r, atI_last a _, by omega⟩
def sp_law_figures : Sp := fun vs H Q _ => ∃ (p : Addr) (n : Int), vs = [.ref p, .int n] ∧ PL H p ∧ 0 < n ∧ n ≤ 100 ∧ ∀ a H', Figs a → (a.length : Int) ≤ n → Mu H p H' → PL H' p → Q (tx a) H'
theorem ok_law_figures (T : Txt K mg w base) : ∃ fd, FunD K d_law_figures.name d_law_figures.qual d_law_figures.params d_law_figures.body d_law_figures.scope (d_law_figures.dvs K) (d_law_figures.kws K) (He.fAd K d_law_figures.at_) fd ∧ FnOk P w K mg base C8.CX0 2 (He.fAd K d_law_figures.at_) fd ["pool", "most"] sp_law_figures := by
  obtain ⟨fd, F⟩ := T.f_law_figures
  refine ⟨fd, F, ?_⟩
  have sc := (show FnScope ["pool", "most", "signs", "k"] ["pool", "most"] (defScope s_law_figures) from ⟨rfl, rfl, rfl, by decide +kernel, rfl, by decide +kernel, by decide +kernel⟩)
  refine F.ok sc (fun vs H Q E h => ?_) (fun cdv A outer s H vs Q E hr h => ?_)
  · obtain ⟨p, n, rfl, pl, h0, h1, k⟩ := h; rfl
  obtain ⟨p, n, rfl, pl, h0, h1, k⟩ := h
  have hu := hr.units
  refine ⟨_, PSs.nox (pss_cons (ps_set (i := 2) sc.nd rfl (by first | exact Or.inl rfl | exact Or.inr rfl) (U.pe_s (l := []) (by decide +kernel)))
  (pss_cons (ps_for PassesOwn.never rfl (pi_range1 (by rfl) T.b_range (pa_cons (C8.pe_c (c_law_take T) hr (by decide) rfl (pa_cons (pv 0) (pa_cons (pv 1) pa_nil))) pa_nil)) (pg_name (i := 3) sc.nd rfl (by first | exact Or.inl rfl | exact Or.inr rfl)) (pss_one (ps_set (i := 2) sc.nd rfl (by first | exact Or.inl rfl | exact Or.inr rfl) (pe_op (U.ou_add (K := K)) (pv 2) (pe_ix (U.xu (K := K)) (U.pe_s (l := [48, 49, 50, 51, 52, 53, 54, 55, 56, 57]) (by decide +kernel)) (C8.pe_c (c_law_take T) hr (by decide) rfl (pa_cons (pv 0) (pa_cons pe_int pa_nil))) (fun _ _ => rfl))))))
  (pss_one (ps_ret (pe_op (U.ou_add (K := K)) (pv 2) (pe_ix (U.xu (K := K)) (U.pe_s (l := [49, 50, 51, 52, 53, 54, 55, 56, 57]) (by decide +kernel)) (C8.pe_c (c_law_take T) hr (by decide) rfl (pa_cons (pv 0) (pa_cons pe_int pa_nil))) (fun _ _ => rfl))))))), ?_⟩
  walk_at "ust0"
  walk_at "ugo"
  intro r H1 hr m1 p1
  walk_at "ugo"
  refine for_r (n := (r : Int).toNat) (i := 0) (fun i σ H' => (∃ (a : List Nat) (o : Option V), σ = [some (.ref p), some (.int n), some (tx a), o] ∧ a.length = i ∧ ∀ c ∈ a, Fg c) ∧ Mx H p H' ∧ PL H' p) ⟨⟨[], _, rfl, rfl, fun c hc => by cases hc⟩, inferInstance, p1⟩ (fun i σ H' hi h => ?_) (fun σ H' h => ?_)
  · obtain ⟨⟨a, o, rfl, hl, ha⟩, mx, pl'⟩ := h
    walk_at "ugo"
    intro t H2 ht m2 p2
    have ht : t < 10 := by omega
    walk_at "ugo"
    refine ix_sg (by walk_at "usd") (at_figs ht) ?_
    walk_at "ugo"
    walk_at "ugo"
    exact ⟨⟨a ++ [48 + t], _, rfl, by simp [hl], fun c hc => by
      rcases List.mem_append.mp hc with hc | hc
      · exact ha c hc
      · rw [List.mem_singleton.mp hc]; exact ⟨by omega, by omega⟩⟩, inferInstance, p2⟩
  · obtain ⟨⟨a, o, rfl, hl, ha⟩, mx, pl'⟩ := h
    walk_at "ugo"
    intro t H2 ht m2 p2
    have ht : t < 9 := by omega
    walk_at "ugo"
    refine ix_sg (by walk_at "usd") (at_figs1 ht) ?_
    walk_at "ugo"
    exact k _ H2 (figs_snoc ha ht) (by simp; omega) mu_pl p2
theorem c_law_figures (T : Txt K mg w base) : C8.Cal P w K mg base 2 "_law_figures" sp_law_figures [] := by
  obtain ⟨fd, F, ok⟩ := ok_law_figures (P := P) (w := w) (base := base) T
  exact cal_n F T.g_law_figures (F.bindsN fun _ _ _ _ _ _ us hl => match us, hl with | [_, _], _ => rfl) ok
instance {H : Hp} {Q : VK} {E : XK} {p : Addr} {s : Int} [h : PL H p] : Go (sp_law_figures [.ref p, .int s] H Q E) (Sd (0 < s) (Sd (s ≤ 100) (∀ a H', Figs a → (a.length : Int) ≤ s → Mu H p H' → PL H' p → Q (tx a) H'))) := ⟨fun k => ⟨p, s, rfl, h, k.1, k.2.1, k.2.2⟩⟩
def sp_law_maker : Sp := fun vs H Q _ => ∃ (p : Addr) (n : Int), vs = [.ref p, .int n] ∧ PL H p ∧ 0 < n ∧ n ≤ 100 ∧ ∀ a H', Maker a → (a.length : Int) ≤ n + 1 → Mu H p H' → PL H' p → Q (tx a) H'
theorem ok_law_maker (T : Txt K mg w base) : ∃ fd, FunD K d_law_maker.name d_law_maker.qual d_law_maker.params d_law_maker.body d_law_maker.scope (d_law_maker.dvs K) (d_law_maker.kws K) (He.fAd K d_law_maker.at_) fd ∧ FnOk P w K mg base C8.CX0 3 (He.fAd K d_law_maker.at_) fd ["pool", "most"] sp_law_maker := by
  obtain ⟨fd, F⟩ := T.f_law_maker
  refine ⟨fd, F, ?_⟩
  have sc := (show FnScope ["pool", "most", "letter"] ["pool", "most"] (defScope s_law_maker) from ⟨rfl, rfl, rfl, by decide +kernel, rfl, by decide +kernel, by decide +kernel⟩)
  refine F.ok sc (fun vs H Q E h => ?_) (fun cdv A outer s H vs Q E hr h => ?_)
  · obtain ⟨p, n, rfl, pl, h0, h1, k⟩ := h; rfl
  obtain ⟨p, n, rfl, pl, h0, h1, k⟩ := h
  have hu := hr.units
  refine ⟨_, PSs.nox (pss_cons (ps_set (i := 2) sc.nd rfl (by first | exact Or.inl rfl | exact Or.inr rfl) (pe_ix (U.xu (K := K)) (U.pe_s (l := [97, 98, 99, 100, 101, 102, 103, 104, 105, 106, 107, 108, 109, 110, 111, 112, 113, 114, 115, 116, 117, 118, 119, 120, 121, 122]) (by decide +kernel)) (C8.pe_c (c_law_take T) hr (by decide) rfl (pa_cons (pv 0) (pa_cons pe_int pa_nil))) (fun _ _ => rfl)))
  (pss_cons (ps_if (pt_cmpR (U.ou_eq (K := K) hu) (C8.pe_c (c_law_take T) hr (by decide) rfl (pa_cons (pv 0) (pa_cons pe_int pa_nil))) pe_int (nomark _)) (pss_one (ps_set (i := 2) sc.nd rfl (by first | exact Or.inl rfl | exact Or.inr rfl) (pe_ix (U.xu (K := K)) (U.pe_s (l := [97, 98, 99, 100]) (by decide +kernel)) (C8.pe_c (c_law_take T) hr (by decide) rfl (pa_cons (pv 0) (pa_cons pe_int pa_nil))) (fun _ _ => rfl)))) pss_nil)
  (pss_one (ps_ret (pe_op (U.ou_add (K := K)) (pv 2) (C8.pe_c (c_law_figures T) hr (by decide) rfl (pa_cons (pv 0) (pa_cons (pv 1) pa_nil)))))))), ?_⟩
  walk_at "ust0"
  walk_at "ugo"
  intro r H1 hr m1 p1
  have hr : r < 26 := by omega
  walk_at "ugo"
  refine ix_sg (by walk_at "usd") (at_lets hr) ?_
  walk_at "ugo"
  intro t H2 ht m2 p2
  walk_at "ugo"
  refine br2 (fun h => ?_) (fun h => ?_)
  · walk_at "ugo"
    intro u H3 hu m3 p3
    have hu : u < 4 := by omega
    walk_at "ugo"
    refine ix_sg (by walk_at "usd") (at_abcd hu) ?_
    walk_at "ugo"
    intro a H4 ha hl m4 p4
    walk_at "ugo"
    exact k _ H4 ⟨_, a, rfl, ⟨by omega, by omega⟩, ha⟩ (by simp; omega) mu_pl p4
  · walk_at "ugo"
    intro a H4 ha hl m4 p4
    walk_at "ugo"
    exact k _ H4 ⟨_, a, rfl, ⟨by omega, by omega⟩, ha⟩ (by simp; omega) mu_pl p4
theorem c_law_maker (T : Txt K mg w base) : C8.Cal P w K mg base 3 "_law_maker" sp_law_maker [] := by
  obtain ⟨fd, F, ok⟩ := ok_law_maker (P := P) (w := w) (base := base) T
  exact cal_n F T.g_law_maker (F.bindsN fun _ _ _ _ _ _ us hl => match us, hl with | [_, _], _ => rfl) ok
instance {H : Hp} {Q : VK} {E : XK} {p : Addr} {s : Int} [h : PL H p] : Go (sp_law_maker [.ref p, .int s] H Q E) (Sd (0 < s) (Sd (s ≤ 100) (∀ a H', Maker a → (a.length : Int) ≤ s + 1 → Mu H p H' → PL H' p → Q (tx a) H'))) := ⟨fun k => ⟨p, s, rfl, h, k.1, k.2.1, k.2.2⟩⟩
end
end T

namespace T
open PySem PySem.Spec PyProof.Rows L2 U
open SX (S)
variable [QN]
section
variable {P : Program} {w : World} {K : PySem.W.Frag} {mg : PySem.Str → Option Value} {base : Heap}
/-! the list of a mark's parts -/
class PtL (H : Hp) (q : Addr) (m : outParam Pt) : Prop where
  ex : ∃ h, LM H q [tx m.lets, .int (m.num : Int), tx m.pts, .ref h, oV m.age, oV m.twin] ∧ LM H h (m.hands.map tx) ∧ q ≠ h
instance {H H' : Hp} {q : Addr} {m : Pt} [e : Ex H H'] [h : PtL H q m] : PtL H' q m := by
  obtain ⟨b, l1, l2, n⟩ := h.ex
  exact ⟨b, inferInstance, inferInstance, n⟩
instance {H H' : Hp} {q p : Addr} {m : Pt} [e : Mi H p H'] [h : PtL H q m] : PtL H' q m := by
  obtain ⟨b, l1, l2, n⟩ := h.ex
  exact ⟨b, inferInstance, inferInstance, n⟩
/-- .. new since H0, with its list of makers -/
class PtN (H0 : outParam Hp) (H : Hp) (q : Addr) (m : outParam Pt) : Prop where
  ex : ∃ h, LM H q [tx m.lets, .int (m.num : Int), tx m.pts, .ref h, oV m.age, oV m.twin] ∧ LM H h (m.hands.map tx) ∧ q ≠ h ∧ Nw H0 h
instance {H H0 : Hp} {q : Addr} {m : Pt} [h : PtN H0 H q m] : PtL H q m := by
  obtain ⟨b, l1, l2, n, _⟩ := h.ex
  exact ⟨b, l1, l2, n⟩
/-- all of such a list is known on when only what was new at H0 changes -/
theorem ptl_mu {H H' H0 : Hp} {q p : Addr} {m : Pt} (w : Nw H0 p) (h0 : PtL H0 q m) (e : Mx H0 p H') : PtL H' q m := by
  obtain ⟨b, l1, l2, n⟩ := h0.ex
  have n1 : q ≠ p := w.ne l1.lm nt_l
  have n2 : b ≠ p := w.ne l2.lm nt_l
  exact ⟨b, ⟨e.mx.b n1 l1.lm nt_l⟩, ⟨e.mx.b n2 l2.lm nt_l⟩, n⟩
/-- .. short ones -/
structure Pt.Sm (m : Pt) : Prop where
  p : m.pts.length ≤ 40
  h : ∀ a ∈ m.hands, a.length ≤ 41
  c : ∀ n, m.twin = some n → n < 10 ^ 30
theorem isN : ∀ v ∈ ([.int 2, .int 3, .int 5, .int 2, .int 9, .int 3, .int 2, .int 40] : List V), ∃ n : Int, v = .int n ∧ 0 < n ∧ n ≤ 40 := by
  intro v h
  simp only [List.mem_cons, List.not_mem_nil, or_false] at h
  rcases h with rfl | rfl | rfl | rfl | rfl | rfl | rfl | rfl <;> exact ⟨_, rfl, by decide, by decide⟩
theorem isN2 : ∀ v ∈ ([.int 9, .int 99, .int 999, .int 9999] : List V), ∃ n : Int, v = .int n ∧ 0 < n ∧ n ≤ 9999 := by
  intro v h
  simp only [List.mem_cons, List.not_mem_nil, or_false] at h
  rcases h with rfl | rfl | rfl | rfl <;> exact ⟨_, rfl, by decide, by decide⟩
theorem isN3 : ∀ v ∈ ([.int 8, .int 98, .int 998, .int (10 ^ Int.toNat 29)] : List V), ∃ n : Int, v = .int n ∧ 0 < n ∧ n ≤ 10 ^ 29 := by
  intro v h
  simp only [List.mem_cons, List.not_mem_nil, or_false] at h
  rcases h with rfl | rfl | rfl | rfl <;> exact ⟨_, rfl, by decide, by decide⟩
theorem nw_back {H H' : Hp} {p q : Addr} (w : Nw H' q) (m : Mx H p H') (pl : PL H' p) : Nw H q := ⟨fun o nt e => by
  obtain ⟨n, lm, _⟩ := pl.ex
  by_cases hq : q = p
  · subst hq
    exact w.nw _ nt_l lm.lm
  · exact w.nw o nt (m.mx.b hq e nt)⟩
def sp_law_parts : Sp := fun vs H Q _ => ∃ (p : Addr), vs = [.ref p] ∧ PL H p ∧ ∀ q m H', Nw H q → PtN H H' q m → m.Ok → m.Sm → Mu H p H' → PL H' p → Q (.ref q) H'
theorem ok_law_parts (T : Txt K mg w base) : ∃ fd, FunD K d_law_parts.name d_law_parts.qual d_law_parts.params d_law_parts.body d_law_parts.scope (d_law_parts.dvs K) (d_law_parts.kws K) (He.fAd K d_law_parts.at_) fd ∧ FnOk P w K mg base C8.CX0 4 (He.fAd K d_law_parts.at_) fd ["pool"] sp_law_parts := by
  obtain ⟨fd, F⟩ := T.f_law_parts
  refine ⟨fd, F, ?_⟩
  have sc := (show FnScope ["pool", "most", "letters", "k", "number", "tens", "hands", "age", "twin"] ["pool"] (defScope s_law_parts) from ⟨rfl, rfl, rfl, by decide +kernel, rfl, by decide +kernel, by decide +kernel⟩)
  refine F.ok sc (fun vs H Q E h => ?_) (fun cdv A outer s H vs Q E hr h => ?_)
  · obtain ⟨p, rfl, pl, k⟩ := h; rfl
  obtain ⟨p, rfl, pl, k⟩ := h
  have hu := hr.units
  refine ⟨_, PSs.nox (pss_cons (ps_set (i := 1) sc.nd rfl (by first | exact Or.inl rfl | exact Or.inr rfl) (pe_ix (U.xu (K := K)) (pe_lst (pa_cons pe_int (pa_cons pe_int (pa_cons pe_int (pa_cons pe_int (pa_cons pe_int (pa_cons pe_int (pa_cons pe_int (pa_cons pe_int pa_nil))))))))) (C8.pe_c (c_law_take T) hr (by decide) rfl (pa_cons (pv 0) (pa_cons pe_int pa_nil))) (fun _ _ => rfl)))
  (pss_cons (ps_set (i := 2) sc.nd rfl (by first | exact Or.inl rfl | exact Or.inr rfl) (U.pe_s (l := []) (by decide +kernel)))
  (pss_cons (ps_for PassesOwn.never rfl (pi_range1 (by rfl) T.b_range (pa_cons (pe_op (U.ou_add (K := K)) pe_int (C8.pe_c (c_law_take T) hr (by decide) rfl (pa_cons (pv 0) (pa_cons pe_int pa_nil)))) pa_nil)) (pg_name (i := 3) sc.nd rfl (by first | exact Or.inl rfl | exact Or.inr rfl)) (pss_one (ps_set (i := 2) sc.nd rfl (by first | exact Or.inl rfl | exact Or.inr rfl) (pe_op (U.ou_add (K := K)) (pv 2) (pe_ix (U.xu (K := K)) (U.pe_s (l := [97, 98, 99, 100, 101, 102, 103, 104, 105, 106, 107, 108, 109, 110, 111, 112, 113, 114, 115, 116, 117, 118, 119, 120, 121, 122]) (by decide +kernel)) (C8.pe_c (c_law_take T) hr (by decide) rfl (pa_cons (pv 0) (pa_cons pe_int pa_nil))) (fun _ _ => rfl))))))
  (pss_cons (ps_set (i := 4) sc.nd rfl (by first | exact Or.inl rfl | exact Or.inr rfl) (pe_op (U.ou_add (K := K)) pe_int (C8.pe_c (c_law_take T) hr (by decide) rfl (pa_cons (pv 0) (pa_cons (pe_ix (U.xu (K := K)) (pe_lst (pa_cons pe_int (pa_cons pe_int (pa_cons pe_int (pa_cons pe_int pa_nil))))) (C8.pe_c (c_law_take T) hr (by decide) rfl (pa_cons (pv 0) (pa_cons pe_int pa_nil))) (fun _ _ => rfl)) pa_nil)))))
  (pss_cons (ps_set (i := 5) sc.nd rfl (by first | exact Or.inl rfl | exact Or.inr rfl) (U.pe_s (l := []) (by decide +kernel)))
  (C8.pss_cut (ps_if (pt_cmpR (U.ou_eq (K := K) hu) (C8.pe_c (c_law_take T) hr (by decide) rfl (pa_cons (pv 0) (pa_cons pe_int pa_nil))) pe_int (nomark _)) (pss_one (ps_set (i := 5) sc.nd rfl (by first | exact Or.inl rfl | exact Or.inr rfl) (C8.pe_c (c_law_figures T) hr (by decide) rfl (pa_cons (pv 0) (pa_cons (pv 1) pa_nil))))) pss_nil)
  (pss_cons (ps_set (i := 6) sc.nd rfl (by first | exact Or.inl rfl | exact Or.inr rfl) (pe_lst pa_nil))
  (pss_cons (ps_for PassesOwn.never rfl (pi_range1 (by rfl) T.b_range (pa_cons (C8.pe_c (c_law_take T) hr (by decide) rfl (pa_cons (pv 0) (pa_cons pe_int pa_nil))) pa_nil)) (pg_name (i := 3) sc.nd rfl (by first | exact Or.inl rfl | exact Or.inr rfl)) (pss_one (ps_expr (pe_bm PySem.F.plainAttrs_list PySem.F.slot_list_append PySem.F.type_list_append mt_append (pv 6) (pa_cons (C8.pe_c (c_law_maker T) hr (by decide) rfl (pa_cons (pv 0) (pa_cons (pv 1) pa_nil))) pa_nil)))))
  (pss_cons (ps_set (i := 7) sc.nd rfl (by first | exact Or.inl rfl | exact Or.inr rfl) pe_non)
  (C8.pss_cut (ps_if (pt_cmpR (U.ou_eq (K := K) hu) (C8.pe_c (c_law_take T) hr (by decide) rfl (pa_cons (pv 0) (pa_cons pe_int pa_nil))) pe_int (nomark _)) (pss_one (ps_set (i := 7) sc.nd rfl (by first | exact Or.inl rfl | exact Or.inr rfl) (pe_op (U.ou_add (K := K)) pe_int (C8.pe_c (c_law_take T) hr (by decide) rfl (pa_cons (pv 0) (pa_cons pe_int pa_nil)))))) pss_nil)
  (pss_cons (ps_set (i := 8) sc.nd rfl (by first | exact Or.inl rfl | exact Or.inr rfl) pe_non)
  (C8.pss_cut (ps_if (pt_cmpR (U.ou_eq (K := K) hu) (C8.pe_c (c_law_take T) hr (by decide) rfl (pa_cons (pv 0) (pa_cons pe_int pa_nil))) pe_int (nomark _)) (pss_one (ps_set (i := 8) sc.nd rfl (by first | exact Or.inl rfl | exact Or.inr rfl) (pe_op (U.ou_add (K := K)) pe_int (C8.pe_c (c_law_take T) hr (by decide) rfl (pa_cons (pv 0) (pa_cons (pe_ix (U.xu (K := K)) (pe_lst (pa_cons pe_int (pa_cons pe_int (pa_cons pe_int (pa_cons (pe_op U.ou_pow pe_int pe_int) pa_nil))))) (C8.pe_c (c_law_take T) hr (by decide) rfl (pa_cons (pv 0) (pa_cons pe_int pa_nil))) (fun _ _ => rfl)) pa_nil)))))) pss_nil)
  (pss_one (ps_ret (pe_lst (pa_cons (pv 2) (pa_cons (pv 4) (pa_cons (pv 5) (pa_cons (pv 6) (pa_cons (pv 7) (pa_cons (pv 8) pa_nil))))))))))))))))))))), ?_⟩
  walk_at "ust0"
  walk_at "ugo"
  refine al_l fun l0 H1 nw0 ex0 lm0 => ?_
  walk_at "ugo"
  intro r H2 hr m2 p2
  walk_at "ugo"
  obtain ⟨v, hv, ev⟩ := pick (xs := [.int 2, .int 3, .int 5, .int 2, .int 9, .int 3, .int 2, .int 40]) (r := r) (by simp; omega)
  obtain ⟨most, rfl, hm0, hm1⟩ := isN v hv
  refine ix_is ev ?_
  walk_at "ugo"
  intro r3 H3 hr3 m3 p3
  walk_at "ugo"
  refine for_r (n := ((1 : Int) + (r3 : Int)).toNat) (i := 0) (fun i σ H' => (∃ (a : List Nat) (o : Option V), σ = [some (.ref p), some (.int most), some (tx a), o, none, none, none, none, none] ∧ a.length = i ∧ ∀ c ∈ a, Lt c) ∧ Mx H p H' ∧ PL H' p) ⟨⟨[], _, rfl, rfl, fun c hc => by cases hc⟩, inferInstance, p3⟩ (fun i σ H' hi h => ?_) (fun σ H' h => ?_)
  · obtain ⟨⟨a, o, rfl, hl, ha⟩, mx, pl'⟩ := h
    walk_at "ugo"
    intro t H2 ht m2 p2
    have ht : t < 26 := by omega
    walk_at "ugo"
    refine ix_sg (by walk_at "usd") (at_lets ht) ?_
    walk_at "ugo"
    exact ⟨⟨a ++ [97 + t], _, rfl, by simp [hl], fun c hc => by
      rcases List.mem_append.mp hc with hc | hc
      · exact ha c hc
      · rw [List.mem_singleton.mp hc]; exact ⟨by omega, by omega⟩⟩, inferInstance, p2⟩
  obtain ⟨⟨lets, o, rfl, hl, ha⟩, mx, pl'⟩ := h
  have hname : Name lets := ⟨⟨by omega, by omega⟩, ha⟩
  walk_at "ugo"
  refine al_l fun l5 H5 nw5 ex5 lm5 => ?_
  walk_at "ugo"
  intro r6 H6 hr6 m6 p6
  walk_at "ugo"
  obtain ⟨v, hv, ev⟩ := pick (xs := [.int 9, .int 99, .int 999, .int 9999]) (r := r6) (by simp; omega)
  obtain ⟨n7, rfl, hn0, hn1⟩ := isN2 v hv
  refine ix_is ev ?_
  walk_at "ugo"
  intro num H7 hnum m7 p7
  walk_at "ugo"
  have e7 : (1 : Int) + (num : Int) = ((1 + num : Nat) : Int) := by omega
  rw [e7]
  walk_at "ugo"
  have mx7 : Mx H p H7 := inferInstance
  refine cut_ (fun σ H' => ∃ pts : List Nat, σ = [some (.ref p), some (.int most), some (tx lets), o, some (.int ((1 + num : Nat) : Int)), some (tx pts), none, none, none] ∧ (pts = [] ∨ Figs pts) ∧ pts.length ≤ 40 ∧ Mx H p H' ∧ PL H' p) ?_ (fun σ H' h => ?_)
  · walk_at "ugo"
    intro r8 H8 hr8 m8 p8
    walk_at "ugo"
    refine br2 (fun h => ?_) (fun h => ?_)
    · walk_at "ugo"
      intro a H9 ha9 hl9 m9 p9
      walk_at "ugo"
      exact ⟨a, rfl, .inr ha9, by omega, inferInstance, p9⟩
    · walk_at "ugo"
      exact ⟨[], rfl, .inl rfl, by simp, inferInstance, p8⟩
  obtain ⟨pts, rfl, hpts, hpl, mx8, pl8⟩ := h
  walk_at "ugo"
  refine al_l fun hh H9 nw9 ex9 lm9 => ?_
  walk_at "ugo"
  intro r10 H10 hr10 m10 p10
  walk_at "ugo"
  have mx9 : Mx H p H' := mx8
  refine for_r (n := (r10 : Int).toNat) (i := 0) (fun i σ H'' => (∃ (ms : List (List Nat)) (o : Option V), σ = [some (.ref p), some (.int most), some (tx lets), o, some (.int ((1 + num : Nat) : Int)), some (tx pts), some (.ref hh), none, none] ∧ ms.length = i ∧ (∀ a ∈ ms, Maker a ∧ a.length ≤ 41) ∧ LM H'' hh (ms.map tx)) ∧ Mx H p H'' ∧ PL H'' p) ⟨⟨[], _, rfl, rfl, (fun c hc => by cases hc), (inferInstance : LM H10 hh [])⟩, inferInstance, p10⟩ (fun i σ H'' hi h => ?_) (fun σ H'' h => ?_)
  · obtain ⟨⟨ms, o, rfl, hl, hms, lmh⟩, mx, pl'⟩ := h
    walk_at "ugo"
    intro a H11 ha11 hl11 m11 p11
    walk_at "ugo"
    refine mu_l' fun H12 m12 l12 => ?_
    walk_at "ugo"
    exact ⟨⟨ms ++ [a], _, rfl, by simp [hl], fun c hc => by
      rcases List.mem_append.mp hc with hc | hc
      · exact hms c hc
      · rw [List.mem_singleton.mp hc]; exact ⟨ha11, by omega⟩, by rw [List.map_append]; exact l12⟩, inferInstance, inferInstance⟩
  obtain ⟨⟨ms, o2, rfl, hml, hms, lmh⟩, mx11, pl11⟩ := h
  walk_at "ugo"
  refine cut_ (fun σ H' => ∃ age : Option Nat, σ = [some (.ref p), some (.int most), some (tx lets), o2, some (.int ((1 + num : Nat) : Int)), some (tx pts), some (.ref hh), some (oV age), none] ∧ (∀ n, age = some n → 1000 ≤ n ∧ n ≤ 2999) ∧ LM H' hh (ms.map tx) ∧ Mx H p H' ∧ PL H' p) ?_ (fun σ H13 h => ?_)
  · walk_at "ugo"
    intro r8 H8 hr8 m8 p8
    walk_at "ugo"
    refine br2 (fun h => ?_) (fun h => ?_)
    · walk_at "ugo"
      intro a H9 ha9 m9 p9
      walk_at "ugo"
      exact ⟨some (1000 + a), by rw [show (1000 : Int) + (a : Int) = ((1000 + a : Nat) : Int) by omega]; rfl, (fun n hn => by cases hn; omega), inferInstance, inferInstance, p9⟩
    · walk_at "ugo"
      exact ⟨none, rfl, (fun n hn => by cases hn), inferInstance, inferInstance, p8⟩
  obtain ⟨age, rfl, hage, lm13, mx13, pl13⟩ := h
  walk_at "ugo"
  refine cut_ (fun σ H' => ∃ twin : Option Nat, σ = [some (.ref p), some (.int most), some (tx lets), o2, some (.int ((1 + num : Nat) : Int)), some (tx pts), some (.ref hh), some (oV age), some (oV twin)] ∧ (∀ n, twin = some n → 2 ≤ n ∧ n < 10 ^ 29 + 2) ∧ LM H' hh (ms.map tx) ∧ Mx H p H' ∧ PL H' p) ?_ (fun σ H14 h => ?_)
  · walk_at "ugo"
    intro r8 H8 hr8 m8 p8
    walk_at "ugo"
    refine br2 (fun h => ?_) (fun h => ?_)
    · walk_at "ugo"
      refine al_l fun l5 H5 nw5 ex5 lm5 => ?_
      walk_at "ugo"
      intro r6 H6 hr6 m6 p6
      walk_at "ugo"
      obtain ⟨v, hv, ev⟩ := pick (xs := [.int 8, .int 98, .int 998, .int (10 ^ Int.toNat 29)]) (r := r6) (by simp; omega)
      obtain ⟨n7, rfl, hn0, hn1⟩ := isN3 v hv
      refine ix_is ev ?_
      walk_at "ugo"
      intro a H9 ha9 m9 p9
      walk_at "ugo"
      exact ⟨some (2 + a), by rw [show (2 : Int) + (a : Int) = ((2 + a : Nat) : Int) by omega]; rfl, (fun n hn => by cases hn; omega), inferInstance, inferInstance, p9⟩
    · walk_at "ugo"
      exact ⟨none, rfl, (fun n hn => by cases hn), inferInstance, inferInstance, p8⟩
  obtain ⟨twin, rfl, htwin, lm14, mx14, pl14⟩ := h
  walk_at "ugo"
  refine al_l fun q H15 nw15 ex15 lm15 => ?_
  refine k q ⟨lets, 1 + num, pts, ms, age, twin⟩ H15 (nw_back nw15 mx14 pl14) ⟨hh, lm15, inferInstance, (nw15.ne lm14.lm nt_l).symm, nw_back nw9 mx8 pl8⟩ ⟨hname, ⟨by dsimp only; omega, by dsimp only; omega⟩, hpts, by dsimp only; omega, by dsimp only; omega, fun a ha => ⟨(hms a ha).1, by have := (hms a ha).2; omega⟩, hage, fun n hn => by have := htwin n hn; omega⟩ ⟨hpl, fun a ha => (hms a ha).2, fun n hn => by have := htwin n hn; omega⟩ mu_pl inferInstance
theorem c_law_parts (T : Txt K mg w base) : C8.Cal P w K mg base 4 "_law_parts" sp_law_parts [] := by
  obtain ⟨fd, F, ok⟩ := ok_law_parts (P := P) (w := w) (base := base) T
  exact cal_n F T.g_law_parts (F.bindsN fun _ _ _ _ _ _ us hl => match us, hl with | [_], _ => rfl) ok
end
end T

namespace T
open PySem PySem.Spec PyProof.Rows L2 U
open SX (S)
variable [QN]
section
variable {P : Program} {w : World} {K : PySem.W.Frag} {mg : PySem.Str → Option Value} {base : Heap}
theorem nw_ex {H0 H1 : Hp} {p : Addr} (w : Nw H1 p) (e : Ex H0 H1) : Nw H0 p := ⟨fun o n h => w.nw o n (e.ex.a h n)⟩
/-! _law_mark -/
def sp_law_mark (K : PySem.W.Frag) : Sp := fun vs H Q _ => ∃ (q : Addr) (m : Pt), vs = [.ref q] ∧ PtL H q m ∧ m.Ok ∧ ∀ x H', Nw H x → Ex H H' → MkO K H' x m → Q (.ref x) H'
theorem ok_law_mark (T : Txt K mg w base) : ∃ fd, FunD K d_law_mark.name d_law_mark.qual d_law_mark.params d_law_mark.body d_law_mark.scope (d_law_mark.dvs K) (d_law_mark.kws K) (He.fAd K d_law_mark.at_) fd ∧ FnOk P w K mg base C8.CX0 6 (He.fAd K d_law_mark.at_) fd ["parts"] (sp_law_mark K) := by
  obtain ⟨fd, F⟩ := T.f_law_mark
  refine ⟨fd, F, ?_⟩
  have sc := (show FnScope ["parts"] ["parts"] (defScope s_law_mark) from ⟨rfl, rfl, rfl, by decide +kernel, rfl, by decide +kernel, by decide +kernel⟩)
  refine F.ok sc (fun vs H Q E h => ?_) (fun cdv A outer s H vs Q E hr h => ?_)
  · obtain ⟨q, m, rfl, pt, ok, k⟩ := h; rfl
  obtain ⟨q, m, rfl, pt, ok, k⟩ := h
  have hu := hr.units
  refine ⟨_, PSs.nox (pss_one (ps_ret (U.pe_mkk (c_Mark_2_points_makers_year_copy T) hr (by decide) rfl (pa_cons (pe_ix (U.xu (K := K)) (pv 0) pe_int (fun _ _ => rfl)) (pa_cons (pe_ix (U.xu (K := K)) (pv 0) pe_int (fun _ _ => rfl)) pa_nil)) (pk_cons (pe_ix (U.xu (K := K)) (pv 0) pe_int (fun _ _ => rfl)) (pk_cons (pe_callTy (U.cu_lst (K := K)) (by rfl) T.b_list (by decide +kernel) (pa_cons (pe_ix (U.xu (K := K)) (pv 0) pe_int (fun _ _ => rfl)) pa_nil)) (pk_cons (pe_ix (U.xu (K := K)) (pv 0) pe_int (fun _ _ => rfl)) (pk_cons (pe_ix (U.xu (K := K)) (pv 0) pe_int (fun _ _ => rfl)) pk_nil))))))), ?_⟩
  walk_at "ust0"
  obtain ⟨h, lm, lh, ne⟩ := pt.ex
  walk_at "ugo"
  refine ix_is (v := tx m.lets) (atI_nat (j := 0) rfl) ?_
  walk_at "ugo"
  refine ix_is (v := .int (m.num : Int)) (atI_nat (j := 1) rfl) ?_
  walk_at "ugo"
  refine ix_is (v := tx m.pts) (atI_nat (j := 2) rfl) ?_
  walk_at "ugo"
  refine ix_is (v := .ref h) (atI_nat (j := 3) rfl) ?_
  walk_at "ugo"
  refine al_l fun l H1 nw1 ex1 lm1 => ?_
  walk_at "ugo"
  refine ix_is (v := oV m.age) (atI_nat (j := 4) rfl) ?_
  walk_at "ugo"
  refine ix_is (v := oV m.twin) (atI_nat (j := 5) rfl) ?_
  walk_at "ugo"
  refine mk_i fun x dx H2 nw2 ex2 ir2 => ?_
  refine ⟨x, dx, _, m, rfl, ir2, hdv_l inferInstance, ok, fun t H3 mi3 ir3 tr3 => ⟨rfl, ?_⟩⟩
  exact k x H3 (nw_ex nw2 ex1) ⟨Et.et⟩ ⟨dx, t, ir3, tr3⟩
theorem c_law_mark (T : Txt K mg w base) : C8.Cal P w K mg base 6 "_law_mark" (sp_law_mark K) [] := by
  obtain ⟨fd, F, ok⟩ := ok_law_mark (P := P) (w := w) (base := base) T
  exact cal_n F T.g_law_mark (F.bindsN fun _ _ _ _ _ _ us hl => match us, hl with | [_], _ => rfl) ok
/-! _law_text -/
structure Pt.W (m : Pt) : Prop where
  l : m.lets.length ≤ 100
  n : m.num < 10 ^ 59
  p : m.pts.length ≤ 100
  h : m.hands.length ≤ 6
  hs : ∀ a ∈ m.hands, a.length ≤ 100
  y : ∀ n, m.age = some n → n < 10 ^ 59
  c : ∀ n, m.twin = some n → n < 10 ^ 59
def handT (l : List (List Nat)) : List Nat := l.flatMap fun a => 32 :: a
def Pt.t1 (m : Pt) : List Nat := m.lets ++ nm m.num ++ (if m.pts = [] then [] else 46 :: m.pts)
def ageT : Option Nat → List Nat | none => [] | some n => 32 :: nm n
def twinT : Option Nat → List Nat | none => [] | some n => 32 :: 99 :: 46 :: nm n
def Pt.text2 (m : Pt) : List Nat := m.t1 ++ handT m.hands ++ ageT m.age ++ twinT m.twin
theorem join_cons (w : List Nat) (ws : List (List Nat)) : TL.joinL [32] (w :: ws) = w ++ handT ws := by
  induction ws generalizing w with
  | nil => simp [TL.joinL, handT]
  | cons v ws ih =>
    show w ++ ([32] ++ TL.joinL [32] (v :: ws)) = _
    rw [ih v]
    simp [handT]
theorem text_eq (m : Pt) : m.text = m.text2 := by
  obtain ⟨lets, num, pts, hands, age, twin⟩ := m
  unfold Pt.text Pt.words Pt.text2 Pt.t1
  simp only [List.cons_append, List.nil_append, List.append_assoc]
  rw [join_cons]
  cases age <;> cases twin <;> simp [handT, ageT, twinT]
theorem handT_len {l : List (List Nat)} {n : Nat} (h : ∀ a ∈ l, a.length ≤ n) : (handT l).length ≤ l.length * (n + 1) := by
  induction l with
  | nil => simp [handT]
  | cons a l ih =>
    have h1 := h a (List.mem_cons_self ..)
    have h2 := ih fun b hb => h b (List.mem_cons_of_mem _ hb)
    have e : handT (a :: l) = (32 :: a) ++ handT l := rfl
    rw [e, List.length_append, List.length_cons, List.length_cons, Nat.succ_mul]
    omega
theorem text_len {m : Pt} (h : m.W) : m.text2.length ≤ 1200 := by
  have h1 := h.l
  have h2 := nm_len (n := m.num) (by have := h.n; omega)
  have h3 := h.p
  have h4 := handT_len h.hs
  have h5 := h.h
  have h6 : (ageT m.age).length ≤ 61 := by
    cases e : m.age with
    | none => simp [ageT]
    | some n => have := nm_len (n := n) (by have := h.y n e; omega); simp [ageT]; omega
  have h7 : (twinT m.twin).length ≤ 63 := by
    cases e : m.twin with
    | none => simp [twinT]
    | some n => have := nm_len (n := n) (by have := h.c n e; omega); simp [twinT]; omega
  have h8 : (if m.pts = [] then [] else 46 :: m.pts).length ≤ 101 := by split <;> simp <;> omega
  unfold Pt.text2 Pt.t1
  simp only [List.length_append]
  omega

end
end T

namespace T
open PySem PySem.Spec PyProof.Rows L2 U
open SX (S)
variable [QN]
section
variable {P : Program} {w : World} {K : PySem.W.Frag} {mg : PySem.Str → Option Value} {base : Heap}
theorem cut_to {xs : List V} {r : Nat} : cutV xs none (some (r : Int)) = xs.take r := by
  unfold cutV
  rw [HT.sIx_nat]
  simp [HT.sIx]
theorem cut_fr {xs : List V} {r : Nat} : cutV xs (some (r : Int)) none = xs.drop r := by
  unfold cutV
  rw [HT.sIx_nat]
  show (xs.drop (min r xs.length)).take (xs.length - min r xs.length) = xs.drop r
  rw [List.take_of_length_le (by rw [List.length_drop]; omega)]
  by_cases h : r ≤ xs.length
  · rw [Nat.min_eq_left h]
  · rw [Nat.min_eq_right (by omega), List.drop_of_length_le (Nat.le_refl _), List.drop_of_length_le (by omega)]
theorem val_lt : ∀ (a : List Nat), (∀ c ∈ a, Fg c) → NumText.digitsVal a < 10 ^ a.length := by
  intro a
  induction hn : a.length generalizing a with
  | zero =>
    intro _
    have : a = [] := List.length_eq_zero_iff.mp hn
    subst this
    decide
  | succ n ih =>
    intro h
    obtain ⟨b, c, rfl⟩ : ∃ b c, a = b ++ [c] := ⟨a.dropLast, a.getLast (by rintro rfl; cases hn), (List.dropLast_concat_getLast _).symm⟩
    rw [List.length_append, List.length_singleton] at hn
    have h1 := ih b (by omega) fun d hd => h d (List.mem_append_left _ hd)
    have h2 := h c (List.mem_append_right _ (List.mem_singleton.mpr rfl))
    rw [NumText.digitsVal_snoc, Nat.pow_succ]
    generalize 10 ^ n = t at h1 ⊢
    omega
theorem int_t {H : Hp} {Q : VK} {a : List Nat} (h : ∀ c ∈ a, Fg c) (hne : a ≠ []) (hl : a.length ≤ 600) (k : Q (.int ((NumText.digitsVal a : Nat) : Int)) H) : uInt [.str (S a)] H Q :=
  .inr ⟨S a, _, rfl, SX.int_S (List.all_eq_true.mpr fun c hc => by have := h c hc; simp; exact this) hne (by omega), by rw [SX.S_len]; omega, k⟩
theorem nm_fig (n : Nat) : ∀ c ∈ nm n, Fg c := fun c hc => TL.numL_digits n c hc
/-- two lists with unlike contents stand apart -/
theorem ne_cont {H : Hp} {a b : Addr} {xs ys : List V} (h1 : LM H a xs) (h2 : LM H b ys) (h : xs ≠ ys) : a ≠ b := by
  rintro rfl
  have := h1.lm.symm.trans h2.lm
  injection this with e
  injection e with e
  exact h e
theorem tx_ne {ms : List (List Nat)} {n : Int} : ms.map tx ≠ [.int n] := by
  intro h
  cases ms with
  | nil => cases h
  | cons a ms => injection h with h _; cases h
theorem ptl_ne {H : Hp} {p q h : Addr} {m : Pt} (pl : PL H p) (l1 : LM H q [tx m.lets, .int (m.num : Int), tx m.pts, .ref h, oV m.age, oV m.twin]) (l2 : LM H h (m.hands.map tx)) : q ≠ p ∧ h ≠ p := by
  obtain ⟨n, lm, _⟩ := pl.ex
  exact ⟨ne_cont l1 lm (by simp), ne_cont l2 lm tx_ne⟩
instance {H H' : Hp} {p q : Addr} {m : Pt} [e : Mu H p H'] [pl : PL H p] [h : PtL H q m] : PtL H' q m := by
  obtain ⟨b, l1, l2, n⟩ := h.ex
  obtain ⟨n1, n2⟩ := ptl_ne pl l1 l2
  exact ⟨b, ⟨e.mu.b n1 l1.lm nt_l⟩, ⟨e.mu.b n2 l2.lm nt_l⟩, n⟩
/-! near a word -/
/-- figures, or none; not many -/
def Wd (a : List Nat) : Prop := (a = [] ∨ Figs a) ∧ a.length ≤ 40
theorem wd_fg {a : List Nat} (h : Wd a) : ∀ c ∈ a, Fg c := by
  intro c hc
  rcases h.1 with e | e
  · rw [e] at hc; cases hc
  · exact e.all c hc
theorem wd_rs {a : List Nat} (h : ∀ c ∈ a, Fg c) (hl : a.length ≤ 40) : Wd (rsB a [48]) := by
  refine ⟨?_, Nat.le_trans (rs_len _ _) hl⟩
  by_cases e : rsB a [48] = []
  · exact .inl e
  · obtain ⟨c, h1, h2⟩ := rs_last e
    exact .inr ⟨fun d hd => h d (rs_mem hd), c, h1, by simpa using h2⟩
def sp_law_near_word : Sp := fun vs H Q _ => ∃ (a : List Nat) (p : Addr), vs = [tx a, .ref p] ∧ PL H p ∧ Wd a ∧ ∀ b H', Wd b → Mu H p H' → PL H' p → Q (tx b) H'
theorem ok_law_near_word (T : Txt K mg w base) : ∃ fd, FunD K d_law_near_word.name d_law_near_word.qual d_law_near_word.params d_law_near_word.body d_law_near_word.scope (d_law_near_word.dvs K) (d_law_near_word.kws K) (He.fAd K d_law_near_word.at_) fd ∧ FnOk P w K mg base C8.CX0 2 (He.fAd K d_law_near_word.at_) fd ["word", "pool"] sp_law_near_word := by
  obtain ⟨fd, F⟩ := T.f_law_near_word
  refine ⟨fd, F, ?_⟩
  have sc := (show FnScope ["word", "pool", "more", "kept"] ["word", "pool"] (defScope s_law_near_word) from ⟨rfl, rfl, rfl, by decide +kernel, rfl, by decide +kernel, by decide +kernel⟩)
  refine F.ok sc (fun vs H Q E h => ?_) (fun cdv A outer s H vs Q E hr h => ?_)
  · obtain ⟨a, p, rfl, pl, hw, k⟩ := h; rfl
  obtain ⟨a, p, rfl, pl, hw, k⟩ := h
  have hu := hr.units
  refine ⟨_, PSs.nox (pss_cons (ps_set (i := 2) sc.nd rfl (by first | exact Or.inl rfl | exact Or.inr rfl) (C8.pe_c (c_law_take T) hr (by decide) rfl (pa_cons (pv 1) (pa_cons pe_int pa_nil))))
  (pss_cons (ps_set (i := 3) sc.nd rfl (by first | exact Or.inl rfl | exact Or.inr rfl) (pe_slice (U.su (K := K)) (pv 0) po_none (po_some (C8.pe_c (c_law_take T) hr (by decide) rfl (pa_cons (pv 1) (pa_cons (pe_op (U.ou_add (K := K)) (pe_callB (U.cu_len (K := K)) (by rfl) T.b_len (by decide +kernel) (pa_cons (pv 0) pa_nil)) pe_int) pa_nil))))))
  (pss_cons (ps_if (PW.pt (pw_and (pt_cmpR (U.ou_eq (K := K) hu) (pv 2) pe_int (nomark _)) (pw_and1 (pt_cmpR (U.ou_ltD (K := K) hu) (pe_callB (U.cu_len (K := K)) (by rfl) T.b_len (by decide +kernel) (pa_cons (pv 3) pa_nil)) pe_int (nomark _))))) (pss_one (ps_set (i := 3) sc.nd rfl (by first | exact Or.inl rfl | exact Or.inr rfl) (pe_op (U.ou_add (K := K)) (pv 3) (pe_ix (U.xu (K := K)) (U.pe_s (l := [48, 49, 50, 51, 52, 53, 54, 55, 56, 57]) (by decide +kernel)) (C8.pe_c (c_law_take T) hr (by decide) rfl (pa_cons (pv 1) (pa_cons pe_int pa_nil))) (fun _ _ => rfl))))) pss_nil)
  (pss_one (ps_ret (pe_m1 PySem.F.slot_str_rstrip PySem.F.type_str_rstrip U.mu_rst (pv 3) (U.pe_s (l := [48]) (by decide +kernel)))))))), ?_⟩
  walk_at "ust0"
  have hl := hw.2
  have hf := wd_fg hw
  walk_at "ugo"
  intro r H1 hr m1 p1
  walk_at "ugo"
  intro r2 H2 hr2 m2 p2
  walk_at "ugo"
  refine sl_to (by walk_at "usd") (by omega) ?_
  walk_at "ugo"
  have h1 : (a.take (r2 : Int).toNat).length ≤ 40 := by rw [List.length_take]; omega
  have h2 : ∀ c ∈ a.take (r2 : Int).toNat, Fg c := fun c hc => hf c (List.mem_of_mem_take hc)
  refine br2 (fun h => ?_) (fun h => ?_)
  · walk_at "ugo"
    refine br2 (fun h => ?_) (fun h => ?_)
    · walk_at "ugo"
      intro r3 H3 hr3 m3 p3
      have hr3 : r3 < 10 := by omega
      walk_at "ugo"
      refine ix_sg (by walk_at "usd") (at_figs hr3) ?_
      walk_at "ugo"
      refine rst_go ?_
      exact k _ H3 (wd_rs (fun c hc => by
        rcases List.mem_append.mp hc with hc | hc
        · exact h2 c hc
        · rw [List.mem_singleton.mp hc]; exact ⟨by omega, by omega⟩) (by rw [List.length_append, List.length_singleton]; omega)) mu_pl p3
    · walk_at "ugo"
      exact rst_go (k _ H2 (wd_rs h2 h1) mu_pl p2)
  · walk_at "ugo"
    exact rst_go (k _ H2 (wd_rs h2 h1) mu_pl p2)
theorem c_law_near_word (T : Txt K mg w base) : C8.Cal P w K mg base 2 "_law_near_word" sp_law_near_word [] := by
  obtain ⟨fd, F, ok⟩ := ok_law_near_word (P := P) (w := w) (base := base) T
  exact cal_n F T.g_law_near_word (F.bindsN fun _ _ _ _ _ _ us hl => match us, hl with | [_, _], _ => rfl) ok
instance {H : Hp} {Q : VK} {E : XK} {p : Addr} {a : List Nat} [h : PL H p] : Go (sp_law_near_word [.str (S a), .ref p] H Q E) (Sd (Wd a) (∀ b H', Wd b → Mu H p H' → PL H' p → Q (tx b) H')) := ⟨fun k => ⟨a, p, rfl, h, k.1, k.2⟩⟩
/-- a maker of not many signs -/
def Mk' (a : List Nat) : Prop := Maker a ∧ a.length ≤ 41
theorem mk_cons {c : Nat} {t : List Nat} (h : Mk' (c :: t)) : Lt c ∧ Wd t := by
  obtain ⟨⟨d, r, e, h1, h2⟩, h3⟩ := (⟨h.1.ex, h.2⟩ : (∃ d r, c :: t = d :: r ∧ Lt d ∧ Figs r) ∧ _)
  injection e with e1 e2
  subst e1 e2
  exact ⟨h1, .inr h2, by simpa using h3⟩
theorem figs_one : Figs [49] := ⟨fun c hc => by rw [List.mem_singleton.mp hc]; exact ⟨by omega, by omega⟩, 49, rfl, by omega⟩
/-! near makers -/
def sp_law_near_makers : Sp := fun vs H Q _ => ∃ (h p : Addr) (ms : List (List Nat)), vs = [.ref h, .ref p] ∧ LM H h (ms.map tx) ∧ PL H p ∧ ms.length ≤ 3 ∧ (∀ a ∈ ms, Mk' a) ∧ ∀ (q : Addr) (ns : List (List Nat)) (H' : Hp), Nw H q → LM H' q (ns.map tx) → ns.length ≤ 3 → (∀ a ∈ ns, Mk' a) → Mu H p H' → PL H' p → Q (.ref q) H'
theorem ok_law_near_makers (T : Txt K mg w base) : ∃ fd, FunD K d_law_near_makers.name d_law_near_makers.qual d_law_near_makers.params d_law_near_makers.body d_law_near_makers.scope (d_law_near_makers.dvs K) (d_law_near_makers.kws K) (He.fAd K d_law_near_makers.at_) fd ∧ FnOk P w K mg base C8.CX0 4 (He.fAd K d_law_near_makers.at_) fd ["hands", "pool"] sp_law_near_makers := by
  obtain ⟨fd, F⟩ := T.f_law_near_makers
  refine ⟨fd, F, ?_⟩
  have sc := (show FnScope ["hands", "pool", "way", "kept", "maker"] ["hands", "pool"] (defScope s_law_near_makers) from ⟨rfl, rfl, rfl, by decide +kernel, rfl, by decide +kernel, by decide +kernel⟩)
  refine F.ok sc (fun vs H Q E h => ?_) (fun cdv A outer s H vs Q E hr h => ?_)
  · obtain ⟨h, p, ms, rfl, lh, pl, l3, hms, k⟩ := h; rfl
  obtain ⟨h, p, ms, rfl, lh, pl, l3, hms, k⟩ := h
  have hu := hr.units
  refine ⟨_, PSs.nox (pss_cons (ps_set (i := 2) sc.nd rfl (by first | exact Or.inl rfl | exact Or.inr rfl) (C8.pe_c (c_law_take T) hr (by decide) rfl (pa_cons (pv 1) (pa_cons pe_int pa_nil))))
  (pss_cons (ps_set (i := 3) sc.nd rfl (by first | exact Or.inl rfl | exact Or.inr rfl) (pe_slice (U.su (K := K)) (pv 0) po_none (po_some (C8.pe_c (c_law_take T) hr (by decide) rfl (pa_cons (pv 1) (pa_cons pe_int pa_nil))))))
  (pss_cons (ps_if (pt_cmpR (U.ou_eq (K := K) hu) (pv 2) pe_int (nomark _)) (pss_one (ps_ret (pv 3))) pss_nil)
  (pss_cons (ps_if (pt_cmpR (U.ou_ltD (K := K) hu) (pe_callB (U.cu_len (K := K)) (by rfl) T.b_len (by decide +kernel) (pa_cons (pv 3) pa_nil)) (pe_callB (U.cu_len (K := K)) (by rfl) T.b_len (by decide +kernel) (pa_cons (pv 0) pa_nil)) (nomark _)) (pss_cons (ps_set (i := 4) sc.nd rfl (by first | exact Or.inl rfl | exact Or.inr rfl) (pe_ix (U.xu (K := K)) (pv 0) (pe_callB (U.cu_len (K := K)) (by rfl) T.b_len (by decide +kernel) (pa_cons (pv 3) pa_nil)) (fun _ _ => rfl)))
    (pss_one (ps_ret (pe_op (U.ou_add (K := K)) (pv 3) (pe_lst (pa_cons (pe_op (U.ou_add (K := K)) (pe_ix (U.xu (K := K)) (pv 4) pe_int (fun _ _ => rfl)) (U.pe_orT' (K := K) (C8.pe_c (c_law_near_word T) hr (by decide) rfl (pa_cons (pe_slice (U.su (K := K)) (pv 4) (po_some pe_int) po_none) (pa_cons (pv 1) pa_nil))) (pe_one (U.pe_s (l := [49]) (by decide +kernel))))) pa_nil)))))) pss_nil)
  (pss_cons (ps_if (pt_cmpR (U.ou_ltD (K := K) hu) (pe_callB (U.cu_len (K := K)) (by rfl) T.b_len (by decide +kernel) (pa_cons (pv 3) pa_nil)) pe_int (nomark _)) (pss_one (ps_ret (pe_op (U.ou_add (K := K)) (pv 3) (pe_lst (pa_cons (C8.pe_c (c_law_maker T) hr (by decide) rfl (pa_cons (pv 1) (pa_cons pe_int pa_nil))) pa_nil))))) pss_nil)
  (pss_one (ps_ret (pv 3)))))))), ?_⟩
  walk_at "ust0"
  have nhp : Ne' h p := ⟨by
    obtain ⟨n, lm, _⟩ := pl.ex
    exact ne_cont lh lm tx_ne⟩
  have hml : (ms.map tx).length = ms.length := List.length_map ..
  walk_at "ugo"
  intro way H1 hr m1 p1
  walk_at "ugo"
  intro r2 H2 hr2 m2 p2
  walk_at "ugo"
  rw [cut_to, ← List.map_take]
  have mx2 : Mx H p H2 := inferInstance
  refine al_l fun kp H3 nw3 ex3 lm3 => ?_
  have hk1 : (ms.take r2).length ≤ ms.length := by rw [List.length_take]; omega
  have hkm : ((ms.take r2).map tx).length = (ms.take r2).length := List.length_map ..
  have hk2 : ∀ a ∈ ms.take r2, Mk' a := fun a ha => hms a (List.mem_of_mem_take ha)
  have nwk : Nw H kp := nw_back nw3 mx2 p2
  walk_at "ugo"
  refine br2 (fun e => ?_) (fun e => ?_)
  · walk_at "ugo"
    exact k kp _ H3 nwk lm3 (by omega) hk2 mu_pl inferInstance
  walk_at "ugo"
  refine br2 (fun e => ?_) (fun e => ?_)
  · have hlt : (ms.take r2).length < ms.length := by omega
    obtain ⟨mk, hmk⟩ : ∃ mk, ms[(ms.take r2).length]? = some mk := ⟨_, List.getElem?_eq_getElem hlt⟩
    have hmk' := hms mk (List.mem_of_getElem? hmk)
    obtain ⟨c, t, rfl⟩ : ∃ c t, mk = c :: t := by obtain ⟨c, t, e, _⟩ := hmk'.1.ex; exact ⟨c, t, e⟩
    have hl := hmk'.2
    rw [List.length_cons] at hl
    obtain ⟨hc, hwd⟩ := mk_cons hmk'
    walk_at "ugo"
    rw [hkm]
    refine ix_is (v := tx (c :: t)) (atI_nat (by rw [List.getElem?_map, hmk]; rfl)) ?_
    walk_at "ugo"
    refine ix_sg (by walk_at "usd") (c := c) (atI_nat (j := 0) rfl) ?_
    walk_at "ugo"
    refine sl_fr (by walk_at "usd") (by omega) ?_
    rw [show List.drop (Int.toNat 1) (c :: t) = t from rfl]
    walk_at "ugo"
    intro b H4 hb m4 p4
    have hbl := hb.2
    have mx4 : Mx H p H4 := inferInstance
    walk_at "ugo"
    refine br2 (fun e2 => ?_) (fun e2 => ?_)
    · walk_at "ugo"
      refine al_l fun q5 H5 nw5 ex5 lm5 => ?_
      walk_at "ugo"
      refine al_l fun q6 H6 nw6 ex6 lm6 => ?_
      exact k q6 (ms.take r2 ++ [[c] ++ [49]]) H6 (nw_back nw6 (inferInstance : Mx H p H5) inferInstance) (by rw [List.map_append]; exact lm6) (by rw [List.length_append, List.length_singleton]; omega) (fun a ha => by
        rcases List.mem_append.mp ha with ha | ha
        · exact hk2 a ha
        · rw [List.mem_singleton.mp ha]; exact ⟨⟨c, [49], rfl, hc, figs_one⟩, by simp⟩) mu_pl inferInstance
    · walk_at "ugo"
      refine al_l fun q5 H5 nw5 ex5 lm5 => ?_
      walk_at "ugo"
      refine al_l fun q6 H6 nw6 ex6 lm6 => ?_
      exact k q6 (ms.take r2 ++ [[c] ++ b]) H6 (nw_back nw6 (inferInstance : Mx H p H5) inferInstance) (by rw [List.map_append]; exact lm6) (by rw [List.length_append, List.length_singleton]; omega) (fun a ha => by
        rcases List.mem_append.mp ha with ha | ha
        · exact hk2 a ha
        · rw [List.mem_singleton.mp ha]; exact ⟨⟨c, b, rfl, hc, hb.1.resolve_left e2⟩, by have := hb.2; simp; omega⟩) mu_pl inferInstance
  walk_at "ugo"
  refine br2 (fun e => ?_) (fun e => ?_)
  · walk_at "ugo"
    intro b H4 hb hb2 m4 p4
    walk_at "ugo"
    refine al_l fun q5 H5 nw5 ex5 lm5 => ?_
    walk_at "ugo"
    refine al_l fun q6 H6 nw6 ex6 lm6 => ?_
    exact k q6 (ms.take r2 ++ [b]) H6 (nw_back nw6 (inferInstance : Mx H p H5) inferInstance) (by rw [List.map_append]; exact lm6) (by rw [List.length_append, List.length_singleton]; omega) (fun a ha => by
        rcases List.mem_append.mp ha with ha | ha
        · exact hk2 a ha
        · rw [List.mem_singleton.mp ha]; exact ⟨hb, by omega⟩) mu_pl inferInstance
  · walk_at "ugo"
    exact k kp _ H3 nwk lm3 (by omega) hk2 mu_pl inferInstance
theorem c_law_near_makers (T : Txt K mg w base) : C8.Cal P w K mg base 4 "_law_near_makers" sp_law_near_makers [] := by
  obtain ⟨fd, F, ok⟩ := ok_law_near_makers (P := P) (w := w) (base := base) T
  exact cal_n F T.g_law_near_makers (F.bindsN fun _ _ _ _ _ _ us hl => match us, hl with | [_, _], _ => rfl) ok
end
end T

namespace T
open PySem PySem.Spec PyProof.Rows L2 U
open SX (S)
variable [QN]
section
variable {P : Program} {w : World} {K : PySem.W.Frag} {mg : PySem.Str → Option Value} {base : Heap}
instance {H : Hp} {Q : VK} {E : XK} {h p : Addr} {ms : List (List Nat)} [lm : LM H h (ms.map tx)] [pl : PL H p] : Go (sp_law_near_makers [.ref h, .ref p] H Q E) (Sd (ms.length ≤ 3) (Sd (∀ a ∈ ms, Mk' a) (∀ (q : Addr) (ns : List (List Nat)) (H' : Hp), Nw H q → LM H' q (ns.map tx) → ns.length ≤ 3 → (∀ a ∈ ns, Mk' a) → Mu H p H' → PL H' p → Q (.ref q) H'))) := ⟨fun k => ⟨h, p, ms, rfl, lm, pl, k.1, k.2.1, k.2.2⟩⟩
def sp_law_near_year : Sp := fun vs H Q _ => ∃ (y : Option Nat) (p : Addr), vs = [oV y, .ref p] ∧ PL H p ∧ (∀ n, y = some n → 1000 ≤ n ∧ n ≤ 2999) ∧ ∀ (z : Option Nat) H', (∀ n, z = some n → 1000 ≤ n ∧ n ≤ 2999) → Mu H p H' → PL H' p → Q (oV z) H'
theorem ok_law_near_year (T : Txt K mg w base) : ∃ fd, FunD K d_law_near_year.name d_law_near_year.qual d_law_near_year.params d_law_near_year.body d_law_near_year.scope (d_law_near_year.dvs K) (d_law_near_year.kws K) (He.fAd K d_law_near_year.at_) fd ∧ FnOk P w K mg base C8.CX0 2 (He.fAd K d_law_near_year.at_) fd ["age", "pool"] sp_law_near_year := by
  obtain ⟨fd, F⟩ := T.f_law_near_year
  refine ⟨fd, F, ?_⟩
  have sc := (show FnScope ["age", "pool", "way"] ["age", "pool"] (defScope s_law_near_year) from ⟨rfl, rfl, rfl, by decide +kernel, rfl, by decide +kernel, by decide +kernel⟩)
  refine F.ok sc (fun vs H Q E h => ?_) (fun cdv A outer s H vs Q E hr h => ?_)
  · obtain ⟨y, p, rfl, pl, hy, k⟩ := h; rfl
  obtain ⟨y, p, rfl, pl, hy, k⟩ := h
  have hu := hr.units
  refine ⟨_, PSs.nox (pss_cons (ps_set (i := 2) sc.nd rfl (by first | exact Or.inl rfl | exact Or.inr rfl) (C8.pe_c (c_law_take T) hr (by decide) rfl (pa_cons (pv 1) (pa_cons pe_int pa_nil))))
  (pss_cons (ps_if (pt_cmpR (U.ou_eq (K := K) hu) (pv 2) pe_int (nomark _)) (pss_one (ps_ret pe_non)) pss_nil)
  (pss_cons (ps_if (PW.pt (pw_or (pt_cmpR (U.ou_eq (K := K) hu) (pv 2) pe_int (nomark _)) (pw_or1 (pt_cmpR U.ou_is (pv 0) pe_non (nomark _))))) (pss_one (ps_ret (pe_op (U.ou_add (K := K)) pe_int (C8.pe_c (c_law_take T) hr (by decide) rfl (pa_cons (pv 1) (pa_cons pe_int pa_nil)))))) pss_nil)
  (pss_one (ps_ret (pe_op (U.ou_add (K := K)) (pe_op (U.ou_mul (K := K)) (pe_op U.ou_fdiv (pv 0) pe_int) pe_int) (C8.pe_c (c_law_take T) hr (by decide) rfl (pa_cons (pv 1) (pa_cons pe_int pa_nil))))))))), ?_⟩
  walk_at "ust0"
  walk_at "ugo"
  intro way H1 hr m1 p1
  walk_at "ugo"
  refine br2 (fun h => ?_) (fun h => ?_)
  · walk_at "ugo"
    exact k none H1 (fun n hn => by cases hn) m1 p1
  walk_at "ugo"
  have case1 : ∀ (r : Nat) (H2 : Hp), (r : Int) < 2000 → Mu H p H2 → PL H2 p → Q (.int ((1000 : Int) + (r : Int))) H2 := fun r H2 h m2 p2 => by
    rw [show (1000 : Int) + (r : Int) = ((1000 + r : Nat) : Int) by omega]
    exact k (some (1000 + r)) H2 (fun n hn => by cases hn; omega) m2 p2
  refine br2 (fun h => ?_) (fun h => ?_)
  · walk_at "ugo"
    intro r H2 hr m2 p2
    walk_at "ugo"
    exact case1 r H2 hr mu_pl p2
  cases y with
  | none =>
    rw [show oV none = V.non from rfl]
    walk_at "ugo"
    intro r H2 hr m2 p2
    walk_at "ugo"
    exact case1 r H2 hr mu_pl p2
  | some n =>
    have hn := hy n rfl
    rw [show oV (some n) = V.int (n : Int) from rfl]
    walk_at "ugo"
    refine Sd.k (cd64 (by omega) (by decide)) ?_
    walk_at "ugo"
    refine Sd.k (cm64 (by omega) (by decide)) ?_
    walk_at "ugo"
    intro r H2 hr m2 p2
    walk_at "ugo"
    rw [show (n : Int) / 10 * 10 + (r : Int) = ((n / 10 * 10 + r : Nat) : Int) by omega]
    exact k (some (n / 10 * 10 + r)) H2 (fun n hn => by cases hn; omega) mu_pl p2
theorem c_law_near_year (T : Txt K mg w base) : C8.Cal P w K mg base 2 "_law_near_year" sp_law_near_year [] := by
  obtain ⟨fd, F, ok⟩ := ok_law_near_year (P := P) (w := w) (base := base) T
  exact cal_n F T.g_law_near_year (F.bindsN fun _ _ _ _ _ _ us hl => match us, hl with | [_, _], _ => rfl) ok
instance {H : Hp} {Q : VK} {E : XK} {p : Addr} {y : Option Nat} [pl : PL H p] : Go (sp_law_near_year [oV y, .ref p] H Q E) (Sd (∀ n, y = some n → 1000 ≤ n ∧ n ≤ 2999) (∀ (z : Option Nat) H', (∀ n, z = some n → 1000 ≤ n ∧ n ≤ 2999) → Mu H p H' → PL H' p → Q (oV z) H')) := ⟨fun k => ⟨y, p, rfl, pl, k.1, k.2⟩⟩
def sp_law_near_copy : Sp := fun vs H Q _ => ∃ (y : Option Nat) (p : Addr), vs = [oV y, .ref p] ∧ PL H p ∧ (∀ n, y = some n → n < 10 ^ 30) ∧ ∀ (z : Option Nat) H', (∀ n, z = some n → 2 ≤ n ∧ n < 10 ^ 30) → Mu H p H' → PL H' p → Q (oV z) H'
theorem ok_law_near_copy (T : Txt K mg w base) : ∃ fd, FunD K d_law_near_copy.name d_law_near_copy.qual d_law_near_copy.params d_law_near_copy.body d_law_near_copy.scope (d_law_near_copy.dvs K) (d_law_near_copy.kws K) (He.fAd K d_law_near_copy.at_) fd ∧ FnOk P w K mg base C8.CX0 2 (He.fAd K d_law_near_copy.at_) fd ["twin", "pool"] sp_law_near_copy := by
  obtain ⟨fd, F⟩ := T.f_law_near_copy
  refine ⟨fd, F, ?_⟩
  have sc := (show FnScope ["twin", "pool", "digits"] ["twin", "pool"] (defScope s_law_near_copy) from ⟨rfl, rfl, rfl, by decide +kernel, rfl, by decide +kernel, by decide +kernel⟩)
  refine F.ok sc (fun vs H Q E h => ?_) (fun cdv A outer s H vs Q E hr h => ?_)
  · obtain ⟨y, p, rfl, pl, hy, k⟩ := h; rfl
  obtain ⟨y, p, rfl, pl, hy, k⟩ := h
  have hu := hr.units
  refine ⟨_, PSs.nox (pss_cons (ps_if (pt_cmpR (U.ou_eq (K := K) hu) (C8.pe_c (c_law_take T) hr (by decide) rfl (pa_cons (pv 1) (pa_cons pe_int pa_nil))) pe_int (nomark _)) (pss_one (ps_ret pe_non)) pss_nil)
  (pss_cons (ps_set (i := 2) sc.nd rfl (by first | exact Or.inl rfl | exact Or.inr rfl) (pe_callTy U.cu_str (by rfl) T.b_str (by decide +kernel) (pa_cons (pe_ifExp (pt_cmpR U.ou_is (pv 0) pe_non (nomark _)) pe_int (pv 0)) pa_nil)))
  (pss_one (ps_ret (pe_callB (U.cu_max rfl) (by rfl) T.b_max (by decide +kernel) (pa_cons pe_int (pa_cons (pe_callTy U.cu_int (by rfl) T.b_int (by decide +kernel) (pa_cons (pe_op (U.ou_add (K := K)) (pe_slice (U.su (K := K)) (pv 2) po_none (po_some (pe_op (U.ou_add (K := K)) pe_int (C8.pe_c (c_law_take T) hr (by decide) rfl (pa_cons (pv 1) (pa_cons pe_int pa_nil)))))) (pe_ix (U.xu (K := K)) (U.pe_s (l := [48, 49, 50, 51, 52, 53, 54, 55, 56, 57]) (by decide +kernel)) (C8.pe_c (c_law_take T) hr (by decide) rfl (pa_cons (pv 1) (pa_cons pe_int pa_nil))) (fun _ _ => rfl))) pa_nil)) pa_nil))))))), ?_⟩
  walk_at "ust0"
  walk_at "ugo"
  intro way H1 hr m1 p1
  walk_at "ugo"
  refine br2 (fun h => ?_) (fun h => ?_)
  · walk_at "ugo"
    exact k none H1 (fun n hn => by cases hn) m1 p1
  obtain ⟨n, hn, e⟩ : ∃ n : Nat, n < 10 ^ 30 ∧ (n = 2 ∧ y = none ∨ y = some n) := by
    cases y with
    | none => exact ⟨2, by decide, .inl ⟨rfl, rfl⟩⟩
    | some n => exact ⟨n, hy n rfl, .inr rfl⟩
  have hn60 : n < 10 ^ 60 := by omega
  have hl : (nm n).length ≤ 30 := TL.numL_len (k := 30) (by decide) hn
  have hne : nm n ≠ [] := TL.numL_ne n
  have rest : ∀ (r r2 : Nat), (r : Int) < 29 → r2 < 10 → (∀ c ∈ (nm n).take ((1 : Int) + (r : Int)).toNat ++ [48 + r2], Fg c) ∧ ((nm n).take ((1 : Int) + (r : Int)).toNat ++ [48 + r2]).length ≤ 30 ∧ NumText.digitsVal ((nm n).take ((1 : Int) + (r : Int)).toNat ++ [48 + r2]) < 10 ^ 30 := fun r r2 h1 h2 => by
    have hf : ∀ c ∈ (nm n).take ((1 : Int) + (r : Int)).toNat ++ [48 + r2], Fg c := fun c hc => by
      rcases List.mem_append.mp hc with hc | hc
      · exact nm_fig n c (List.mem_of_mem_take hc)
      · rw [List.mem_singleton.mp hc]; exact ⟨by omega, by omega⟩
    have hll : ((nm n).take ((1 : Int) + (r : Int)).toNat ++ [48 + r2]).length ≤ 30 := by
      rw [List.length_append, List.length_take, List.length_singleton]; omega
    have h3 := val_lt _ hf
    have h4 : 10 ^ ((nm n).take ((1 : Int) + (r : Int)).toNat ++ [48 + r2]).length ≤ 10 ^ 30 := Nat.pow_le_pow_right (by decide) hll
    exact ⟨hf, hll, by omega⟩
  have fin : ∀ (j : Nat) (H2 : Hp), j < 10 ^ 30 → Mu H p H2 → PL H2 p → Q (.int (max 2 (j : Int))) H2 := fun j H2 h m2 p2 => by
    rw [show max (2 : Int) (j : Int) = ((max 2 j : Nat) : Int) by omega]
    exact k (some (max 2 j)) H2 (fun n hn => by cases hn; omega) m2 p2
  rcases e with ⟨rfl, rfl⟩ | rfl
  · rw [show oV none = V.non from rfl]
    walk_at "ugo"
    rw [show (V.int 2) = V.int ((2 : Nat) : Int) from rfl]
    walk_at "ugo"
    intro r H2 hr2 m2 p2
    walk_at "ugo"
    refine sl_to (by walk_at "usd") (by omega) ?_
    walk_at "ugo"
    intro r3 H3 hr3 m3 p3
    have hr3 : r3 < 10 := by omega
    walk_at "ugo"
    refine ix_sg (by walk_at "usd") (at_figs hr3) ?_
    obtain ⟨hf, hll, hv⟩ := rest r r3 (by omega) hr3
    have hz : ((nm 2).take ((1 : Int) + (r : Int)).toNat).length + ([48 + r3] : List Nat).length ≤ sizeLine := by rw [List.length_append] at hll; rw [z24]; omega
    walk_at "ugo"
    refine int_t hf (by simp) (by omega) ?_
    walk_at "ugo"
    exact fin _ H3 hv mu_pl p3
  · rw [show oV (some n) = V.int (n : Int) from rfl]
    walk_at "ugo"
    intro r H2 hr2 m2 p2
    walk_at "ugo"
    refine sl_to (by walk_at "usd") (by omega) ?_
    walk_at "ugo"
    intro r3 H3 hr3 m3 p3
    have hr3 : r3 < 10 := by omega
    walk_at "ugo"
    refine ix_sg (by walk_at "usd") (at_figs hr3) ?_
    obtain ⟨hf, hll, hv⟩ := rest r r3 (by omega) hr3
    have hz : ((nm n).take ((1 : Int) + (r : Int)).toNat).length + ([48 + r3] : List Nat).length ≤ sizeLine := by rw [List.length_append] at hll; rw [z24]; omega
    walk_at "ugo"
    refine int_t hf (by simp) (by omega) ?_
    walk_at "ugo"
    exact fin _ H3 hv mu_pl p3
theorem c_law_near_copy (T : Txt K mg w base) : C8.Cal P w K mg base 2 "_law_near_copy" sp_law_near_copy [] := by
  obtain ⟨fd, F, ok⟩ := ok_law_near_copy (P := P) (w := w) (base := base) T
  exact cal_n F T.g_law_near_copy (F.bindsN fun _ _ _ _ _ _ us hl => match us, hl with | [_, _], _ => rfl) ok
instance {H : Hp} {Q : VK} {E : XK} {p : Addr} {y : Option Nat} [pl : PL H p] : Go (sp_law_near_copy [oV y, .ref p] H Q E) (Sd (∀ n, y = some n → n < 10 ^ 30) (∀ (z : Option Nat) H', (∀ n, z = some n → 2 ≤ n ∧ n < 10 ^ 30) → Mu H p H' → PL H' p → Q (oV z) H')) := ⟨fun k => ⟨y, p, rfl, pl, k.1, k.2⟩⟩
instance {H : Hp} {Q : VK} {E : XK} {p : Addr} [pl : PL H p] : Go (sp_law_parts [.ref p] H Q E) (∀ q m H', Nw H q → PtN H H' q m → m.Ok → m.Sm → Mu H p H' → PL H' p → Q (.ref q) H') := ⟨fun k => ⟨p, rfl, pl, k⟩⟩
/-! _law_near -/
/-- such a row -/
def Row (H0 H : Hp) (q : Addr) (m : Pt) : Prop := ∃ h, LM H q [tx m.lets, .int (m.num : Int), tx m.pts, .ref h, oV m.age, oV m.twin] ∧ LM H h (m.hands.map tx) ∧ Nw H0 h
theorem row_ne {H : Hp} {p row h' : Addr} {m : Pt} (pl : PL H p) (lr : LM H row [tx m.lets, .int (m.num : Int), tx m.pts, .ref h', oV m.age, oV m.twin]) (lh : LM H h' (m.hands.map tx)) : row ≠ p ∧ h' ≠ p ∧ h' ≠ row := by
  obtain ⟨n1, n2⟩ := ptl_ne pl lr lh
  refine ⟨n1, n2, ne_cont lh lr ?_⟩
  intro e
  generalize m.hands = ns at e
  cases ns with
  | nil => cases e
  | cons a ns =>
    injection e with _ e
    cases ns with
    | nil => cases e
    | cons b ns => injection e with e _; cases e
/-- good parts, not many -/
structure Gd (m : Pt) : Prop where
  l : Name m.lets
  n : 1 ≤ m.num ∧ m.num ≤ 9999
  p : Wd m.pts
  h3 : m.hands.length ≤ 3
  h : ∀ a ∈ m.hands, Mk' a
  y : ∀ n, m.age = some n → 1000 ≤ n ∧ n ≤ 2999
  c : ∀ n, m.twin = some n → 2 ≤ n ∧ n < 10 ^ 30
theorem gd_of {m : Pt} (ok : m.Ok) (sm : m.Sm) : Gd m := ⟨ok.l, ok.n, ⟨ok.p, sm.p⟩, ok.h3, fun a ha => ⟨(ok.h a ha).1, sm.h a ha⟩, ok.y, fun n hn => ⟨(ok.c n hn).1, sm.c n hn⟩⟩
theorem gd_ok {m : Pt} (g : Gd m) : m.Ok := ⟨g.l, g.n, g.p.1, by have := g.p.2; omega, g.h3, fun a ha => ⟨(g.h a ha).1, by have := (g.h a ha).2; omega⟩, g.y, fun n hn => ⟨(g.c n hn).1, by have := (g.c n hn).2; omega⟩⟩
theorem gd_sm {m : Pt} (g : Gd m) : m.Sm := ⟨g.p.2, fun a ha => (g.h a ha).2, fun n hn => (g.c n hn).2⟩
theorem ok_w {m : Pt} (ok : m.Ok) (sm : m.Sm) : m.W := ⟨by have := ok.l.len.2; omega, by have := ok.n.2; omega, by have := sm.p; omega, by have := ok.h3; omega, fun a ha => by have := sm.h a ha; omega, fun n hn => by have := ok.y n hn; omega, fun n hn => by have := sm.c n hn; omega⟩
theorem val_pos {c : Nat} (hc : 48 < c) : ∀ t : List Nat, 1 ≤ NumText.digitsVal (c :: t) := by
  intro t
  induction hn : t.length generalizing t with
  | zero =>
    rw [List.length_eq_zero_iff.mp hn]
    rw [show [c] = [] ++ [c] from rfl, NumText.digitsVal_snoc]
    omega
  | succ n ih =>
    obtain ⟨b, d, rfl⟩ : ∃ b d, t = b ++ [d] := ⟨t.dropLast, t.getLast (by rintro rfl; cases hn), (List.dropLast_concat_getLast _).symm⟩
    rw [List.length_append, List.length_singleton] at hn
    have h1 := ih b (by omega)
    rw [show c :: (b ++ [d]) = (c :: b) ++ [d] from rfl, NumText.digitsVal_snoc]
    omega
theorem nm_first : ∀ n : Nat, 1 ≤ n → ∃ c t, nm n = c :: t ∧ 48 < c := by
  intro n
  induction n using Nat.strongRecOn with
  | ind n ih =>
    intro h
    by_cases h9 : n < 10
    · exact ⟨48 + n, [], TL.numL_lt h9, by omega⟩
    · obtain ⟨c, t, e, hc⟩ := ih (n / 10) (by omega) (by omega)
      exact ⟨c, t ++ [48 + n % 10], by
        show TL.numL n = _
        rw [TL.numL_step (by omega), show TL.numL (n / 10) = _ from e]
        rfl, hc⟩
def sp_law_near : Sp := fun vs H Q _ => ∃ (q p : Addr) (at_ : Nat) (m : Pt), vs = [.ref q, .int (at_ : Int), .ref p] ∧ PtL H q m ∧ m.Ok ∧ m.Sm ∧ PL H p ∧ at_ < 6 ∧ ∀ r m' H', Nw H r → PtN H H' r m' → m'.Ok → m'.Sm → Mu H p H' → PL H' p → Q (.ref r) H'
theorem ok_law_near (T : Txt K mg w base) : ∃ fd, FunD K d_law_near.name d_law_near.qual d_law_near.params d_law_near.body d_law_near.scope (d_law_near.dvs K) (d_law_near.kws K) (He.fAd K d_law_near.at_) fd ∧ FnOk P w K mg base C8.CX0 5 (He.fAd K d_law_near.at_) fd ["parts", "at", "pool"] sp_law_near := by
  obtain ⟨fd, F⟩ := T.f_law_near
  refine ⟨fd, F, ?_⟩
  have sc := (show FnScope ["parts", "at", "pool", "tail", "row"] ["parts", "at", "pool"] (defScope s_law_near) from ⟨rfl, rfl, rfl, by decide +kernel, rfl, by decide +kernel, by decide +kernel⟩)
  refine F.ok sc (fun vs H Q E h => ?_) (fun cdv A outer s H vs Q E hr h => ?_)
  · obtain ⟨q, p, at_, m, rfl, pt, ok, sm, pl, hat, k⟩ := h; rfl
  obtain ⟨q, p, at_, m, rfl, pt, ok, sm, pl, hat, k⟩ := h
  have hu := hr.units
  refine ⟨_, PSs.nox (pss_cons (ps_set (i := 3) sc.nd rfl (by first | exact Or.inl rfl | exact Or.inr rfl) (C8.pe_c (c_law_take T) hr (by decide) rfl (pa_cons (pv 2) (pa_cons pe_int pa_nil))))
  (pss_cons (ps_set (i := 4) sc.nd rfl (by first | exact Or.inl rfl | exact Or.inr rfl) (pe_lst (pa_cons (pe_ix (U.xu (K := K)) (pv 0) pe_int (fun _ _ => rfl)) (pa_cons (pe_ix (U.xu (K := K)) (pv 0) pe_int (fun _ _ => rfl)) (pa_cons (pe_ix (U.xu (K := K)) (pv 0) pe_int (fun _ _ => rfl)) (pa_cons (pe_callTy (U.cu_lst (K := K)) (by rfl) T.b_list (by decide +kernel) (pa_cons (pe_ix (U.xu (K := K)) (pv 0) pe_int (fun _ _ => rfl)) pa_nil)) (pa_cons (pe_ix (U.xu (K := K)) (pv 0) pe_int (fun _ _ => rfl)) (pa_cons (pe_ix (U.xu (K := K)) (pv 0) pe_int (fun _ _ => rfl)) pa_nil))))))))
  (C8.pss_cut (ps_if (pt_cmpR (U.ou_eq (K := K) hu) (pv 1) pe_int (nomark _)) (pss_one (ps_asg (pe_op (U.ou_add (K := K)) (pe_slice (U.su (K := K)) (pe_ix (U.xu (K := K)) (pv 0) pe_int (fun _ _ => rfl)) po_none (po_some (C8.pe_c (c_law_take T) hr (by decide) rfl (pa_cons (pv 2) (pa_cons pe_int pa_nil))))) (pe_ix (U.xu (K := K)) (U.pe_s (l := [97, 98, 99, 100, 101, 102, 103, 104, 105, 106, 107, 108, 109, 110, 111, 112, 113, 114, 115, 116, 117, 118, 119, 120, 121, 122]) (by decide +kernel)) (C8.pe_c (c_law_take T) hr (by decide) rfl (pa_cons (pv 2) (pa_cons pe_int pa_nil))) (fun _ _ => rfl))) (pg_sub (pv 4) pe_int set_list))) pss_nil)
  (C8.pss_cut (ps_if (pt_cmpR (U.ou_eq (K := K) hu) (pv 1) pe_int (nomark _)) (pss_one (ps_asg (pe_callTy U.cu_int (by rfl) T.b_int (by decide +kernel) (pa_cons (pe_slice (U.su (K := K)) (pe_op (U.ou_add (K := K)) (pe_slice (U.su (K := K)) (pe_callTy U.cu_str (by rfl) T.b_str (by decide +kernel) (pa_cons (pe_ix (U.xu (K := K)) (pv 0) pe_int (fun _ _ => rfl)) pa_nil)) po_none (po_some (pe_op (U.ou_add (K := K)) pe_int (C8.pe_c (c_law_take T) hr (by decide) rfl (pa_cons (pv 2) (pa_cons pe_int pa_nil)))))) (pe_ix (U.xu (K := K)) (U.pe_s (l := [48, 49, 50, 51, 52, 53, 54, 55, 56, 57]) (by decide +kernel)) (C8.pe_c (c_law_take T) hr (by decide) rfl (pa_cons (pv 2) (pa_cons pe_int pa_nil))) (fun _ _ => rfl))) po_none (po_some pe_int)) pa_nil)) (pg_sub (pv 4) pe_int set_list))) pss_nil)
  (C8.pss_cut (ps_if (pt_cmpR (U.ou_eq (K := K) hu) (pv 1) pe_int (nomark _)) (pss_one (ps_asg (C8.pe_c (c_law_near_word T) hr (by decide) rfl (pa_cons (pe_ix (U.xu (K := K)) (pv 0) pe_int (fun _ _ => rfl)) (pa_cons (pv 2) pa_nil))) (pg_sub (pv 4) pe_int set_list))) pss_nil)
  (C8.pss_cut (ps_if (pt_cmpR (U.ou_eq (K := K) hu) (pv 1) pe_int (nomark _)) (pss_one (ps_asg (C8.pe_c (c_law_near_makers T) hr (by decide) rfl (pa_cons (pe_ix (U.xu (K := K)) (pv 0) pe_int (fun _ _ => rfl)) (pa_cons (pv 2) pa_nil))) (pg_sub (pv 4) pe_int set_list))) pss_nil)
  (C8.pss_cut (ps_if (pt_cmpR (U.ou_eq (K := K) hu) (pv 1) pe_int (nomark _)) (pss_one (ps_asg (C8.pe_c (c_law_near_year T) hr (by decide) rfl (pa_cons (pe_ix (U.xu (K := K)) (pv 0) pe_int (fun _ _ => rfl)) (pa_cons (pv 2) pa_nil))) (pg_sub (pv 4) pe_int set_list))) pss_nil)
  (C8.pss_cut (ps_if (pt_cmpR (U.ou_eq (K := K) hu) (pv 1) pe_int (nomark _)) (pss_one (ps_asg (C8.pe_c (c_law_near_copy T) hr (by decide) rfl (pa_cons (pe_ix (U.xu (K := K)) (pv 0) pe_int (fun _ _ => rfl)) (pa_cons (pv 2) pa_nil))) (pg_sub (pv 4) pe_int set_list))) pss_nil)
  (pss_cons (ps_if (pt_cmpR (U.ou_eq (K := K) hu) (pv 3) pe_int (nomark _)) (pss_one (ps_ret (pe_op (U.ou_add (K := K)) (pe_slice (U.su (K := K)) (pv 4) po_none (po_some (pe_op (U.ou_add (K := K)) (pv 1) pe_int))) (pe_slice (U.su (K := K)) (C8.pe_c (c_law_parts T) hr (by decide) rfl (pa_cons (pv 2) pa_nil)) (po_some (pe_op (U.ou_add (K := K)) (pv 1) pe_int)) po_none)))) pss_nil)
  (pss_one (ps_ret (pv 4)))))))))))), ?_⟩
  walk_at "ust0"
  obtain ⟨h, lm, lh, ne⟩ := pt.ex
  obtain ⟨nq, nh⟩ := ptl_ne pl lm lh
  haveI : Ne' q p := ⟨nq⟩
  haveI : Ne' h p := ⟨nh⟩
  have w0 := gd_of ok sm
  walk_at "ugo"
  intro tail H1 htail m1 p1
  walk_at "ugo"
  refine ix_is (v := tx m.lets) (atI_nat (j := 0) rfl) ?_
  walk_at "ugo"
  refine ix_is (v := .int (m.num : Int)) (atI_nat (j := 1) rfl) ?_
  walk_at "ugo"
  refine ix_is (v := tx m.pts) (atI_nat (j := 2) rfl) ?_
  walk_at "ugo"
  refine ix_is (v := .ref h) (atI_nat (j := 3) rfl) ?_
  walk_at "ugo"
  refine al_l fun h2 H2 nw2 ex2 lm2 => ?_
  walk_at "ugo"
  refine ix_is (v := oV m.age) (atI_nat (j := 4) rfl) ?_
  walk_at "ugo"
  refine ix_is (v := oV m.twin) (atI_nat (j := 5) rfl) ?_
  walk_at "ugo"
  refine al_l fun row H3 nw3 ex3 lm3 => ?_
  have mx2 : Mx H p H2 := inferInstance
  have pl2 : PL H2 p := inferInstance
  have nwr : Nw H row := nw_back nw3 mx2 pl2
  have nwh2 : Nw H h2 := nw_back nw2 (inferInstance : Mx H p H1) p1
  have lq2 : LM H2 q _ := inferInstance
  have lh2 : LM H2 h _ := inferInstance
  -- what holds at each cut
  let Mid : L2.St → Hp → Prop := fun σ H' => σ = [some (.ref q), some (.int (at_ : Int)), some (.ref p), some (.int (tail : Int)), some (.ref row)] ∧ ∃ m', Row H H' row m' ∧ Gd m' ∧ LM H' q [tx m.lets, .int (m.num : Int), tx m.pts, .ref h, oV m.age, oV m.twin] ∧ LM H' h (m.hands.map tx) ∧ Mx H p H' ∧ PL H' p
  walk_at "ugo"
  refine cut_ Mid ?_ (fun σ H' e => ?_)
  · walk_at "ugo"
    refine br2 (fun e => ?_) (fun e => ?_)
    · walk_at "ugo"
      refine ix_is (v := tx m.lets) (atI_nat (j := 0) rfl) ?_
      walk_at "ugo"
      intro r H4 hr4 m4 p4
      walk_at "ugo"
      refine sl_to (by have := w0.l.len; walk_at "usd") (by omega) ?_
      walk_at "ugo"
      intro r5 H5 hr5 m5 p5
      have hr5 : r5 < 26 := by omega
      walk_at "ugo"
      refine ix_sg (by walk_at "usd") (at_lets hr5) ?_
      have hl := w0.l.len
      have hl2 : (m.lets.take (r : Int).toNat).length ≤ 2 := by rw [List.length_take]; omega
      have hnm : Name (m.lets.take (r : Int).toNat ++ [97 + r5]) := ⟨by rw [List.length_append, List.length_singleton]; omega, fun c hc => by
        rcases List.mem_append.mp hc with hc | hc
        · exact w0.l.all c (List.mem_of_mem_take hc)
        · rw [List.mem_singleton.mp hc]; exact ⟨by omega, by omega⟩⟩
      walk_at "ugo"
      refine sl_of (j := 0) (zs := [_, _, _, _, _, _]) (by simp [ixN]) rfl ?_
      refine mu_l' fun H6 m6 l6 => ?_
      walk_at "ugo"
      exact ⟨rfl, { m with lets := m.lets.take (r : Int).toNat ++ [97 + r5] }, ⟨h2, l6, inferInstance, nwh2⟩, ⟨hnm, w0.n, w0.p, w0.h3, w0.h, w0.y, w0.c⟩, inferInstance, inferInstance, inferInstance, inferInstance⟩
    · walk_at "ugo"
      exact ⟨rfl, m, ⟨h2, lm3, inferInstance, nwh2⟩, w0, inferInstance, inferInstance, inferInstance, inferInstance⟩
  obtain ⟨rfl, m1, ⟨h', lr, lh', nh'⟩, w', lq, lhh, mx, pl'⟩ := e
  obtain ⟨n1, n2, n3⟩ := row_ne pl' lr lh'
  haveI : Ne' row p := ⟨n1⟩
  haveI : Ne' p row := ⟨n1.symm⟩
  haveI : Ne' h' p := ⟨n2⟩
  haveI : Ne' h' row := ⟨n3⟩
  walk_at "ugo"
  refine cut_ Mid ?_ (fun σ H' e => ?_)
  · walk_at "ugo"
    refine br2 (fun e => ?_) (fun e => ?_)
    · walk_at "ugo"
      refine ix_is (v := .int (m.num : Int)) (atI_nat (j := 1) rfl) ?_
      have hn60 : m.num < 10 ^ 60 := by have := w0.n.2; omega
      have hl := nm_len hn60
      have hne : nm m.num ≠ [] := TL.numL_ne m.num
      walk_at "ugo"
      intro r H5 hr5 m5' p5
      walk_at "ugo"
      refine sl_to (by walk_at "usd") (by omega) ?_
      walk_at "ugo"
      intro r6 H6 hr6 m6 p6
      have hr6 : r6 < 10 := by omega
      walk_at "ugo"
      refine ix_sg (by walk_at "usd") (at_figs hr6) ?_
      have hl2 : ((nm m.num).take ((1 : Int) + (r : Int)).toNat).length ≤ 60 := by rw [List.length_take]; omega
      walk_at "ugo"
      refine sl_to (by rw [z24, List.length_append, List.length_singleton]; omega) (by omega) ?_
      walk_at "ugo"
      have hf : ∀ c ∈ ((nm m.num).take ((1 : Int) + (r : Int)).toNat ++ [48 + r6]).take (4 : Int).toNat, Fg c := fun c hc => by
        rcases List.mem_append.mp (List.mem_of_mem_take hc) with hc | hc
        · exact nm_fig _ c (List.mem_of_mem_take hc)
        · rw [List.mem_singleton.mp hc]; exact ⟨by omega, by omega⟩
      have hll : (((nm m.num).take ((1 : Int) + (r : Int)).toNat ++ [48 + r6]).take (4 : Int).toNat).length ≤ 4 := by rw [List.length_take]; omega
      have hnn : ((nm m.num).take ((1 : Int) + (r : Int)).toNat ++ [48 + r6]).take (4 : Int).toNat ≠ [] := by
        intro e
        have := congrArg List.length e
        rw [List.length_take, List.length_append, List.length_singleton, List.length_nil] at this
        omega
      have hv := val_lt _ hf
      have hv2 : 10 ^ (((nm m.num).take ((1 : Int) + (r : Int)).toNat ++ [48 + r6]).take (4 : Int).toNat).length ≤ 10 ^ 4 := Nat.pow_le_pow_right (by decide) hll
      have hv1 : 1 ≤ NumText.digitsVal (((nm m.num).take ((1 : Int) + (r : Int)).toNat ++ [48 + r6]).take (4 : Int).toNat) := by
        obtain ⟨c, t, e, hc⟩ := nm_first m.num w0.n.1
        rw [e, show ((1 : Int) + (r : Int)).toNat = r + 1 by omega, show (4 : Int).toNat = 4 from rfl]
        exact val_pos hc _
      refine int_t hf hnn (by omega) ?_
      walk_at "ugo"
      refine sl_of (j := 1) (zs := [_, _, _, _, _, _]) (by simp [ixN]) rfl ?_
      refine mu_l' fun H7 m7 l7 => ?_
      walk_at "ugo"
      exact ⟨rfl, { m1 with num := NumText.digitsVal (((nm m.num).take ((1 : Int) + (r : Int)).toNat ++ [48 + r6]).take (4 : Int).toNat) }, ⟨h', l7, inferInstance, nh'⟩, ⟨w'.l, ⟨hv1, by dsimp only; omega⟩, w'.p, w'.h3, w'.h, w'.y, w'.c⟩, inferInstance, inferInstance, inferInstance, inferInstance⟩
    · walk_at "ugo"
      exact ⟨rfl, m1, ⟨h', lr, lh', nh'⟩, w', lq, lhh, mx, pl'⟩
  obtain ⟨rfl, m2, ⟨h', lr, lh', nh'⟩, w', lq, lhh, mx, pl'⟩ := e
  obtain ⟨n1, n2, n3⟩ := row_ne pl' lr lh'
  haveI : Ne' row p := ⟨n1⟩
  haveI : Ne' p row := ⟨n1.symm⟩
  haveI : Ne' h' p := ⟨n2⟩
  haveI : Ne' h' row := ⟨n3⟩
  walk_at "ugo"
  refine cut_ Mid ?_ (fun σ H' e => ?_)
  · walk_at "ugo"
    refine br2 (fun e => ?_) (fun e => ?_)
    · walk_at "ugo"
      refine ix_is (v := tx m.pts) (atI_nat (j := 2) rfl) ?_
      have hp : Wd m.pts := ⟨ok.p, sm.p⟩
      walk_at "ugo"
      intro b H5 hb m5' p5
      walk_at "ugo"
      refine sl_of (j := 2) (zs := [_, _, _, _, _, _]) (by simp [ixN]) rfl ?_
      refine mu_l' fun H7 m7 l7 => ?_
      walk_at "ugo"
      exact ⟨rfl, { m2 with pts := b }, ⟨h', l7, inferInstance, nh'⟩, ⟨w'.l, w'.n, hb, w'.h3, w'.h, w'.y, w'.c⟩, inferInstance, inferInstance, inferInstance, inferInstance⟩
    · walk_at "ugo"
      exact ⟨rfl, m2, ⟨h', lr, lh', nh'⟩, w', lq, lhh, mx, pl'⟩
  obtain ⟨rfl, m3, ⟨h', lr, lh', nh'⟩, w', lq, lhh, mx, pl'⟩ := e
  obtain ⟨n1, n2, n3⟩ := row_ne pl' lr lh'
  haveI : Ne' row p := ⟨n1⟩
  haveI : Ne' p row := ⟨n1.symm⟩
  haveI : Ne' h' p := ⟨n2⟩
  haveI : Ne' h' row := ⟨n3⟩
  walk_at "ugo"
  refine cut_ Mid ?_ (fun σ H' e => ?_)
  · walk_at "ugo"
    refine br2 (fun e => ?_) (fun e => ?_)
    · walk_at "ugo"
      refine ix_is (v := .ref h) (atI_nat (j := 3) rfl) ?_
      have hh3 := ok.h3
      have hhm : ∀ a ∈ m.hands, Mk' a := fun a ha => ⟨(ok.h a ha).1, sm.h a ha⟩
      walk_at "ugo"
      intro g ns H5 nw5 l5 hn hns m5' p5
      have nwg : Nw H g := nw_back nw5 mx pl'
      walk_at "ugo"
      refine sl_of (j := 3) (zs := [_, _, _, _, _, _]) (by simp [ixN]) rfl ?_
      have n5 : Ne' g row := ⟨ne_cont (b := row) l5 (inferInstance : LM H5 row _) (by
        intro e
        cases ns with
        | nil => cases e
        | cons a ns =>
          injection e with _ e
          cases ns with
          | nil => cases e
          | cons b ns => injection e with e _; cases e)⟩
      refine mu_l' fun H7 m7 l7 => ?_
      walk_at "ugo"
      exact ⟨rfl, { m3 with hands := ns }, ⟨g, l7, inferInstance, nwg⟩, ⟨w'.l, w'.n, w'.p, hn, hns, w'.y, w'.c⟩, inferInstance, inferInstance, inferInstance, inferInstance⟩
    · walk_at "ugo"
      exact ⟨rfl, m3, ⟨h', lr, lh', nh'⟩, w', lq, lhh, mx, pl'⟩
  obtain ⟨rfl, m4, ⟨h', lr, lh', nh'⟩, w', lq, lhh, mx, pl'⟩ := e
  obtain ⟨n1, n2, n3⟩ := row_ne pl' lr lh'
  haveI : Ne' row p := ⟨n1⟩
  haveI : Ne' p row := ⟨n1.symm⟩
  haveI : Ne' h' p := ⟨n2⟩
  haveI : Ne' h' row := ⟨n3⟩
  walk_at "ugo"
  refine cut_ Mid ?_ (fun σ H' e => ?_)
  · walk_at "ugo"
    refine br2 (fun e => ?_) (fun e => ?_)
    · walk_at "ugo"
      refine ix_is (v := oV m.age) (atI_nat (j := 4) rfl) ?_
      have hy := ok.y
      walk_at "ugo"
      intro b H5 hb m5' p5
      walk_at "ugo"
      refine sl_of (j := 4) (zs := [_, _, _, _, _, _]) (by simp [ixN]) rfl ?_
      refine mu_l' fun H7 m7 l7 => ?_
      walk_at "ugo"
      exact ⟨rfl, { m4 with age := b }, ⟨h', l7, inferInstance, nh'⟩, ⟨w'.l, w'.n, w'.p, w'.h3, w'.h, hb, w'.c⟩, inferInstance, inferInstance, inferInstance, inferInstance⟩
    · walk_at "ugo"
      exact ⟨rfl, m4, ⟨h', lr, lh', nh'⟩, w', lq, lhh, mx, pl'⟩
  obtain ⟨rfl, m5, ⟨h', lr, lh', nh'⟩, w', lq, lhh, mx, pl'⟩ := e
  obtain ⟨n1, n2, n3⟩ := row_ne pl' lr lh'
  haveI : Ne' row p := ⟨n1⟩
  haveI : Ne' p row := ⟨n1.symm⟩
  haveI : Ne' h' p := ⟨n2⟩
  haveI : Ne' h' row := ⟨n3⟩
  walk_at "ugo"
  refine cut_ Mid ?_ (fun σ H' e => ?_)
  · walk_at "ugo"
    refine br2 (fun e => ?_) (fun e => ?_)
    · walk_at "ugo"
      refine ix_is (v := oV m.twin) (atI_nat (j := 5) rfl) ?_
      have hy := sm.c
      walk_at "ugo"
      intro b H5 hb m5' p5
      walk_at "ugo"
      refine sl_of (j := 5) (zs := [_, _, _, _, _, _]) (by simp [ixN]) rfl ?_
      refine mu_l' fun H7 m7 l7 => ?_
      walk_at "ugo"
      exact ⟨rfl, { m5 with twin := b }, ⟨h', l7, inferInstance, nh'⟩, ⟨w'.l, w'.n, w'.p, w'.h3, w'.h, w'.y, hb⟩, inferInstance, inferInstance, inferInstance, inferInstance⟩
    · walk_at "ugo"
      exact ⟨rfl, m5, ⟨h', lr, lh', nh'⟩, w', lq, lhh, mx, pl'⟩
  obtain ⟨rfl, m6, ⟨h', lr, lh', nh'⟩, w', lq, lhh, mx, pl'⟩ := e
  obtain ⟨n1, n2, n3⟩ := row_ne pl' lr lh'
  haveI : Ne' row p := ⟨n1⟩
  haveI : Ne' p row := ⟨n1.symm⟩
  haveI : Ne' h' p := ⟨n2⟩
  haveI : Ne' h' row := ⟨n3⟩
  walk_at "ugo"
  refine br2 (fun e => ?_) (fun e => ?_)
  · walk_at "ugo"
    rw [show (at_ : Int) + 1 = ((at_ + 1 : Nat) : Int) by omega, cut_to]
    refine al_l fun c1 H8 nw8 ex8 lm8 => ?_
    walk_at "ugo"
    intro q2 mm H9 nw9 pt9 ok9 sm9 m9 p9
    obtain ⟨g, lg, lgh, nge, nwg0⟩ := pt9.ex
    have nwg : Nw H g := nw_back nwg0 (inferInstance : Mx H p H8) inferInstance
    have w9 := gd_of ok9 sm9
    walk_at "ugo"
    rw [show (at_ : Int) + 1 = ((at_ + 1 : Nat) : Int) by omega, cut_fr]
    refine al_l fun c2 H10 nw10 ex10 lm10 => ?_
    walk_at "ugo"
    refine Sd.k (by rw [z24, List.length_take, List.length_drop]; simp; omega) ?_
    refine al_l fun c3 H11 nw11 ex11 lm11 => ?_
    walk_at "ugo"
    have mx10 : Mx H p H10 := inferInstance
    have pl10 : PL H10 p := inferInstance
    have nwc : Nw H c3 := nw_back nw11 mx10 pl10
    have fin : ∀ (m'' : Pt) (z : Addr), [tx m6.lets, V.int (m6.num : Int), tx m6.pts, .ref h', oV m6.age, oV m6.twin].take (at_ + 1) ++ [tx mm.lets, V.int (mm.num : Int), tx mm.pts, .ref g, oV mm.age, oV mm.twin].drop (at_ + 1) = [tx m''.lets, .int (m''.num : Int), tx m''.pts, .ref z, oV m''.age, oV m''.twin] → LM H10 z (m''.hands.map tx) → Nw H z → Gd m'' → Q (.ref c3) H11 := fun m'' z e lz nz w'' => by
      rw [e] at lm11
      exact k c3 m'' H11 nwc ⟨z, lm11, inferInstance, (nw11.ne lz.lm nt_l).symm, nz⟩ (gd_ok w'') (gd_sm w'') mu_pl inferInstance
    have l1 : LM H10 h' (m6.hands.map tx) := inferInstance
    have l2 : LM H10 g (mm.hands.map tx) := inferInstance
    match at_, hat, fin with
    | 0, _, fin => exact fin ⟨m6.lets, mm.num, mm.pts, mm.hands, mm.age, mm.twin⟩ g rfl l2 nwg ⟨w'.l, w9.n, w9.p, w9.h3, w9.h, w9.y, w9.c⟩
    | 1, _, fin => exact fin ⟨m6.lets, m6.num, mm.pts, mm.hands, mm.age, mm.twin⟩ g rfl l2 nwg ⟨w'.l, w'.n, w9.p, w9.h3, w9.h, w9.y, w9.c⟩
    | 2, _, fin => exact fin ⟨m6.lets, m6.num, m6.pts, mm.hands, mm.age, mm.twin⟩ g rfl l2 nwg ⟨w'.l, w'.n, w'.p, w9.h3, w9.h, w9.y, w9.c⟩
    | 3, _, fin => exact fin ⟨m6.lets, m6.num, m6.pts, m6.hands, mm.age, mm.twin⟩ h' rfl l1 nh' ⟨w'.l, w'.n, w'.p, w'.h3, w'.h, w9.y, w9.c⟩
    | 4, _, fin => exact fin ⟨m6.lets, m6.num, m6.pts, m6.hands, m6.age, mm.twin⟩ h' rfl l1 nh' ⟨w'.l, w'.n, w'.p, w'.h3, w'.h, w'.y, w9.c⟩
    | 5, _, fin => exact fin ⟨m6.lets, m6.num, m6.pts, m6.hands, m6.age, m6.twin⟩ h' rfl l1 nh' w'
  · walk_at "ugo"
    exact k row m6 H' nwr ⟨h', lr, lh', n3.symm, nh'⟩ (gd_ok w') (gd_sm w') mu_pl pl'
theorem c_law_near (T : Txt K mg w base) : C8.Cal P w K mg base 5 "_law_near" sp_law_near [] := by
  obtain ⟨fd, F, ok⟩ := ok_law_near (P := P) (w := w) (base := base) T
  exact cal_n F T.g_law_near (F.bindsN fun _ _ _ _ _ _ us hl => match us, hl with | [_, _, _], _ => rfl) ok
end
end T

namespace T
open PySem PySem.Spec PyProof.Rows L2 U
open SX (S)
variable [QN]
section
variable {P : Program} {w : World} {K : PySem.W.Frag} {mg : PySem.Str → Option Value} {base : Heap}
/-! ### lists of marks -/
class MkL (K : PySem.W.Frag) (H : Hp) (xs : List V) (ms : outParam (List Pt)) : Prop where
  len : xs.length = ms.length
  all : ∀ z ∈ xs.zip ms, ∃ x, z.1 = .ref x ∧ MkO K H x z.2
instance {H H' : Hp} {xs : List V} {ms : List Pt} [e : Ex H H'] [h : MkL K H xs ms] : MkL K H' xs ms := ⟨h.len, fun z hz => by
  obtain ⟨x, e1, e2⟩ := h.all z hz
  exact ⟨x, e1, inferInstance⟩⟩
instance {H H' : Hp} {p : Addr} {xs : List V} {ms : List Pt} [e : Mu H p H'] [h : MkL K H xs ms] : MkL K H' xs ms := ⟨h.len, fun z hz => by
  obtain ⟨x, e1, e2⟩ := h.all z hz
  exact ⟨x, e1, inferInstance⟩⟩
theorem mkl_et {H H' : Hp} {xs : List V} {ms : List Pt} (e : Kp H H') (h : MkL K H xs ms) : MkL K H' xs ms := by
  haveI : Ex H H' := ⟨e⟩
  exact inferInstance
theorem mkl_nil {H : Hp} : MkL K H [] [] := ⟨rfl, fun z hz => by cases hz⟩
theorem mkl_cons {H : Hp} {x : Addr} {m : Pt} {xs : List V} {ms : List Pt} (h : MkO K H x m) (g : MkL K H xs ms) : MkL K H (.ref x :: xs) (m :: ms) := ⟨by rw [List.length_cons, List.length_cons, g.len], fun z hz => by
  rcases List.mem_cons.mp hz with e | hz
  · rw [e]; exact ⟨x, rfl, h⟩
  · exact g.all z hz⟩
theorem mkl_app {H : Hp} {xs ys : List V} {ms ns : List Pt} (h : MkL K H xs ms) (g : MkL K H ys ns) : MkL K H (xs ++ ys) (ms ++ ns) := ⟨by rw [List.length_append, List.length_append, h.len, g.len], fun z hz => by
  rw [List.zip_append h.len] at hz
  rcases List.mem_append.mp hz with hz | hz
  · exact h.all z hz
  · exact g.all z hz⟩
theorem mkl_snoc {H : Hp} {x : Addr} {m : Pt} {xs : List V} {ms : List Pt} (g : MkL K H xs ms) (h : MkO K H x m) : MkL K H (xs ++ [.ref x]) (ms ++ [m]) := mkl_app g (mkl_cons h mkl_nil)
theorem mkl_at {H : Hp} {xs : List V} {ms : List Pt} (h : MkL K H xs ms) {k : Nat} {m : Pt} (e : ms[k]? = some m) : ∃ x, xs[k]? = some (.ref x) ∧ MkO K H x m := by
  have hk0 := (List.getElem?_eq_some_iff.mp e).1
  have hk : k < xs.length := by have := h.len; omega
  have e1 : xs[k]? = some xs[k] := List.getElem?_eq_getElem hk
  obtain ⟨x, e2, e3⟩ := h.all (xs[k], m) (List.mem_of_getElem? (i := k) (by rw [List.getElem?_zip_eq_some]; exact ⟨e1, e⟩))
  exact ⟨x, by rw [e1]; exact congrArg some e2, e3⟩
theorem zip_fst_snd {α β : Type} : ∀ zs : List (α × β), (zs.map (·.1)).zip (zs.map (·.2)) = zs
  | [] => rfl
  | z :: zs => by
    show (z.1, z.2) :: (zs.map (·.1)).zip (zs.map (·.2)) = z :: zs
    rw [zip_fst_snd zs]
theorem mkl_perm {H : Hp} {xs : List V} {ms : List Pt} {zs : List (V × Pt)} (h : MkL K H xs ms) (p : zs.Perm (xs.zip ms)) : MkL K H (zs.map (·.1)) (zs.map (·.2)) := ⟨by rw [List.length_map, List.length_map], fun z hz => by
  rw [zip_fst_snd] at hz
  exact h.all z (p.mem_iff.mp hz)⟩
/-- the marks in order -/
noncomputable def srt (b : Bool) (ms : List Pt) : List Pt := ms.mergeSort (PySem.W.dataLe b Pt.key)
theorem srt_len (b : Bool) (ms : List Pt) : (srt b ms).length = ms.length := List.length_mergeSort ..
theorem srt_perm (b : Bool) (ms : List Pt) : (srt b ms).Perm ms := List.mergeSort_perm _ _
theorem le_ff (a b : Pt) : PySem.W.dataLe false Pt.key a b = !b.lt a := rfl
theorem le_tt (a b : Pt) : PySem.W.dataLe true Pt.key a b = !a.lt b := rfl
theorem srt_pw (b : Bool) (ms : List Pt) : (srt b ms).Pairwise fun x y => PySem.W.dataLe b Pt.key x y = true := by
  have T := PySem.W.sortLe_total (listOrd itemOrd) b fun m : Pt => PySem.W.keyToks m.key
  exact List.pairwise_mergeSort (fun x y z => T.trans x y z) (fun x y => Bool.or_eq_true_iff.mpr (T.total x y)) ms

end
end T

namespace T
open PySem PySem.Spec PyProof.Rows L2 U
open SX (S)
variable [QN]
section
variable {P : Program} {w : World} {K : PySem.W.Frag} {mg : PySem.Str → Option Value} {base : Heap}
/-- how m comes to m' -/
def ordI (m m' : Pt) : Int := if m = m' then 0 else if m.lt m' = true then -1 else 1
theorem ordI_neg {m m' : Pt} (o : m.Ok) (o' : m'.Ok) : ordI m' m = -ordI m m' := by
  unfold ordI
  by_cases e : m = m'
  · subst e; rw [if_pos rfl]; rfl
  · rw [if_neg e, if_neg (fun h => e h.symm)]
    cases h : m.lt m' with
    | true => rw [lt_asymm h]; rfl
    | false =>
      cases h2 : m'.lt m with
      | true => rfl
      | false => exact absurd (lt_total o o' h h2) e

def sp_order (K : PySem.W.Frag) : Sp := fun vs H Q _ => ∃ (x y : Addr) (m m' : Pt), vs = [.ref x, .ref y] ∧ MkO K H x m ∧ MkO K H y m' ∧ m.Ok ∧ m'.Ok ∧ ∀ H', Ex H H' → Q (.int (ordI m m')) H'
theorem ok_order (T : Txt K mg w base) : ∃ fd, FunD K d_order.name d_order.qual d_order.params d_order.body d_order.scope (d_order.dvs K) (d_order.kws K) (He.fAd K d_order.at_) fd ∧ FnOk P w K mg base C8.CX0 3 (He.fAd K d_order.at_) fd ["one", "other"] (sp_order K) := by
  obtain ⟨fd, F⟩ := T.f_order
  refine ⟨fd, F, ?_⟩
  have sc := (show FnScope ["one", "other"] ["one", "other"] (defScope s_order) from ⟨rfl, rfl, rfl, by decide +kernel, rfl, by decide +kernel, by decide +kernel⟩)
  refine F.ok sc (fun vs H Q E h => ?_) (fun cdv A outer s H vs Q E hr h => ?_)
  · obtain ⟨x, y, m, m', rfl, mk, mk', ok, ok', k⟩ := h; rfl
  obtain ⟨x, y, m, m', rfl, mk, mk', ok, ok', k⟩ := h
  have hu := hr.units
  refine ⟨_, PSs.nox (pss_cons (ps_if (pt_cmpR (U.ou_eqO (K := K) hu (c_m_eq T) hr (by decide)) (pv 0) (pv 1) (nomark _)) (pss_one (ps_ret pe_int)) pss_nil)
  (pss_one (ps_ret (pe_ifExp (pt_val (C8.pe_mt (c_m_ahead T) hr (by decide) (pv 0) (pa_cons (pv 1) pa_nil))) (pe_un un_neg pe_int) pe_int)))), ?_⟩
  walk_at "ust0"
  obtain ⟨dx, t, ir, tr⟩ := mk.ex
  obtain ⟨dy, t', ir', tr'⟩ := mk'.ex
  walk_at "ugo"
  refine br2 (fun h => ?_) (fun h => ?_)
  · walk_at "ugo"
    exact qv (k H ⟨kp_rfl⟩) (by rw [ordI, if_pos h])
  · walk_at "ugo"
    intro H1 e1
    walk_at "ugo"
    refine brb (fun h2 => ?_) (fun h2 => ?_)
    · walk_at "ugo"
      exact qv (k H1 e1) (by rw [ordI, if_neg h, if_pos h2])
    · walk_at "ugo"
      exact qv (k H1 e1) (by rw [ordI, if_neg h, if_neg (by simp [h2])])
theorem c_order (T : Txt K mg w base) : C8.Cal P w K mg base 3 "order" (sp_order K) [] := by
  obtain ⟨fd, F, ok⟩ := ok_order (P := P) (w := w) (base := base) T
  exact cal_n F T.g_order (F.bindsN fun _ _ _ _ _ _ us hl => match us, hl with | [_, _], _ => rfl) ok
instance {H : Hp} {Q : VK} {E : XK} {x y : Addr} {m m' : Pt} [mk : MkO K H x m] [mk' : MkO K H y m'] : Go (sp_order K [.ref x, .ref y] H Q E) (Sd m.Ok (Sd m'.Ok (∀ H', Ex H H' → Q (.int (ordI m m')) H'))) := ⟨fun k => ⟨x, y, m, m', rfl, mk, mk', k.1, k.2.1, k.2.2⟩⟩

/-! the first mark that is not behind the one ahead -/
def Wr (ms : List Pt) (k : Nat) : Prop := ∃ a b, ms[k - 1]? = some a ∧ ms[k]? = some b ∧ a.lt b = false
def FW (ms : List Pt) : Option Nat → Prop
  | none => ∀ k, 1 ≤ k → k < ms.length → ¬ Wr ms k
  | some k => 1 ≤ k ∧ k < ms.length ∧ Wr ms k ∧ ∀ j, 1 ≤ j → j < k → ¬ Wr ms j
theorem fw_eq {ms : List Pt} {o o' : Option Nat} (h : FW ms o) (h' : FW ms o') : o = o' := by
  cases o with
  | none =>
    cases o' with
    | none => rfl
    | some k => obtain ⟨h1, h2, h3, _⟩ := h'; exact absurd h3 (h k h1 h2)
  | some k =>
    obtain ⟨h1, h2, h3, h4⟩ := h
    cases o' with
    | none => exact absurd h3 (h' k h1 h2)
    | some j =>
      obtain ⟨g1, g2, g3, g4⟩ := h'
      rcases Nat.lt_trichotomy k j with e | e | e
      · exact absurd h3 (g4 k h1 e)
      · rw [e]
      · exact absurd g3 (h4 j g1 e)

def sp_first_wrong (K : PySem.W.Frag) : Sp := fun vs H Q _ => ∃ (p : Addr) (xs : List V) (ms : List Pt), vs = [.ref p] ∧ (SqL K H p xs ∨ SqT K H p xs) ∧ MkL K H xs ms ∧ ms.length ≤ 1000 ∧ ∀ o H', FW ms o → Ex H H' → Q (oV o) H'
theorem ok_first_wrong (T : Txt K mg w base) : ∃ fd, FunD K d_first_wrong.name d_first_wrong.qual d_first_wrong.params d_first_wrong.body d_first_wrong.scope (d_first_wrong.dvs K) (d_first_wrong.kws K) (He.fAd K d_first_wrong.at_) fd ∧ FnOk P w K mg base C8.CX0 3 (He.fAd K d_first_wrong.at_) fd ["marks"] (sp_first_wrong K) := by
  obtain ⟨fd, F⟩ := T.f_first_wrong
  refine ⟨fd, F, ?_⟩
  have sc := (show FnScope ["marks", "at"] ["marks"] (defScope s_first_wrong) from ⟨rfl, rfl, rfl, by decide +kernel, rfl, by decide +kernel, by decide +kernel⟩)
  refine F.ok sc (fun vs H Q E h => ?_) (fun cdv A outer s H vs Q E hr h => ?_)
  · obtain ⟨p, xs, ms, rfl, hs, ml, hl, k⟩ := h; rfl
  obtain ⟨p, xs, ms, rfl, hs, ml, hl, k⟩ := h
  have hu := hr.units
  refine ⟨_, PSs.nox (pss_cons (ps_for PassesOwn.never rfl (pi_range2 (by rfl) T.b_range (pa_cons pe_int (pa_cons (pe_callB (U.cu_len (K := K)) (by rfl) T.b_len (by decide +kernel) (pa_cons (pv 0) pa_nil)) pa_nil))) (pg_name (i := 1) sc.nd rfl (by first | exact Or.inl rfl | exact Or.inr rfl)) (pss_one (ps_if (pt_not (pt_val (C8.pe_mt (c_m_ahead T) hr (by decide) (pe_ix (U.xu (K := K)) (pv 0) (pe_op U.ou_sub (pv 1) pe_int) (fun _ _ => rfl)) (pa_cons (pe_ix (U.xu (K := K)) (pv 0) (pv 1) (fun _ _ => rfl)) pa_nil)))) (pss_one (ps_ret (pv 1))) pss_nil)))
  (pss_one (ps_ret pe_non))), ?_⟩
  walk_at "ust0"
  have hxl := ml.len
  have main : ∀ (H' : Hp) (j : Nat), Ex H H' → j + 1 < ms.length → ∃ a b x y, ms[j]? = some a ∧ ms[j + 1]? = some b ∧ atI xs (j : Int) = some (.ref x) ∧ atI xs ((j + 1 : Nat) : Int) = some (.ref y) ∧ MkO K H' x a ∧ MkO K H' y b := fun H' j e hj => by
    have h1 : ms[j]? = some ms[j] := List.getElem?_eq_getElem (by omega)
    have h2 : ms[j + 1]? = some ms[j + 1] := List.getElem?_eq_getElem hj
    obtain ⟨x, e1, m1⟩ := mkl_at ml h1
    obtain ⟨y, e2, m2⟩ := mkl_at ml h2
    exact ⟨_, _, x, y, h1, h2, atI_nat e1, atI_nat e2, inferInstance, inferInstance⟩
  have i1 : ∀ i : Nat, (1 : Int) + (i : Int) - 1 = (i : Int) := fun i => by omega
  have i2 : ∀ i : Nat, (1 : Int) + (i : Int) = ((i + 1 : Nat) : Int) := fun i => by omega
  rcases hs with hs | hs
  · haveI : LR K H p xs := ⟨hs⟩
    walk_at "ugo"
    refine for_r (n := ((xs.length : Int) - 1).toNat) (i := 1) (fun i σ H' => (∃ o, σ = [some (.ref p), o]) ∧ Ex H H' ∧ ∀ j, 1 ≤ j → j < i + 1 → ¬ Wr ms j) ⟨⟨_, rfl⟩, ⟨kp_rfl⟩, fun j h1 h2 => by omega⟩ (fun i σ H' hi h => ?_) (fun σ H' h => ?_)
    · obtain ⟨⟨o, rfl⟩, e, hw⟩ := h
      obtain ⟨a, b, x, y, h1, h2, h3, h4, m1, m2⟩ := main H' i e (by omega)
      obtain ⟨dx, t, ir, tr⟩ := m1.ex
      walk_at "ugo"
      rw [i1]
      refine ix_is h3 ?_
      walk_at "ugo"
      rw [i2]
      refine ix_is h4 ?_
      walk_at "ugo"
      intro H2 e2
      walk_at "ugo"
      refine brb (fun g => ?_) (fun g => ?_)
      · walk_at "ugo"
        refine ⟨⟨_, rfl⟩, ⟨Et.et⟩, fun j j1 j2 => ?_⟩
        by_cases ej : j = i + 1
        · subst ej
          rintro ⟨a', b', g1, g2, g3⟩
          rw [show i + 1 - 1 = i by omega, h1] at g1
          rw [h2] at g2
          cases g1; cases g2
          rw [g] at g3; cases g3
        · exact hw j j1 (by omega)
      · walk_at "ugo"
        exact k (some (i + 1)) H2 ⟨by omega, by omega, ⟨a, b, by rw [show i + 1 - 1 = i by omega]; exact h1, h2, g⟩, fun j j1 j2 => hw j j1 j2⟩ ⟨Et.et⟩
    · obtain ⟨⟨o, rfl⟩, e, hw⟩ := h
      walk_at "ugo"
      exact k none H' (fun j j1 j2 => hw j j1 (by omega)) e
  · haveI : TR K H p xs := ⟨hs⟩
    walk_at "ugo"
    refine for_r (n := ((xs.length : Int) - 1).toNat) (i := 1) (fun i σ H' => (∃ o, σ = [some (.ref p), o]) ∧ Ex H H' ∧ ∀ j, 1 ≤ j → j < i + 1 → ¬ Wr ms j) ⟨⟨_, rfl⟩, ⟨kp_rfl⟩, fun j h1 h2 => by omega⟩ (fun i σ H' hi h => ?_) (fun σ H' h => ?_)
    · obtain ⟨⟨o, rfl⟩, e, hw⟩ := h
      obtain ⟨a, b, x, y, h1, h2, h3, h4, m1, m2⟩ := main H' i e (by omega)
      obtain ⟨dx, t, ir, tr⟩ := m1.ex
      walk_at "ugo"
      rw [i1]
      refine ix_is h3 ?_
      walk_at "ugo"
      rw [i2]
      refine ix_is h4 ?_
      walk_at "ugo"
      intro H2 e2
      walk_at "ugo"
      refine brb (fun g => ?_) (fun g => ?_)
      · walk_at "ugo"
        refine ⟨⟨_, rfl⟩, ⟨Et.et⟩, fun j j1 j2 => ?_⟩
        by_cases ej : j = i + 1
        · subst ej
          rintro ⟨a', b', g1, g2, g3⟩
          rw [show i + 1 - 1 = i by omega, h1] at g1
          rw [h2] at g2
          cases g1; cases g2
          rw [g] at g3; cases g3
        · exact hw j j1 (by omega)
      · walk_at "ugo"
        exact k (some (i + 1)) H2 ⟨by omega, by omega, ⟨a, b, by rw [show i + 1 - 1 = i by omega]; exact h1, h2, g⟩, fun j j1 j2 => hw j j1 j2⟩ ⟨Et.et⟩
    · obtain ⟨⟨o, rfl⟩, e, hw⟩ := h
      walk_at "ugo"
      exact k none H' (fun j j1 j2 => hw j j1 (by omega)) e
theorem c_first_wrong (T : Txt K mg w base) : C8.Cal P w K mg base 3 "first_wrong" (sp_first_wrong K) [] := by
  obtain ⟨fd, F, ok⟩ := ok_first_wrong (P := P) (w := w) (base := base) T
  exact cal_n F T.g_first_wrong (F.bindsN fun _ _ _ _ _ _ us hl => match us, hl with | [_], _ => rfl) ok


/-! the law's keys -/
instance {H : Hp} {Q : VK} {E : XK} {q : Addr} {m : Pt} [pt : PtL H q m] : Go (sp_law_mark K [.ref q] H Q E) (Sd m.Ok (∀ x H', Nw H x → Ex H H' → MkO K H' x m → Q (.ref x) H')) := ⟨fun k => ⟨q, m, rfl, pt, k.1, k.2⟩⟩
def sp_law_key (K : PySem.W.Frag) : Sp := fun vs H Q _ => ∃ (q : Addr) (m : Pt), vs = [.ref q] ∧ PtL H q m ∧ ∀ p H', Ex H H' → KyR K H' p m → Q (.ref p) H'
theorem ok_law_key (T : Txt K mg w base) : ∃ fd, FunD K d_law_key.name d_law_key.qual d_law_key.params d_law_key.body d_law_key.scope (d_law_key.dvs K) (d_law_key.kws K) (He.fAd K d_law_key.at_) fd ∧ FnOk P w K mg base C8.CX0 1 (He.fAd K d_law_key.at_) fd ["parts"] (sp_law_key K) := by
  obtain ⟨fd, F⟩ := T.f_law_key
  refine ⟨fd, F, ?_⟩
  have sc := (show FnScope ["parts", "age", "twin"] ["parts"] (defScope s_law_key) from ⟨rfl, rfl, rfl, by decide +kernel, rfl, by decide +kernel, by decide +kernel⟩)
  refine F.ok sc (fun vs H Q E h => ?_) (fun cdv A outer s H vs Q E hr h => ?_)
  · obtain ⟨q, m, rfl, pt, k⟩ := h; rfl
  obtain ⟨q, m, rfl, pt, k⟩ := h
  have hu := hr.units
  refine ⟨_, PSs.nox (pss_cons (ps_set (i := 1) sc.nd rfl (by first | exact Or.inl rfl | exact Or.inr rfl) (pe_ifExp (pt_cmpR U.ou_is (pe_ix (U.xu (K := K)) (pv 0) pe_int (fun _ _ => rfl)) pe_non (nomark _)) pe_int (pe_ix (U.xu (K := K)) (pv 0) pe_int (fun _ _ => rfl))))
  (pss_cons (ps_set (i := 2) sc.nd rfl (by first | exact Or.inl rfl | exact Or.inr rfl) (pe_ifExp (pt_cmpR U.ou_is (pe_ix (U.xu (K := K)) (pv 0) pe_int (fun _ _ => rfl)) pe_non (nomark _)) pe_int (pe_ix (U.xu (K := K)) (pv 0) pe_int (fun _ _ => rfl))))
  (pss_one (ps_ret (pe_tup (pa_cons (pe_ix (U.xu (K := K)) (pv 0) pe_int (fun _ _ => rfl)) (pa_cons (pe_ix (U.xu (K := K)) (pv 0) pe_int (fun _ _ => rfl)) (pa_cons (pe_ix (U.xu (K := K)) (pv 0) pe_int (fun _ _ => rfl)) (pa_cons (pe_callTy (U.cu_tup (K := K)) (by rfl) T.b_tuple (by decide +kernel) (pa_cons (pe_ix (U.xu (K := K)) (pv 0) pe_int (fun _ _ => rfl)) pa_nil)) (pa_cons (pv 1) (pa_cons (pv 2) pa_nil))))))))))), ?_⟩
  walk_at "ust0"
  obtain ⟨h, lm, lh, ne⟩ := pt.ex
  have fin : ∀ H' p t, Ex H H' → TR K H' t (m.hands.map tx) → TR K H' p [tx m.lets, .int (m.num : Int), tx m.pts, .ref t, .int ((m.age.getD 0 : Nat) : Int), .int ((m.twin.getD 0 : Nat) : Int)] → Q (.ref p) H' := fun H' p t e t1 t2 => k p H' e (ky_of t2 t1)
  cases ha : m.age <;> cases hb : m.twin <;> (rw [ha, hb] at fin; simp only [ha, hb, oV, Option.getD] at lm fin; walk_at "ugo")
  · refine ix_is (v := .non) (atI_nat (j := 4) rfl) ?_
    walk_at "ugo"
    refine ix_is (v := .non) (atI_nat (j := 5) rfl) ?_
    walk_at "ugo"
    refine ix_is (v := tx m.lets) (atI_nat (j := 0) rfl) ?_
    walk_at "ugo"
    refine ix_is (v := .int (m.num : Int)) (atI_nat (j := 1) rfl) ?_
    walk_at "ugo"
    refine ix_is (v := tx m.pts) (atI_nat (j := 2) rfl) ?_
    walk_at "ugo"
    refine ix_is (v := .ref h) (atI_nat (j := 3) rfl) ?_
    walk_at "ugo"
    refine al_t' fun t H1 nw1 ex1 tm1 => ?_
    walk_at "ugo"
    refine al_t' fun p H2 nw2 ex2 tm2 => ?_
    exact fin H2 p t ⟨Et.et⟩ inferInstance inferInstance
  · refine ix_is (v := .non) (atI_nat (j := 4) rfl) ?_
    walk_at "ugo"
    refine ix_is (v := _) (atI_nat (j := 5) rfl) ?_
    walk_at "ugo"
    refine ix_is (v := _) (atI_nat (j := 5) rfl) ?_
    walk_at "ugo"
    refine ix_is (v := tx m.lets) (atI_nat (j := 0) rfl) ?_
    walk_at "ugo"
    refine ix_is (v := .int (m.num : Int)) (atI_nat (j := 1) rfl) ?_
    walk_at "ugo"
    refine ix_is (v := tx m.pts) (atI_nat (j := 2) rfl) ?_
    walk_at "ugo"
    refine ix_is (v := .ref h) (atI_nat (j := 3) rfl) ?_
    walk_at "ugo"
    refine al_t' fun t H1 nw1 ex1 tm1 => ?_
    walk_at "ugo"
    refine al_t' fun p H2 nw2 ex2 tm2 => ?_
    exact fin H2 p t ⟨Et.et⟩ inferInstance inferInstance
  · refine ix_is (v := _) (atI_nat (j := 4) rfl) ?_
    walk_at "ugo"
    refine ix_is (v := _) (atI_nat (j := 4) rfl) ?_
    walk_at "ugo"
    refine ix_is (v := .non) (atI_nat (j := 5) rfl) ?_
    walk_at "ugo"
    refine ix_is (v := tx m.lets) (atI_nat (j := 0) rfl) ?_
    walk_at "ugo"
    refine ix_is (v := .int (m.num : Int)) (atI_nat (j := 1) rfl) ?_
    walk_at "ugo"
    refine ix_is (v := tx m.pts) (atI_nat (j := 2) rfl) ?_
    walk_at "ugo"
    refine ix_is (v := .ref h) (atI_nat (j := 3) rfl) ?_
    walk_at "ugo"
    refine al_t' fun t H1 nw1 ex1 tm1 => ?_
    walk_at "ugo"
    refine al_t' fun p H2 nw2 ex2 tm2 => ?_
    exact fin H2 p t ⟨Et.et⟩ inferInstance inferInstance
  · refine ix_is (v := _) (atI_nat (j := 4) rfl) ?_
    walk_at "ugo"
    refine ix_is (v := _) (atI_nat (j := 4) rfl) ?_
    walk_at "ugo"
    refine ix_is (v := _) (atI_nat (j := 5) rfl) ?_
    walk_at "ugo"
    refine ix_is (v := _) (atI_nat (j := 5) rfl) ?_
    walk_at "ugo"
    refine ix_is (v := tx m.lets) (atI_nat (j := 0) rfl) ?_
    walk_at "ugo"
    refine ix_is (v := .int (m.num : Int)) (atI_nat (j := 1) rfl) ?_
    walk_at "ugo"
    refine ix_is (v := tx m.pts) (atI_nat (j := 2) rfl) ?_
    walk_at "ugo"
    refine ix_is (v := .ref h) (atI_nat (j := 3) rfl) ?_
    walk_at "ugo"
    refine al_t' fun t H1 nw1 ex1 tm1 => ?_
    walk_at "ugo"
    refine al_t' fun p H2 nw2 ex2 tm2 => ?_
    exact fin H2 p t ⟨Et.et⟩ inferInstance inferInstance
theorem c_law_key (T : Txt K mg w base) : C8.Cal P w K mg base 1 "_law_key" (sp_law_key K) [] := by
  obtain ⟨fd, F, ok⟩ := ok_law_key (P := P) (w := w) (base := base) T
  exact cal_n F T.g_law_key (F.bindsN fun _ _ _ _ _ _ us hl => match us, hl with | [_], _ => rfl) ok
instance {H : Hp} {Q : VK} {E : XK} {q : Addr} {m : Pt} [pt : PtL H q m] : Go (sp_law_key K [.ref q] H Q E) (∀ p H', Ex H H' → KyR K H' p m → Q (.ref p) H') := ⟨fun k => ⟨q, m, rfl, pt, k⟩⟩


def sp_law_order (K : PySem.W.Frag) : Sp := fun vs H Q _ => ∃ (p q : Addr) (m m' : Pt), vs = [.ref p, .ref q] ∧ PtL H p m ∧ PtL H q m' ∧ m.Ok ∧ m'.Ok ∧ ∀ H', Ex H H' → Q (.int (ordI m m')) H'
theorem ok_law_order (T : Txt K mg w base) : ∃ fd, FunD K d_law_order.name d_law_order.qual d_law_order.params d_law_order.body d_law_order.scope (d_law_order.dvs K) (d_law_order.kws K) (He.fAd K d_law_order.at_) fd ∧ FnOk P w K mg base C8.CX0 2 (He.fAd K d_law_order.at_) fd ["fore", "mate"] (sp_law_order K) := by
  obtain ⟨fd, F⟩ := T.f_law_order
  refine ⟨fd, F, ?_⟩
  have sc := (show FnScope ["fore", "mate"] ["fore", "mate"] (defScope s_law_order) from ⟨rfl, rfl, rfl, by decide +kernel, rfl, by decide +kernel, by decide +kernel⟩)
  refine F.ok sc (fun vs H Q E h => ?_) (fun cdv A outer s H vs Q E hr h => ?_)
  · obtain ⟨p, q, m, m', rfl, pt, pt', ok, ok', k⟩ := h; rfl
  obtain ⟨p, q, m, m', rfl, pt, pt', ok, ok', k⟩ := h
  have hu := hr.units
  refine ⟨_, PSs.nox (pss_cons (ps_if (pt_cmpR (U.ou_eq (K := K) hu) (C8.pe_c (c_law_key T) hr (by decide) rfl (pa_cons (pv 0) pa_nil)) (C8.pe_c (c_law_key T) hr (by decide) rfl (pa_cons (pv 1) pa_nil)) (nomark _)) (pss_one (ps_ret pe_int)) pss_nil)
  (pss_one (ps_ret (pe_ifExp (pt_cmpR (U.ou_ltD (K := K) hu) (C8.pe_c (c_law_key T) hr (by decide) rfl (pa_cons (pv 0) pa_nil)) (C8.pe_c (c_law_key T) hr (by decide) rfl (pa_cons (pv 1) pa_nil)) (nomark _)) (pe_un un_neg pe_int) pe_int)))), ?_⟩
  walk_at "ust0"
  walk_at "ugo"
  intro p1 H1 e1 k1
  walk_at "ugo"
  intro p2 H2 e2 k2
  walk_at "ugo"
  refine br2 (fun h => ?_) (fun h => ?_)
  · walk_at "ugo"
    exact qv (k H2 ⟨Et.et⟩) (by rw [ordI, if_pos h])
  · walk_at "ugo"
    intro p3 H3 e3 k3
    walk_at "ugo"
    intro p4 H4 e4 k4
    walk_at "ugo"
    refine brb (fun h2 => ?_) (fun h2 => ?_)
    · walk_at "ugo"
      exact qv (k H4 ⟨Et.et⟩) (by rw [ordI, if_neg h, if_pos h2])
    · walk_at "ugo"
      exact qv (k H4 ⟨Et.et⟩) (by rw [ordI, if_neg h, if_neg (by simp [h2])])
theorem c_law_order (T : Txt K mg w base) : C8.Cal P w K mg base 2 "_law_order" (sp_law_order K) [] := by
  obtain ⟨fd, F, ok⟩ := ok_law_order (P := P) (w := w) (base := base) T
  exact cal_n F T.g_law_order (F.bindsN fun _ _ _ _ _ _ us hl => match us, hl with | [_, _], _ => rfl) ok
instance {H : Hp} {Q : VK} {E : XK} {p q : Addr} {m m' : Pt} [pt : PtL H p m] [pt' : PtL H q m'] : Go (sp_law_order K [.ref p, .ref q] H Q E) (Sd m.Ok (Sd m'.Ok (∀ H', Ex H H' → Q (.int (ordI m m')) H'))) := ⟨fun k => ⟨p, q, m, m', rfl, pt, pt', k.1, k.2.1, k.2.2⟩⟩


def sp_law_whole : Sp := fun vs H Q _ => ∃ i : Int, vs = [.int i] ∧ Q (.bl true) H
theorem ok_law_whole (T : Txt K mg w base) : ∃ fd, FunD K d_law_whole.name d_law_whole.qual d_law_whole.params d_law_whole.body d_law_whole.scope (d_law_whole.dvs K) (d_law_whole.kws K) (He.fAd K d_law_whole.at_) fd ∧ FnOk P w K mg base C8.CX0 1 (He.fAd K d_law_whole.at_) fd ["found"] sp_law_whole := by
  obtain ⟨fd, F⟩ := T.f_law_whole
  refine ⟨fd, F, ?_⟩
  have sc := (show FnScope ["found"] ["found"] (defScope s_law_whole) from ⟨rfl, rfl, rfl, by decide +kernel, rfl, by decide +kernel, by decide +kernel⟩)
  refine F.ok sc (fun vs H Q E h => ?_) (fun cdv A outer s H vs Q E hr h => ?_)
  · obtain ⟨i, rfl, k⟩ := h; rfl
  obtain ⟨i, rfl, k⟩ := h
  have hu := hr.units
  refine ⟨_, PSs.nox (pss_one (ps_ret (pe_and (pe_callB (U.cu_isi (K := K)) (by rfl) T.b_isinstance (by decide +kernel) (pa_cons (pv 0) (pa_cons (U.pe_ty (n := "int") rfl T.b_int (by decide +kernel)) pa_nil))) (pe_one (pe_not (pe_callB (U.cu_isi (K := K)) (by rfl) T.b_isinstance (by decide +kernel) (pa_cons (pv 0) (pa_cons (U.pe_ty (n := "bool") rfl T.b_bool (by decide +kernel)) pa_nil)))))))), ?_⟩
  walk_at "ust0"
  walk_at "ugo"
  exact k
theorem c_law_whole (T : Txt K mg w base) : C8.Cal P w K mg base 1 "_law_whole" sp_law_whole [] := by
  obtain ⟨fd, F, ok⟩ := ok_law_whole (P := P) (w := w) (base := base) T
  exact cal_n F T.g_law_whole (F.bindsN fun _ _ _ _ _ _ us hl => match us, hl with | [_], _ => rfl) ok
instance {H : Hp} {Q : VK} {E : XK} {i : Int} : Go (sp_law_whole [.int i] H Q E) (Q (.bl true) H) := ⟨fun k => ⟨i, rfl, k⟩⟩

end
end T

namespace T
open PySem PySem.Spec PyProof.Rows L2 U
open SX (S)
variable [QN]
section
variable {P : Program} {w : World} {K : PySem.W.Frag} {mg : PySem.Str → Option Value} {base : Heap}
/-! ### lists of parts -/
class PtLs (H : Hp) (xs : List V) (ms : outParam (List Pt)) : Prop where
  al : AL (PtL H) xs ms
instance {H H' : Hp} {xs : List V} {ms : List Pt} [e : Ex H H'] [h : PtLs H xs ms] : PtLs H' xs ms := ⟨al_mono h.al fun x m _ g => by
  haveI := g
  exact inferInstance⟩
instance {H H' : Hp} {p : Addr} {xs : List V} {ms : List Pt} [e : Mu H p H'] [pl : PL H p] [h : PtLs H xs ms] : PtLs H' xs ms := ⟨al_mono h.al fun x m _ g => by
  haveI := g
  exact inferInstance⟩
theorem ptls_et {H H' : Hp} {xs : List V} {ms : List Pt} (h : PtLs H xs ms) (e : Kp H H') : PtLs H' xs ms := by
  haveI : Ex H H' := ⟨e⟩
  exact inferInstance
/-- parts that do not reach the list at r -/
def PtR (H : Hp) (r q : Addr) (m : Pt) : Prop := ∃ h, LM H q [tx m.lets, .int (m.num : Int), tx m.pts, .ref h, oV m.age, oV m.twin] ∧ LM H h (m.hands.map tx) ∧ q ≠ h ∧ q ≠ r ∧ h ≠ r
theorem ptr_l {H : Hp} {r q : Addr} {m : Pt} (h : PtR H r q m) : PtL H q m := by
  obtain ⟨b, l1, l2, n, _⟩ := h
  exact ⟨b, l1, l2, n⟩
theorem ptr_n {H0 H : Hp} {r q : Addr} {m : Pt} {xs : List V} (l : LM H0 r xs) (w : Nw H0 q) (h : PtN H0 H q m) : PtR H r q m := by
  obtain ⟨b, l1, l2, n, wb⟩ := h.ex
  exact ⟨b, l1, l2, n, (w.ne l.lm nt_l).symm, (wb.ne l.lm nt_l).symm⟩
class PtRs (H : Hp) (r : outParam Addr) (xs : List V) (ms : outParam (List Pt)) : Prop where
  al : AL (PtR H r) xs ms
instance {H H' : Hp} {r : Addr} {xs : List V} {ms : List Pt} [e : Ex H H'] [h : PtRs H r xs ms] : PtRs H' r xs ms := ⟨al_mono h.al fun x m _ g => by
  obtain ⟨b, l1, l2, n⟩ := g
  exact ⟨b, inferInstance, inferInstance, n⟩⟩
instance {H H' : Hp} {p r : Addr} {xs : List V} {ms : List Pt} [e : Mu H p H'] [pl : PL H p] [h : PtRs H r xs ms] : PtRs H' r xs ms := ⟨al_mono h.al fun x m _ g => by
  obtain ⟨b, l1, l2, n⟩ := g
  obtain ⟨n1, n2⟩ := ptl_ne pl l1 l2
  exact ⟨b, ⟨e.mu.b n1 l1.lm nt_l⟩, ⟨e.mu.b n2 l2.lm nt_l⟩, n⟩⟩
theorem ptrs_mu {H H' : Hp} {r : Addr} {xs : List V} {ms : List Pt} (h : AL (PtR H r) xs ms) (e : Mu H r H') : AL (PtR H' r) xs ms := al_mono h fun x m _ g => by
  obtain ⟨b, l1, l2, n, n1, n2⟩ := g
  exact ⟨b, ⟨e.mu.b n1 l1.lm nt_l⟩, ⟨e.mu.b n2 l2.lm nt_l⟩, n, n1, n2⟩
instance {H : Hp} {r : Addr} {xs : List V} {ms : List Pt} [h : PtRs H r xs ms] : PtLs H xs ms := ⟨al_mono h.al fun _ _ _ g => ptr_l g⟩
/-- all are good ones -/
def Gs (ms : List Pt) : Prop := ∀ m ∈ ms, m.Ok ∧ m.Sm

def sp_law_cell_at (K : PySem.W.Frag) : Sp := fun vs H Q _ => ∃ (a : Addr) (ns : List Int) (k : Nat), vs = [.ref a, .int (k : Int)] ∧ SqL K H a (ns.map V.int) ∧ ∀ i, Q (.int i) H
theorem ok_law_cell_at (T : Txt K mg w base) : ∃ fd, FunD K d_law_cell_at.name d_law_cell_at.qual d_law_cell_at.params d_law_cell_at.body d_law_cell_at.scope (d_law_cell_at.dvs K) (d_law_cell_at.kws K) (He.fAd K d_law_cell_at.at_) fd ∧ FnOk P w K mg base C8.CX0 1 (He.fAd K d_law_cell_at.at_) fd ["script", "k"] (sp_law_cell_at K) := by
  obtain ⟨fd, F⟩ := T.f_law_cell_at
  refine ⟨fd, F, ?_⟩
  have sc := (show FnScope ["script", "k"] ["script", "k"] (defScope s_law_cell_at) from ⟨rfl, rfl, rfl, by decide +kernel, rfl, by decide +kernel, by decide +kernel⟩)
  refine F.ok sc (fun vs H Q E h => ?_) (fun cdv A outer s H vs Q E hr h => ?_)
  · obtain ⟨a, ns, n, rfl, sq, k⟩ := h; rfl
  obtain ⟨a, ns, n, rfl, sq, k⟩ := h
  have hu := hr.units
  refine ⟨_, PSs.nox (pss_cons (ps_if (pt_cmpR (U.ou_ltD (K := K) hu) (pv 1) (pe_callB (U.cu_len (K := K)) (by rfl) T.b_len (by decide +kernel) (pa_cons (pv 0) pa_nil)) (nomark _)) (pss_one (ps_ret (pe_ix (U.xu (K := K)) (pv 0) (pv 1) (fun _ _ => rfl)))) pss_nil)
  (pss_one (ps_ret pe_int))), ?_⟩
  walk_at "ust0"
  haveI : LR K H a (ns.map V.int) := ⟨sq⟩
  have hl : (ns.map V.int).length = ns.length := List.length_map ..
  walk_at "ugo"
  refine br2 (fun h => ?_) (fun h => ?_)
  · walk_at "ugo"
    have hn : n < ns.length := by omega
    refine ix_is (v := .int ns[n]) (atI_nat (by rw [List.getElem?_map, List.getElem?_eq_getElem hn]; rfl)) ?_
    walk_at "ugo"
    exact k _
  · walk_at "ugo"
    exact k 0
theorem c_law_cell_at (T : Txt K mg w base) : C8.Cal P w K mg base 1 "_law_cell_at" (sp_law_cell_at K) [] := by
  obtain ⟨fd, F, ok⟩ := ok_law_cell_at (P := P) (w := w) (base := base) T
  exact cal_n F T.g_law_cell_at (F.bindsN fun _ _ _ _ _ _ us hl => match us, hl with | [_, _], _ => rfl) ok
instance {H : Hp} {Q : VK} {E : XK} {a : Addr} {ns : List Int} {k : Nat} [h : LR K H a (ns.map V.int)] : Go (sp_law_cell_at K [.ref a, .int (k : Int)] H Q E) (∀ i, Q (.int i) H) := ⟨fun g => ⟨a, ns, k, rfl, h.lr, g⟩⟩


def sp_law_cells (K : PySem.W.Frag) : Sp := fun vs H Q _ => ∃ (a : Addr) (ns : List Int) (n : Nat), vs = [.ref a, .int (n : Int)] ∧ SqL K H a (ns.map V.int) ∧ ns.length ≤ 1000 ∧ n ≤ 1000 ∧ ∀ p (cs : List Int) H', Nw H p → Ex H H' → LM H' p (cs.map V.int) → cs.length = n → Q (.ref p) H'
theorem ok_law_cells (T : Txt K mg w base) : ∃ fd, FunD K d_law_cells.name d_law_cells.qual d_law_cells.params d_law_cells.body d_law_cells.scope (d_law_cells.dvs K) (d_law_cells.kws K) (He.fAd K d_law_cells.at_) fd ∧ FnOk P w K mg base C8.CX0 2 (He.fAd K d_law_cells.at_) fd ["script", "count"] (sp_law_cells K) := by
  obtain ⟨fd, F⟩ := T.f_law_cells
  refine ⟨fd, F, ?_⟩
  have sc := (show FnScope ["script", "count", "cells", "k", "cell"] ["script", "count"] (defScope s_law_cells) from ⟨rfl, rfl, rfl, by decide +kernel, rfl, by decide +kernel, by decide +kernel⟩)
  refine F.ok sc (fun vs H Q E h => ?_) (fun cdv A outer s H vs Q E hr h => ?_)
  · obtain ⟨a, ns, n, rfl, sq, hl, hn, k⟩ := h; rfl
  obtain ⟨a, ns, n, rfl, sq, hl, hn, k⟩ := h
  have hu := hr.units
  refine ⟨_, PSs.nox (pss_cons (ps_set (i := 2) sc.nd rfl (by first | exact Or.inl rfl | exact Or.inr rfl) (pe_lst pa_nil))
  (pss_cons (ps_for PassesOwn.never rfl (pi_range1 (by rfl) T.b_range (pa_cons (pv 1) pa_nil)) (pg_name (i := 3) sc.nd rfl (by first | exact Or.inl rfl | exact Or.inr rfl)) (pss_cons (ps_set (i := 4) sc.nd rfl (by first | exact Or.inl rfl | exact Or.inr rfl) (C8.pe_c (c_law_cell_at T) hr (by decide) rfl (pa_cons (pv 0) (pa_cons (pe_op U.ou_mod (pv 3) (pe_callB (U.cu_max rfl) (by rfl) T.b_max (by decide +kernel) (pa_cons pe_int (pa_cons (pe_callB (U.cu_len (K := K)) (by rfl) T.b_len (by decide +kernel) (pa_cons (pv 0) pa_nil)) pa_nil)))) pa_nil))))
    (pss_cons (ps_if (pt_cmpR (U.ou_geD (K := K) hu) (pv 3) (pe_callB (U.cu_len (K := K)) (by rfl) T.b_len (by decide +kernel) (pa_cons (pv 0) pa_nil)) (nomark _)) (pss_one (ps_set (i := 4) sc.nd rfl (by first | exact Or.inl rfl | exact Or.inr rfl) (pe_op (U.ou_add (K := K)) (pe_op (U.ou_add (K := K)) (pe_op (U.ou_mul (K := K)) (pe_op U.ou_mod (pv 4) pe_int) pe_int) (pe_op (U.ou_mul (K := K)) (pe_op (U.ou_mul (K := K)) (pv 3) (pv 3)) pe_int)) pe_int))) pss_nil)
    (pss_one (ps_expr (pe_bm PySem.F.plainAttrs_list PySem.F.slot_list_append PySem.F.type_list_append mt_append (pv 2) (pa_cons (pv 4) pa_nil)))))))
  (pss_one (ps_ret (pv 2))))), ?_⟩
  walk_at "ust0"
  haveI : LR K H a (ns.map V.int) := ⟨sq⟩
  have hl' : (ns.map V.int).length = ns.length := List.length_map ..
  walk_at "ugo"
  refine al_l fun p H1 nw1 ex1 lm1 => ?_
  walk_at "ugo"
  refine for_r (n := (n : Int).toNat) (i := 0) (fun i σ H' => (∃ (cs : List Int) (o1 o2 : Option V), σ = [some (.ref a), some (.int (n : Int)), some (.ref p), o1, o2] ∧ LM H' p (cs.map V.int) ∧ cs.length = i) ∧ Et H H' ∧ LR K H' a (ns.map V.int)) ⟨⟨[], _, _, rfl, lm1, rfl⟩, inferInstance, inferInstance⟩ (fun i σ H' hi h => ?_) (fun σ H' h => ?_)
  · obtain ⟨⟨cs, o1, o2, rfl, lm, hc⟩, et, lr⟩ := h
    have hcl : (cs.map V.int).length = cs.length := List.length_map ..
    walk_at "ugo"
    have hmod : ∃ j : Nat, ((0 : Int) + (i : Int)) % max 1 (((ns.map V.int).length : Nat) : Int) = (j : Int) := ⟨_, (Int.toNat_of_nonneg (Int.emod_nonneg _ (by omega))).symm⟩
    obtain ⟨j, hj⟩ := hmod
    rw [hj]
    walk_at "ugo"
    intro cell
    walk_at "ugo"
    refine br2 (fun h => ?_) (fun h => ?_)
    · have h1 := Int.emod_nonneg cell (b := 1000003) (by decide)
      have h2 := Int.emod_lt_of_pos cell (b := 1000003) (by decide)
      walk_at "ugo"
      refine Sd.k (cm64 (by omega) (by decide)) ?_
      walk_at "ugo"
      refine Sd.k (cm64 (by omega) (by omega)) ?_
      walk_at "ugo"
      refine Sd.k (cm64 (by rw [Int.natAbs_mul]; exact Nat.lt_of_le_of_lt (Nat.mul_le_mul (show ((0 : Int) + (i : Int)).natAbs ≤ 2000 by omega) (show ((0 : Int) + (i : Int)).natAbs ≤ 2000 by omega)) (by decide)) (by decide)) ?_
      walk_at "ugo"
      refine mu_l' fun H2 m2 l2 => ?_
      exact ⟨⟨cs ++ [_], _, _, rfl, by rw [List.map_append]; exact l2, by simp [hc]⟩, inferInstance, inferInstance⟩
    · walk_at "ugo"
      refine mu_l' fun H2 m2 l2 => ?_
      exact ⟨⟨cs ++ [_], _, _, rfl, by rw [List.map_append]; exact l2, by simp [hc]⟩, inferInstance, inferInstance⟩
  · obtain ⟨⟨cs, o1, o2, rfl, lm, hc⟩, et, lr⟩ := h
    walk_at "ugo"
    exact k p cs H' nw1 ⟨et.et⟩ lm (by omega)
theorem c_law_cells (T : Txt K mg w base) : C8.Cal P w K mg base 2 "_law_cells" (sp_law_cells K) [] := by
  obtain ⟨fd, F, ok⟩ := ok_law_cells (P := P) (w := w) (base := base) T
  exact cal_n F T.g_law_cells (F.bindsN fun _ _ _ _ _ _ us hl => match us, hl with | [_, _], _ => rfl) ok

end
end T

namespace T
open PySem PySem.Spec PyProof.Rows L2 U
open SX (S)
variable [QN]
section
variable {P : Program} {w : World} {K : PySem.W.Frag} {mg : PySem.Str → Option Value} {base : Heap}

instance {H : Hp} {Q : VK} {E : XK} {a : Addr} {ns : List Int} {n : Nat} [h : LR K H a (ns.map V.int)] : Go (sp_law_cells K [.ref a, .int (n : Int)] H Q E) (Sd (ns.length ≤ 1000) (Sd (n ≤ 1000) (∀ p (cs : List Int) H', Nw H p → Ex H H' → LM H' p (cs.map V.int) → cs.length = n → Q (.ref p) H'))) := ⟨fun g => ⟨a, ns, n, rfl, h.lr, g.1, g.2.1, g.2.2⟩⟩

theorem mkl_al {H : Hp} {xs : List V} {ms : List Pt} (h : MkL K H xs ms) : AL (MkO K H) xs ms := ⟨h.len, h.all⟩
theorem al_mkl {H : Hp} {xs : List V} {ms : List Pt} (h : AL (MkO K H) xs ms) : MkL K H xs ms := ⟨h.len, h.all⟩

/-! _law_same: marks and parts -/
def sp_law_same (K : PySem.W.Frag) : Sp := fun vs H Q _ => ∃ (p q : Addr) (xs ys : List V) (ms : List Pt), vs = [.ref p, .ref q] ∧ LR K H p xs ∧ LR K H q ys ∧ MkL K H xs ms ∧ PtLs H ys ms ∧ (∀ m ∈ ms, m.Ok) ∧ ∀ H', Ex H H' → Q (.bl true) H'
theorem ok_law_same (T : Txt K mg w base) : ∃ fd, FunD K d_law_same.name d_law_same.qual d_law_same.params d_law_same.body d_law_same.scope (d_law_same.dvs K) (d_law_same.kws K) (He.fAd K d_law_same.at_) fd ∧ FnOk P w K mg base C8.CX0 7 (He.fAd K d_law_same.at_) fd ["told", "due"] (sp_law_same K) := by
  obtain ⟨fd, F⟩ := T.f_law_same
  refine ⟨fd, F, ?_⟩
  have sc := (show FnScope ["told", "due", "spine", "parts"] ["told", "due"] (defScope s_law_same) from ⟨rfl, rfl, rfl, by decide +kernel, rfl, by decide +kernel, by decide +kernel⟩)
  refine F.ok sc (fun vs H Q E h => ?_) (fun cdv A outer s H vs Q E hr h => ?_)
  · obtain ⟨p, q, xs, ys, ms, rfl, lp, lq, ml, pl, ok, k⟩ := h; rfl
  obtain ⟨p, q, xs, ys, ms, rfl, lp, lq, ml, pl, ok, k⟩ := h
  have hu := hr.units
  haveI : IsC K (He.ga K "Mark") := ⟨T.c_Mark, T.on_Mark⟩
  refine ⟨_, PSs.nox (pss_cons (ps_if (PW.pt (pw_or (pt_not (pt_val (pe_callB (U.cu_isi (K := K)) (by rfl) T.b_isinstance (by decide +kernel) (pa_cons (pv 0) (pa_cons (U.pe_ty (n := "list") rfl T.b_list (by decide +kernel)) pa_nil))))) (pw_or1 (pt_cmpR (U.ou_neO (K := K) hu (c_m_eq T) T.on_Mark hr (by decide)) (pe_callB (U.cu_len (K := K)) (by rfl) T.b_len (by decide +kernel) (pa_cons (pv 0) pa_nil)) (pe_callB (U.cu_len (K := K)) (by rfl) T.b_len (by decide +kernel) (pa_cons (pv 1) pa_nil)) (nomark _))))) (pss_one (ps_ret pe_bl)) pss_nil)
  (pss_cons (ps_for PassesOwn.never rfl (U.pi_zip' (K := K) (by rfl) T.b_zip (pa_cons (pv 0) (pa_cons (pv 1) pa_nil))) (U.pg_tup' (K := K) (n := 2) rfl (pgs_cons (pg_name (i := 2) sc.nd rfl (by first | exact Or.inl rfl | exact Or.inr rfl)) (pgs_cons (pg_name (i := 3) sc.nd rfl (by first | exact Or.inl rfl | exact Or.inr rfl)) pgs_nil))) (pss_one (ps_if (PW.pt (pw_or (pt_not (pt_val (pe_callB (U.cu_isi (K := K)) (by rfl) T.b_isinstance (by decide +kernel) (pa_cons (pv 2) (pa_cons (pe_glob (v := .ref _) rfl T.g_Mark rfl) pa_nil))))) (pw_or1 (pt_cmpR (U.ou_neO (K := K) hu (c_m_eq T) T.on_Mark hr (by decide)) (pv 2) (C8.pe_c (c_law_mark T) hr (by decide) rfl (pa_cons (pv 3) pa_nil)) (nomark _))))) (pss_one (ps_ret pe_bl)) pss_nil)))
  (pss_one (ps_ret pe_bl)))), ?_⟩
  walk_at "ust0"
  have l1 := ml.len
  have l2 := pl.al.len
  walk_at "ugo"
  refine brT (by omega) ?_
  walk_at "ugo"
  refine for_z (xs := xs) (ys := ys) (fun i σ H' => (∃ o1 o2, σ = [some (.ref p), some (.ref q), o1, o2]) ∧ Ex H H') ⟨⟨_, _, rfl⟩, ⟨kp_rfl⟩⟩ (by omega) (fun i σ H' hi h => ?_) (fun i x y t σ H1 H' hi hx hy h nw ex tm => ?_) (fun σ H' h => ?_)
  · obtain ⟨_, e⟩ := h
    exact ⟨(inferInstance : LR K H' p xs).lr, (inferInstance : LR K H' q ys).lr⟩
  · obtain ⟨⟨o1, o2, rfl⟩, e⟩ := h
    have hm : ms[i]? = some ms[i] := List.getElem?_eq_getElem (by omega)
    obtain ⟨x', e1, mk⟩ := mkl_at ml hm
    obtain ⟨y', e2, pt⟩ := al_at pl.al hm
    rw [hx] at e1
    rw [hy] at e2
    cases e1
    cases e2
    have okm := ok _ (List.mem_of_getElem? hm)
    walk_at "ugo"
    intro z H2 nw2 ex2 mk2
    walk_at "ugo"
    rw [decide_eq_true rfl]
    walk_at "ugo"
    exact ⟨⟨_, _, rfl⟩, ⟨Et.et⟩⟩
  · obtain ⟨⟨o1, o2, rfl⟩, e⟩ := h
    walk_at "ugo"
    exact k H' e
theorem c_law_same (T : Txt K mg w base) : C8.Cal P w K mg base 7 "_law_same" (sp_law_same K) [] := by
  obtain ⟨fd, F, ok⟩ := ok_law_same (P := P) (w := w) (base := base) T
  exact cal_n F T.g_law_same (F.bindsN fun _ _ _ _ _ _ us hl => match us, hl with | [_, _], _ => rfl) ok
instance {H : Hp} {Q : VK} {E : XK} {p q : Addr} {xs ys : List V} {ms : List Pt} [h : LR K H p xs] [h2 : LR K H q ys] [ml : MkL K H xs ms] : Go (sp_law_same K [.ref p, .ref q] H Q E) (Sd (PtLs H ys ms) (Sd (∀ m ∈ ms, m.Ok) (∀ H', Ex H H' → Q (.bl true) H'))) := ⟨fun k => ⟨p, q, xs, ys, ms, rfl, h, h2, ml, k.1, k.2.1, k.2.2⟩⟩

end
end T

namespace T
open PySem PySem.Spec PyProof.Rows L2 U
open SX (S)
variable [QN]
section
variable {P : Program} {w : World} {K : PySem.W.Frag} {mg : PySem.Str → Option Value} {base : Heap}
/-! ### rising lists -/
/-- strictly rising -/
def Rise (ms : List Pt) : Prop := ms.Pairwise fun a b => a.lt b = true
theorem rise_of : ∀ ms : List Pt, (∀ k, 1 ≤ k → k < ms.length → ¬ Wr ms k) → Rise ms
  | [], _ => .nil
  | [a], _ => .cons (fun b hb => by cases hb) .nil
  | a :: b :: r, h => by
    have h1 : a.lt b = true := by
      cases e : a.lt b with
      | true => rfl
      | false => exact absurd ⟨a, b, rfl, rfl, e⟩ (h 1 (by omega) (by simp))
    have ih := rise_of (b :: r) fun k hk hk2 hw => by
      refine h (k + 1) (by omega) (by simp at hk2 ⊢; omega) ?_
      obtain ⟨x, y, g1, g2, g3⟩ := hw
      refine ⟨x, y, ?_, ?_, g3⟩
      · rw [show k + 1 - 1 = (k - 1) + 1 by omega, List.getElem?_cons_succ]
        exact g1
      · rw [List.getElem?_cons_succ]
        exact g2
    refine .cons (fun c hc => ?_) ih
    rcases List.mem_cons.mp hc with e | hc
    · rw [e]; exact h1
    · exact lt_trans h1 (List.rel_of_pairwise_cons ih hc)
theorem rise_fw {ms : List Pt} (h : Rise ms) : FW ms none := fun k h1 h2 hw => by
  obtain ⟨a, b, e1, e2, e3⟩ := hw
  have := List.pairwise_iff_getElem.mp h (k - 1) k (by omega) h2 (by omega)
  rw [List.getElem?_eq_getElem (by omega)] at e1
  rw [List.getElem?_eq_getElem h2] at e2
  injection e1 with e1
  injection e2 with e2
  rw [e1, e2, e3] at this
  cases this
instance {H : Hp} {Q : VK} {E : XK} {p : Addr} {b : Bool} {xs : List V} {ms : List Pt} [h : SR K H p b xs] [ml : MkL K H xs ms] : Go (sp_first_wrong K [.ref p] H Q E) (Sd (ms.length ≤ 1000) (∀ o H', FW ms o → Ex H H' → Q (oV o) H')) := ⟨fun k => ⟨p, xs, ms, rfl, h.or, ml, k.1, k.2⟩⟩
theorem no_NotRising (T : Txt K mg w base) : NoC P w K mg base 1 "NotRising" (He.ga K "NotRising") "at" := by
  obtain ⟨fd, F⟩ := T.f_NotRising_init
  refine ⟨T.o_NotRising, T.n_NotRising_at, T.g_NotRising, _, fd, ["self", "at"], T.m_NotRising_init.at_, beq_iff_eq.mp T.m_NotRising_init.fn, ?_, F.bindsN fun _ _ _ _ _ _ us hl => match us, hl with | [_, _], _ => rfl⟩
  have sc := (show FnScope ["self", "at"] ["self", "at"] (defScope s_NotRising_init) from ⟨rfl, rfl, rfl, by decide +kernel, rfl, by decide +kernel, by decide +kernel⟩)
  refine F.ok sc (fun vs H Q E h => ?_) (fun cdv A outer s H vs Q E hr h => ?_)
  · obtain ⟨_, _, _, rfl, _⟩ := h; rfl
  obtain ⟨a, C, v, rfl, o, na, ha, k⟩ := h
  refine ⟨_, PSs.nox (pss_cons (ps_expr (U.pe_meinit rfl T.g_MarkError T.me_MarkError (pa_cons (pv 0) (pa_cons (U.pe_s (l := [110, 111, 116, 32, 98, 101, 104, 105, 110, 100, 32, 116, 104, 101, 32, 111, 110, 101, 32, 97, 104, 101, 97, 100]) (by decide +kernel)) pa_nil))))
  (pss_one (ps_ost (pv 0) (pv 1)))), ?_⟩
  walk_at "ust0"
  exact no_read o na ha k
/-! need_rising -/
def sp_need_rising (K : PySem.W.Frag) : Sp := fun vs H Q _ => ∃ (p : Addr) (b : Bool) (xs : List V) (ms : List Pt), vs = [.ref p] ∧ SR K H p b xs ∧ MkL K H xs ms ∧ ms.length ≤ 1000 ∧ Rise ms ∧ ∀ H', Ex H H' → Q .non H'
theorem ok_need_rising (T : Txt K mg w base) : ∃ fd, FunD K d_need_rising.name d_need_rising.qual d_need_rising.params d_need_rising.body d_need_rising.scope (d_need_rising.dvs K) (d_need_rising.kws K) (He.fAd K d_need_rising.at_) fd ∧ FnOk P w K mg base C8.CX0 4 (He.fAd K d_need_rising.at_) fd ["marks"] (sp_need_rising K) := by
  obtain ⟨fd, F⟩ := T.f_need_rising
  refine ⟨fd, F, ?_⟩
  have sc := (show FnScope ["marks", "at"] ["marks"] (defScope s_need_rising) from ⟨rfl, rfl, rfl, by decide +kernel, rfl, by decide +kernel, by decide +kernel⟩)
  refine F.ok sc (fun vs H Q E h => ?_) (fun cdv A outer s H vs Q E hr h => ?_)
  · obtain ⟨p, b, xs, ms, rfl, sr, ml, hl, rs, k⟩ := h; rfl
  obtain ⟨p, b, xs, ms, rfl, sr, ml, hl, rs, k⟩ := h
  have hu := hr.units
  refine ⟨_, PSs.nox (pss_cons (ps_set (i := 1) sc.nd rfl (by first | exact Or.inl rfl | exact Or.inr rfl) (C8.pe_c (c_first_wrong T) hr (by decide) rfl (pa_cons (pv 0) pa_nil)))
  (pss_one (ps_if (pt_cmpR U.ou_isn (pv 1) pe_non (nomark _)) (pss_one ps_never) pss_nil))), ?_⟩
  walk_at "ust0"
  walk_at "ugo"
  intro o H1 fw e1
  obtain rfl := fw_eq fw (rise_fw rs)
  rw [show oV none = V.non from rfl]
  walk_at "ugo"
  exact k H1 e1
theorem c_need_rising (T : Txt K mg w base) : C8.Cal P w K mg base 4 "need_rising" (sp_need_rising K) [] := by
  obtain ⟨fd, F, ok⟩ := ok_need_rising (P := P) (w := w) (base := base) T
  exact cal_n F T.g_need_rising (F.bindsN fun _ _ _ _ _ _ us hl => match us, hl with | [_], _ => rfl) ok
instance {H : Hp} {Q : VK} {E : XK} {p : Addr} {b : Bool} {xs : List V} {ms : List Pt} [h : SR K H p b xs] [ml : MkL K H xs ms] : Go (sp_need_rising K [.ref p] H Q E) (Sd (ms.length ≤ 1000) (Sd (Rise ms) (∀ H', Ex H H' → Q .non H'))) := ⟨fun k => ⟨p, b, xs, ms, rfl, h, ml, k.1, k.2.1, k.2.2⟩⟩
/-- goes, or raises -/
def spx_need_rising (K : PySem.W.Frag) : Sp := fun vs H Q E => ∃ (p : Addr) (b : Bool) (xs : List V) (ms : List Pt), vs = [.ref p] ∧ SR K H p b xs ∧ MkL K H xs ms ∧ ms.length ≤ 1000 ∧ ((Rise ms ∧ ∀ H', Ex H H' → Q .non H') ∨ ∃ k, FW ms (some k) ∧ ∀ d H', Ex H H' → XD H' d [("at", .int (k : Int))] → E (.ref (He.ga K "NotRising")) (some d) H')
theorem okx_need_rising (T : Txt K mg w base) : ∃ fd, FunD K d_need_rising.name d_need_rising.qual d_need_rising.params d_need_rising.body d_need_rising.scope (d_need_rising.dvs K) (d_need_rising.kws K) (He.fAd K d_need_rising.at_) fd ∧ FnOk P w K mg base (L2.CX P w) 4 (He.fAd K d_need_rising.at_) fd ["marks"] (spx_need_rising K) := by
  obtain ⟨fd, F⟩ := T.f_need_rising
  refine ⟨fd, F, ?_⟩
  have sc := (show FnScope ["marks", "at"] ["marks"] (defScope s_need_rising) from ⟨rfl, rfl, rfl, by decide +kernel, rfl, by decide +kernel, by decide +kernel⟩)
  refine F.ok sc (fun vs H Q E h => ?_) (fun cdv A outer s H vs Q E hr h => ?_)
  · obtain ⟨p, b, xs, ms, rfl, sr, ml, hl, h⟩ := h; rfl
  obtain ⟨p, b, xs, ms, rfl, sr, ml, hl, h⟩ := h
  have hu := hr.units
  have tk : Takes (cxOf (L2.CX P w) P w K mg base ["marks", "at"] d_need_rising.qual d_need_rising.scope (He.fAd K d_need_rising.at_) cdv A outer s H E) (fun cls d _ H' => E cls d H') := takes_of rfl rfl rfl rfl
  refine ⟨_, (pss_cons (ps_set (i := 1) sc.nd rfl (by first | exact Or.inl rfl | exact Or.inr rfl) (C8.pe_c (c_first_wrong T) hr (by decide) rfl (pa_cons (pv 0) pa_nil)))
  (pss_one (ps_if (pt_cmpR U.ou_isn (pv 1) pe_non (nomark _)) (pss_one (U.ps_no (K := K) tk (no_NotRising T) rfl hr (by decide) rfl (pv 1))) pss_nil))), ?_⟩
  walk_at "ust0"
  walk_at "ugo"
  intro o H1 fw e1
  rcases h with ⟨rs, k⟩ | ⟨j, fw', k⟩
  · obtain rfl := fw_eq fw (rise_fw rs)
    rw [show oV none = V.non from rfl]
    walk_at "ugo"
    exact k H1 e1
  · obtain rfl := fw_eq fw fw'
    rw [show oV (some j) = V.int (j : Int) from rfl]
    walk_at "ugo"
    exact no_of T.o_NotRising T.n_NotRising_at fun d H2 nw ex xd => k d H2 ⟨Et.et⟩ xd
theorem cx_need_rising (T : Txt K mg w base) : CalX P w K mg base 4 "need_rising" (spx_need_rising K) [] := by
  obtain ⟨fd, F, ok⟩ := okx_need_rising (P := P) (w := w) (base := base) T
  exact ⟨_, fd, _, [], ok, T.g_need_rising, F.kp, F.bindsN fun _ _ _ _ _ _ us hl => match us, hl with | [_], _ => rfl, .nil⟩

/-! joined -/
def Jn : List Pt → List Pt → List Pt
  | [], b => b
  | x :: a, [] => x :: a
  | x :: a, y :: b => if x = y then x :: Jn a b else if x.lt y = true then x :: Jn a (y :: b) else y :: Jn (x :: a) b
  termination_by a b => a.length + b.length
theorem jn_nil (a : List Pt) : Jn a [] = a := by cases a <;> simp [Jn]
def sp_joined (K : PySem.W.Frag) : Sp := fun vs H Q _ => ∃ (p q : Addr) (b c : Bool) (xs ys : List V) (ms ns : List Pt), vs = [.ref p, .ref q] ∧ SR K H p b xs ∧ SR K H q c ys ∧ MkL K H xs ms ∧ MkL K H ys ns ∧ ms.length ≤ 1000 ∧ ns.length ≤ 1000 ∧ Rise ms ∧ Rise ns ∧ (∀ m ∈ ms, m.Ok) ∧ (∀ m ∈ ns, m.Ok) ∧ ∀ r zs H', Nw H r → Ex H H' → LM H' r zs → MkL K H' zs (Jn ms ns) → Q (.ref r) H'
theorem ok_joined (T : Txt K mg w base) : ∃ fd, FunD K d_joined.name d_joined.qual d_joined.params d_joined.body d_joined.scope (d_joined.dvs K) (d_joined.kws K) (He.fAd K d_joined.at_) fd ∧ FnOk P w K mg base C8.CX0 5 (He.fAd K d_joined.at_) fd ["one", "other"] (sp_joined K) := by
  obtain ⟨fd, F⟩ := T.f_joined
  refine ⟨fd, F, ?_⟩
  have sc := (show FnScope ["one", "other", "row", "left", "right", "how"] ["one", "other"] (defScope s_joined) from ⟨rfl, rfl, rfl, by decide +kernel, rfl, by decide +kernel, by decide +kernel⟩)
  refine F.ok sc (fun vs H Q E h => ?_) (fun cdv A outer s H vs Q E hr h => ?_)
  · obtain ⟨p, q, b, c, xs, ys, ms, ns, rfl, sp, sq, ml, nl, l1, l2, r1, r2, ok1, ok2, k⟩ := h; rfl
  obtain ⟨p, q, b, c, xs, ys, ms, ns, rfl, sp, sq, ml, nl, l1, l2, r1, r2, ok1, ok2, k⟩ := h
  have hu := hr.units
  refine ⟨_, PSs.nox (pss_cons (ps_expr (C8.pe_c (c_need_rising T) hr (by decide) rfl (pa_cons (pv 0) pa_nil)))
  (pss_cons (ps_expr (C8.pe_c (c_need_rising T) hr (by decide) rfl (pa_cons (pv 1) pa_nil)))
  (pss_cons (ps_set (i := 2) sc.nd rfl (by first | exact Or.inl rfl | exact Or.inr rfl) (pe_lst pa_nil))
  (pss_cons (ps_set (i := 3) sc.nd rfl (by first | exact Or.inl rfl | exact Or.inr rfl) pe_int)
  (pss_cons (ps_set (i := 4) sc.nd rfl (by first | exact Or.inl rfl | exact Or.inr rfl) pe_int)
  (pss_cons (ps_while PassesOwn.never (PW.pt (pw_and (pt_cmpR (U.ou_ltD (K := K) hu) (pv 3) (pe_callB (U.cu_len (K := K)) (by rfl) T.b_len (by decide +kernel) (pa_cons (pv 0) pa_nil)) (nomark _)) (pw_and1 (pt_cmpR (U.ou_ltD (K := K) hu) (pv 4) (pe_callB (U.cu_len (K := K)) (by rfl) T.b_len (by decide +kernel) (pa_cons (pv 1) pa_nil)) (nomark _))))) (pss_cons (ps_set (i := 5) sc.nd rfl (by first | exact Or.inl rfl | exact Or.inr rfl) (C8.pe_c (c_order T) hr (by decide) rfl (pa_cons (pe_ix (U.xu (K := K)) (pv 0) (pv 3) (fun _ _ => rfl)) (pa_cons (pe_ix (U.xu (K := K)) (pv 1) (pv 4) (fun _ _ => rfl)) pa_nil))))
    (pss_cons (ps_if (pt_cmpR (U.ou_leD (K := K) hu) (pv 5) pe_int (nomark _)) (pss_cons (ps_expr (pe_bm PySem.F.plainAttrs_list PySem.F.slot_list_append PySem.F.type_list_append mt_append (pv 2) (pa_cons (pe_ix (U.xu (K := K)) (pv 0) (pv 3) (fun _ _ => rfl)) pa_nil)))
    (pss_one (ps_aug (i := 3) sc.nd rfl (by first | exact Or.inl rfl | exact Or.inr rfl) pe_int U.ip_add'))) (pss_one (ps_expr (pe_bm PySem.F.plainAttrs_list PySem.F.slot_list_append PySem.F.type_list_append mt_append (pv 2) (pa_cons (pe_ix (U.xu (K := K)) (pv 1) (pv 4) (fun _ _ => rfl)) pa_nil)))))
    (pss_one (ps_aug (i := 4) sc.nd rfl (by first | exact Or.inl rfl | exact Or.inr rfl) (pe_callTy U.cu_int (by rfl) T.b_int (by decide +kernel) (pa_cons (pe_cmpR (U.ou_geD (K := K) hu) (pv 5) pe_int (nomark _)) pa_nil)) U.ip_add')))))
  (pss_cons (ps_expr (pe_bm PySem.F.plainAttrs_list PySem.F.slot_list_extend PySem.F.type_list_extend (U.mt_ext (K := K)) (pv 2) (pa_cons (pe_slice (U.su (K := K)) (pv 0) (po_some (pv 3)) po_none) pa_nil)))
  (pss_cons (ps_expr (pe_bm PySem.F.plainAttrs_list PySem.F.slot_list_extend PySem.F.type_list_extend (U.mt_ext (K := K)) (pv 2) (pa_cons (pe_slice (U.su (K := K)) (pv 1) (po_some (pv 4)) po_none) pa_nil)))
  (pss_one (ps_ret (pv 2))))))))))), ?_⟩
  walk_at "ust0"
  have hx := ml.len
  have hy := nl.len
  walk_at "ugo"
  intro H1 e1
  walk_at "ugo"
  intro H2 e2
  walk_at "ugo"
  refine al_l fun r H3 nw3 ex3 lm3 => ?_
  walk_at "ugo"
  have nwr : Nw H r := ⟨fun o nt h => nw3.nw o nt (e2.ex.a (e1.ex.a h nt) nt)⟩
  let W : Nat → L2.St → Hp → Prop := fun m σ H' => ∃ (i j : Nat) (rs : List V) (ts : List Pt) (o : Option V), σ = [some (.ref p), some (.ref q), some (.ref r), some (.int (i : Int)), some (.int (j : Int)), o] ∧ Et H H' ∧ LM H' r rs ∧ AL (MkO K H) rs ts ∧ i ≤ ms.length ∧ j ≤ ns.length ∧ ts.length ≤ i + j ∧ ts ++ Jn (ms.drop i) (ns.drop j) = Jn ms ns ∧ m = (ms.length - i) + (ns.length - j)
  refine wh W _ ⟨0, 0, [], [], _, rfl, inferInstance, inferInstance, al_nil, by omega, by omega, by simp, rfl, rfl⟩ fun m σ H' h => ?_
  obtain ⟨i, j, rs, ts, o, rfl, et, lr, al, hi, hj, hts, eq, rfl⟩ := h
  haveI eH : Ex H H' := ⟨et.et⟩
  have hrl := al.len
  have up : ∀ {H7 : Hp} {zs : List V} {us : List Pt}, Et H H7 → AL (MkO K H) zs us → MkL K H7 zs us := fun e a => al_mkl (al_mono a fun x m _ g => mko_et g e.et)
  walk_at "ugo"
  by_cases hij : i < ms.length ∧ j < ns.length
  · obtain ⟨h1, h2⟩ := hij
    have e1 : ms[i]? = some ms[i] := List.getElem?_eq_getElem h1
    have e2 : ns[j]? = some ns[j] := List.getElem?_eq_getElem h2
    obtain ⟨x, a1, m1⟩ := mkl_at ml e1
    obtain ⟨y, a2, m2⟩ := mkl_at nl e2
    have o1 := ok1 _ (List.mem_of_getElem? e1)
    have o2 := ok2 _ (List.mem_of_getElem? e2)
    have d1 : ms.drop i = ms[i] :: ms.drop (i + 1) := List.drop_eq_getElem_cons h1
    have d2 : ns.drop j = ns[j] :: ns.drop (j + 1) := List.drop_eq_getElem_cons h2
    rw [d1, d2] at eq
    have i1 : ((i : Int) + 1) = ((i + 1 : Nat) : Int) := by omega
    have j1 : ((j : Int) + 1) = ((j + 1 : Nat) : Int) := by omega
    refine brT (by omega) ?_
    walk_at "ugo"
    refine brT (by omega) ?_
    walk_at "ugo"
    refine ⟨fun σ' H2 => ∃ m', m' < _ ∧ W m' σ' H2, fun _ _ h => h, ?_⟩
    walk_at "ugo"
    refine ix_is (atI_nat a1) ?_
    walk_at "ugo"
    refine ix_is (atI_nat a2) ?_
    walk_at "ugo"
    intro H4 e4
    walk_at "ugo"
    by_cases hab : ms[i] = ns[j]
    · have ho : ordI ms[i] ns[j] = 0 := by rw [ordI, if_pos hab]
      rw [ho]
      refine brT (by omega) ?_
      walk_at "ugo"
      refine ix_is (atI_nat a1) ?_
      walk_at "ugo"
      refine mu_l' fun H5 m5 l5 => ?_
      walk_at "ugo"
      rw [i1]
      rw [show (if decide ((0 : Int) ≤ 0) = true then (1 : Int) else 0) = 1 from rfl, j1]
      refine ⟨_, ?_, i + 1, j + 1, rs ++ [.ref x], ts ++ [ms[i]], _, rfl, inferInstance, l5, al_snoc al m1, by omega, by omega, by rw [List.length_append, List.length_singleton]; omega, ?_, rfl⟩
      · omega
      · rw [← eq, Jn, if_pos hab, List.append_assoc]; rfl
    · cases hlt : (ms[i]).lt ns[j] with
      | true =>
        have ho : ordI ms[i] ns[j] = -1 := by rw [ordI, if_neg hab, if_pos hlt]
        rw [ho]
        refine brT (by omega) ?_
        walk_at "ugo"
        refine ix_is (atI_nat a1) ?_
        walk_at "ugo"
        refine mu_l' fun H5 m5 l5 => ?_
        walk_at "ugo"
        rw [i1]
        rw [show (if decide ((0 : Int) ≤ -1) = true then (1 : Int) else 0) = 0 from rfl, Int.add_zero]
        refine ⟨_, ?_, i + 1, j, rs ++ [.ref x], ts ++ [ms[i]], _, rfl, inferInstance, l5, al_snoc al m1, by omega, by omega, by rw [List.length_append, List.length_singleton]; omega, ?_, rfl⟩
        · omega
        · rw [← eq, Jn, if_neg hab, if_pos hlt, List.append_assoc, d2]; rfl
      | false =>
        have ho : ordI ms[i] ns[j] = 1 := by rw [ordI, if_neg hab, if_neg (by simp [hlt])]
        rw [ho]
        refine brF (by omega) ?_
        walk_at "ugo"
        refine ix_is (atI_nat a2) ?_
        walk_at "ugo"
        refine mu_l' fun H5 m5 l5 => ?_
        walk_at "ugo"
        rw [show (if decide ((0 : Int) ≤ 1) = true then (1 : Int) else 0) = 1 from rfl, j1]
        refine ⟨_, ?_, i, j + 1, rs ++ [.ref y], ts ++ [ns[j]], _, rfl, inferInstance, l5, al_snoc al m2, by omega, by omega, by rw [List.length_append, List.length_singleton]; omega, ?_, rfl⟩
        · omega
        · rw [← eq, Jn, if_neg hab, if_neg (by simp [hlt]), List.append_assoc, d1]; rfl
  · have hend : Jn ms ns = ts ++ ms.drop i ++ ns.drop j := by
      rw [← eq]
      by_cases h1 : i < ms.length
      · have h2 : ns.drop j = [] := List.drop_eq_nil_of_le (by omega)
        rw [h2, jn_nil, List.append_nil]
      · have h2 : ms.drop i = [] := List.drop_eq_nil_of_le (by omega)
        rw [h2, Jn, List.append_nil]
    have f1 : AL (MkO K H) (xs.drop i) (ms.drop i) := al_drop (mkl_al ml) i
    have f2 : AL (MkO K H) (ys.drop j) (ns.drop j) := al_drop (mkl_al nl) j
    have c1 : (xs.drop i).length ≤ 1000 := by rw [List.length_drop]; omega
    have c2 : (ys.drop j).length ≤ 1000 := by rw [List.length_drop]; omega
    by_cases hi' : i < ms.length
    rotate_left
    refine brF (by omega) ?_
    rotate_left
    refine brT (by omega) ?_
    walk_at "ugo"
    refine brF (by omega) ?_
    all_goals
      walk_at "ugo"
      rw [cut_fr]
      intro s1 H4 e4 x4
      walk_at "ugo"
      refine mu_l' fun H5 m5 l5 => ?_
      walk_at "ugo"
      rw [cut_fr]
      intro s2 H6 e6 x6
      walk_at "ugo"
      refine mu_l' fun H7 m7 l7 => ?_
      walk_at "ugo"
      exact k r _ H7 nwr ⟨Et.et⟩ l7 (by rw [hend]; exact up inferInstance (al_app (al_app al f1) f2))
theorem c_joined (T : Txt K mg w base) : C8.Cal P w K mg base 5 "joined" (sp_joined K) [] := by
  obtain ⟨fd, F, ok⟩ := ok_joined (P := P) (w := w) (base := base) T
  exact cal_n F T.g_joined (F.bindsN fun _ _ _ _ _ _ us hl => match us, hl with | [_, _], _ => rfl) ok


instance {H : Hp} {Q : VK} {E : XK} {p q : Addr} {b c : Bool} {xs ys : List V} {ms ns : List Pt} [h1 : SR K H p b xs] [h2 : SR K H q c ys] [h3 : MkL K H xs ms] [h4 : MkL K H ys ns] : Go (sp_joined K [.ref p, .ref q] H Q E) (Sd (ms.length ≤ 1000) (Sd (ns.length ≤ 1000) (Sd (Rise ms) (Sd (Rise ns) (Sd (∀ m ∈ ms, m.Ok) (Sd (∀ m ∈ ns, m.Ok) (∀ r zs H', Nw H r → Ex H H' → LM H' r zs → MkL K H' zs (Jn ms ns) → Q (.ref r) H'))))))) := ⟨fun k => ⟨p, q, b, c, xs, ys, ms, ns, rfl, h1, h2, h3, h4, k.1, k.2.1, k.2.2.1, k.2.2.2.1, k.2.2.2.2.1, k.2.2.2.2.2.1, k.2.2.2.2.2.2⟩⟩
/-- raises: one of the lists does not rise -/
def spx_joined (K : PySem.W.Frag) : Sp := fun vs H _ E => ∃ (p q : Addr) (b c : Bool) (xs ys : List V) (ms ns : List Pt) (k : Nat), vs = [.ref p, .ref q] ∧ SR K H p b xs ∧ SR K H q c ys ∧ MkL K H xs ms ∧ MkL K H ys ns ∧ ms.length ≤ 1000 ∧ ns.length ≤ 1000 ∧ (FW ms (some k) ∨ (Rise ms ∧ FW ns (some k))) ∧ ∀ d H', Ex H H' → XD H' d [("at", .int (k : Int))] → E (.ref (He.ga K "NotRising")) (some d) H'
theorem okx_joined (T : Txt K mg w base) : ∃ fd, FunD K d_joined.name d_joined.qual d_joined.params d_joined.body d_joined.scope (d_joined.dvs K) (d_joined.kws K) (He.fAd K d_joined.at_) fd ∧ FnOk P w K mg base (L2.CX P w) 5 (He.fAd K d_joined.at_) fd ["one", "other"] (spx_joined K) := by
  obtain ⟨fd, F⟩ := T.f_joined
  refine ⟨fd, F, ?_⟩
  have sc := (show FnScope ["one", "other", "row", "left", "right", "how"] ["one", "other"] (defScope s_joined) from ⟨rfl, rfl, rfl, by decide +kernel, rfl, by decide +kernel, by decide +kernel⟩)
  refine F.ok sc (fun vs H Q E h => ?_) (fun cdv A outer s H vs Q E hr h => ?_)
  · obtain ⟨p, q, b, c, xs, ys, ms, ns, j, rfl, sp, sq, ml, nl, l1, l2, h, k⟩ := h; rfl
  obtain ⟨p, q, b, c, xs, ys, ms, ns, j, rfl, sp, sq, ml, nl, l1, l2, h, k⟩ := h
  have hu := hr.units
  have tk : Takes (cxOf (L2.CX P w) P w K mg base ["one", "other", "row", "left", "right", "how"] d_joined.qual d_joined.scope (He.fAd K d_joined.at_) cdv A outer s H E) (fun cls d _ H' => E cls d H') := takes_of rfl rfl rfl rfl
  refine ⟨_, (pss_cons (ps_expr (U.pe_cX (cx_need_rising T) tk hr (by decide) rfl (pa_cons (pv 0) pa_nil)))
  (pss_cons (ps_expr (U.pe_cX (cx_need_rising T) tk hr (by decide) rfl (pa_cons (pv 1) pa_nil)))
  (pss_cons (ps_set (i := 2) sc.nd rfl (by first | exact Or.inl rfl | exact Or.inr rfl) (pe_lst pa_nil))
  (pss_cons (ps_set (i := 3) sc.nd rfl (by first | exact Or.inl rfl | exact Or.inr rfl) pe_int)
  (pss_cons (ps_set (i := 4) sc.nd rfl (by first | exact Or.inl rfl | exact Or.inr rfl) pe_int)
  (pss_cons (ps_while (passes_of rfl) (PW.pt (pw_and (pt_cmpR (U.ou_ltD (K := K) hu) (pv 3) (pe_callB (U.cu_len (K := K)) (by rfl) T.b_len (by decide +kernel) (pa_cons (pv 0) pa_nil)) (nomark _)) (pw_and1 (pt_cmpR (U.ou_ltD (K := K) hu) (pv 4) (pe_callB (U.cu_len (K := K)) (by rfl) T.b_len (by decide +kernel) (pa_cons (pv 1) pa_nil)) (nomark _))))) (pss_cons (ps_set (i := 5) sc.nd rfl (by first | exact Or.inl rfl | exact Or.inr rfl) (C8.pe_c (c_order T) hr (by decide) rfl (pa_cons (pe_ix (U.xu (K := K)) (pv 0) (pv 3) (fun _ _ => rfl)) (pa_cons (pe_ix (U.xu (K := K)) (pv 1) (pv 4) (fun _ _ => rfl)) pa_nil))))
    (pss_cons (ps_if (pt_cmpR (U.ou_leD (K := K) hu) (pv 5) pe_int (nomark _)) (pss_cons (ps_expr (pe_bm PySem.F.plainAttrs_list PySem.F.slot_list_append PySem.F.type_list_append mt_append (pv 2) (pa_cons (pe_ix (U.xu (K := K)) (pv 0) (pv 3) (fun _ _ => rfl)) pa_nil)))
    (pss_one (ps_aug (i := 3) sc.nd rfl (by first | exact Or.inl rfl | exact Or.inr rfl) pe_int U.ip_add'))) (pss_one (ps_expr (pe_bm PySem.F.plainAttrs_list PySem.F.slot_list_append PySem.F.type_list_append mt_append (pv 2) (pa_cons (pe_ix (U.xu (K := K)) (pv 1) (pv 4) (fun _ _ => rfl)) pa_nil)))))
    (pss_one (ps_aug (i := 4) sc.nd rfl (by first | exact Or.inl rfl | exact Or.inr rfl) (pe_callTy U.cu_int (by rfl) T.b_int (by decide +kernel) (pa_cons (pe_cmpR (U.ou_geD (K := K) hu) (pv 5) pe_int (nomark _)) pa_nil)) U.ip_add')))))
  (pss_cons (ps_expr (pe_bm PySem.F.plainAttrs_list PySem.F.slot_list_extend PySem.F.type_list_extend (U.mt_ext (K := K)) (pv 2) (pa_cons (pe_slice (U.su (K := K)) (pv 0) (po_some (pv 3)) po_none) pa_nil)))
  (pss_cons (ps_expr (pe_bm PySem.F.plainAttrs_list PySem.F.slot_list_extend PySem.F.type_list_extend (U.mt_ext (K := K)) (pv 2) (pa_cons (pe_slice (U.su (K := K)) (pv 1) (po_some (pv 4)) po_none) pa_nil)))
  (pss_one (ps_ret (pv 2))))))))))), ?_⟩
  walk_at "ust0"
  rcases h with fw | ⟨rs, fw⟩
  · walk_at "ugo"
    exact ⟨p, b, xs, ms, rfl, sp, ml, l1, .inr ⟨j, fw, k⟩⟩
  · walk_at "ugo"
    refine ⟨p, b, xs, ms, rfl, sp, ml, l1, .inl ⟨rs, fun H1 e1 => ?_⟩⟩
    walk_at "ugo"
    exact ⟨q, c, ys, ns, rfl, inferInstance, inferInstance, l2, .inr ⟨j, fw, fun d H2 e2 xd => k d H2 ⟨Et.et⟩ xd⟩⟩
theorem cx_joined (T : Txt K mg w base) : CalX P w K mg base 5 "joined" (spx_joined K) [] := by
  obtain ⟨fd, F, ok⟩ := okx_joined (P := P) (w := w) (base := base) T
  exact ⟨_, fd, _, [], ok, T.g_joined, F.kp, F.bindsN fun _ _ _ _ _ _ us hl => match us, hl with | [_, _], _ => rfl, .nil⟩


/-! place_in -/
/-- l marks are ahead of m -/
def Pl (ms : List Pt) (m : Pt) (l : Nat) : Prop := l ≤ ms.length ∧ (∀ i, i < l → ∃ a, ms[i]? = some a ∧ a.lt m = true) ∧ ∀ i a, l ≤ i → ms[i]? = some a → a.lt m = false
theorem rise_lt {ms : List Pt} (h : Rise ms) {i j : Nat} {a b m : Pt} (ij : i ≤ j) (e1 : ms[i]? = some a) (e2 : ms[j]? = some b) (hb : b.lt m = true) : a.lt m = true := by
  rcases Nat.lt_or_eq_of_le ij with lt | e
  · have h1 := (List.getElem?_eq_some_iff.mp e1)
    have h2 := (List.getElem?_eq_some_iff.mp e2)
    obtain ⟨g1, g2⟩ := h1
    obtain ⟨k1, k2⟩ := h2
    have := List.pairwise_iff_getElem.mp h i j g1 k1 lt
    rw [g2, k2] at this
    exact lt_trans this hb
  · subst e
    rw [e1] at e2
    injection e2 with e2
    rw [e2]; exact hb
def sp_place_in (K : PySem.W.Frag) : Sp := fun vs H Q _ => ∃ (p x : Addr) (b : Bool) (xs : List V) (ms : List Pt) (m : Pt), vs = [.ref p, .ref x] ∧ SR K H p b xs ∧ MkL K H xs ms ∧ MkO K H x m ∧ ms.length ≤ 1000 ∧ Rise ms ∧ (∀ m ∈ ms, m.Ok) ∧ m.Ok ∧ ∀ l t H', Pl ms m l → Nw H t → Ex H H' → TM H' t [.int (l : Int), .bl (decide (ms[l]? = some m))] → Q (.ref t) H'
theorem ok_place_in (T : Txt K mg w base) : ∃ fd, FunD K d_place_in.name d_place_in.qual d_place_in.params d_place_in.body d_place_in.scope (d_place_in.dvs K) (d_place_in.kws K) (He.fAd K d_place_in.at_) fd ∧ FnOk P w K mg base C8.CX0 5 (He.fAd K d_place_in.at_) fd ["marks", "mark"] (sp_place_in K) := by
  obtain ⟨fd, F⟩ := T.f_place_in
  refine ⟨fd, F, ?_⟩
  have sc := (show FnScope ["marks", "mark", "low", "high", "middle"] ["marks", "mark"] (defScope s_place_in) from ⟨rfl, rfl, rfl, by decide +kernel, rfl, by decide +kernel, by decide +kernel⟩)
  refine F.ok sc (fun vs H Q E h => ?_) (fun cdv A outer s H vs Q E hr h => ?_)
  · obtain ⟨p, x, b, xs, ms, m, rfl, sr, ml, mk, hl, rs, oks, ok, k⟩ := h; rfl
  obtain ⟨p, x, b, xs, ms, m, rfl, sr, ml, mk, hl, rs, oks, ok, k⟩ := h
  have hu := hr.units
  refine ⟨_, PSs.nox (pss_cons (ps_expr (C8.pe_c (c_need_rising T) hr (by decide) rfl (pa_cons (pv 0) pa_nil)))
  (pss_cons (ps_set (i := 2) sc.nd rfl (by first | exact Or.inl rfl | exact Or.inr rfl) pe_int)
  (pss_cons (ps_set (i := 3) sc.nd rfl (by first | exact Or.inl rfl | exact Or.inr rfl) (pe_callB (U.cu_len (K := K)) (by rfl) T.b_len (by decide +kernel) (pa_cons (pv 0) pa_nil)))
  (pss_cons (ps_while PassesOwn.never (pt_cmpR (U.ou_ltD (K := K) hu) (pv 2) (pv 3) (nomark _)) (pss_cons (ps_set (i := 4) sc.nd rfl (by first | exact Or.inl rfl | exact Or.inr rfl) (pe_op U.ou_fdiv (pe_op (U.ou_add (K := K)) (pv 2) (pv 3)) pe_int))
    (pss_one (ps_if (pt_val (C8.pe_mt (c_m_ahead T) hr (by decide) (pe_ix (U.xu (K := K)) (pv 0) (pv 4) (fun _ _ => rfl)) (pa_cons (pv 1) pa_nil))) (pss_one (ps_set (i := 2) sc.nd rfl (by first | exact Or.inl rfl | exact Or.inr rfl) (pe_op (U.ou_add (K := K)) (pv 4) pe_int))) (pss_one (ps_set (i := 3) sc.nd rfl (by first | exact Or.inl rfl | exact Or.inr rfl) (pv 4)))))))
  (pss_one (ps_ret (pe_tup (pa_cons (pv 2) (pa_cons (pe_and (pe_cmpR (U.ou_ltD (K := K) hu) (pv 2) (pe_callB (U.cu_len (K := K)) (by rfl) T.b_len (by decide +kernel) (pa_cons (pv 0) pa_nil)) (nomark _)) (pe_one (pe_cmpR (U.ou_eqO (K := K) hu (c_m_eq T) hr (by decide)) (pe_ix (U.xu (K := K)) (pv 0) (pv 2) (fun _ _ => rfl)) (pv 1) (nomark _)))) pa_nil))))))))), ?_⟩
  walk_at "ust0"
  have hx := ml.len
  walk_at "ugo"
  intro H1 e1
  walk_at "ugo"
  let W : Nat → L2.St → Hp → Prop := fun n σ H' => ∃ (lo hi : Nat) (o : Option V), σ = [some (.ref p), some (.ref x), some (.int (lo : Int)), some (.int (hi : Int)), o] ∧ Ex H H' ∧ lo ≤ hi ∧ hi ≤ ms.length ∧ (∀ i, i < lo → ∃ a, ms[i]? = some a ∧ a.lt m = true) ∧ (∀ i a, hi ≤ i → ms[i]? = some a → a.lt m = false) ∧ n = hi - lo
  refine wh W _ ⟨0, xs.length, _, rfl, e1, by omega, by omega, (fun i hi => by omega), (fun i a hi e => by
    have := (List.getElem?_eq_some_iff.mp e).1
    omega), rfl⟩ fun n σ H' h => ?_
  obtain ⟨lo, hi, o, rfl, eH, h1, h2, h3, h4, rfl⟩ := h
  walk_at "ugo"
  refine br2 (fun hlt => ?_) (fun hlt => ?_)
  · refine ⟨fun σ' H2 => ∃ m', m' < _ ∧ W m' σ' H2, fun _ _ h => h, ?_⟩
    walk_at "ugo"
    have hm : (((lo : Int) + (hi : Int)) / 2) = (((lo + hi) / 2 : Nat) : Int) := by omega
    refine Sd.k (cd64 (by decide) (by decide)) ?_
    rw [hm]
    generalize hmid : (lo + hi) / 2 = mid at *
    have g1 : mid < ms.length := by omega
    have e2 : ms[mid]? = some ms[mid] := List.getElem?_eq_getElem g1
    obtain ⟨y, a1, m1⟩ := mkl_at ml e2
    obtain ⟨dy, ty, iy, ry⟩ := (mko_et m1 eH.ex).ex
    haveI : MkO K H' y ms[mid] := mko_et m1 eH.ex
    walk_at "ugo"
    refine ix_is (atI_nat a1) ?_
    walk_at "ugo"
    intro H3 e3
    walk_at "ugo"
    cases hc : (ms[mid]).lt m with
    | true =>
      walk_at "ugo"
      rw [show ((mid : Int) + 1) = ((mid + 1 : Nat) : Int) by omega]
      refine ⟨_, ?_, mid + 1, hi, _, rfl, ⟨Et.et⟩, by omega, h2, (fun i hi' => ?_), h4, rfl⟩
      · omega
      · have hi1 : i < ms.length := by omega
        exact ⟨_, List.getElem?_eq_getElem hi1, rise_lt rs (by omega) (List.getElem?_eq_getElem hi1) e2 hc⟩
    | false =>
      walk_at "ugo"
      refine ⟨_, ?_, lo, mid, _, rfl, ⟨Et.et⟩, by omega, by omega, h3, (fun i a hi' ei => ?_), rfl⟩
      · omega
      · cases hca : a.lt m with
        | false => rfl
        | true =>
          have := rise_lt rs hi' e2 ei hca
          rw [hc] at this
          cases this
  · obtain rfl : lo = hi := by omega
    have pl : Pl ms m lo := ⟨h2, h3, h4⟩
    walk_at "ugo"
    refine br2 (fun hb => ?_) (fun hb => ?_)
    · have g1 : lo < ms.length := by omega
      have e2 : ms[lo]? = some ms[lo] := List.getElem?_eq_getElem g1
      obtain ⟨y, a1, m1⟩ := mkl_at ml e2
      haveI : MkO K H' y ms[lo] := mko_et m1 eH.ex
      have oky := oks _ (List.mem_of_getElem? e2)
      walk_at "ugo"
      refine ix_is (atI_nat a1) ?_
      walk_at "ugo"
      refine al_t' fun t H3 nw3 ex3 tm3 => ?_
      refine k lo t H3 pl ⟨fun o nt h => nw3.nw o nt (eH.ex.a h nt)⟩ ⟨Et.et⟩ ?_
      rw [e2, show decide (some ms[lo] = some m) = decide (ms[lo] = m) by simp]
      exact tm3
    · walk_at "ugo"
      refine al_t' fun t H3 nw3 ex3 tm3 => ?_
      refine k lo t H3 pl ⟨fun o nt h => nw3.nw o nt (eH.ex.a h nt)⟩ ⟨Et.et⟩ ?_
      rw [List.getElem?_eq_none (by omega), show decide ((none : Option Pt) = some m) = false from rfl]
      exact tm3
theorem c_place_in (T : Txt K mg w base) : C8.Cal P w K mg base 5 "place_in" (sp_place_in K) [] := by
  obtain ⟨fd, F, ok⟩ := ok_place_in (P := P) (w := w) (base := base) T
  exact cal_n F T.g_place_in (F.bindsN fun _ _ _ _ _ _ us hl => match us, hl with | [_, _], _ => rfl) ok
instance {H : Hp} {Q : VK} {E : XK} {p x : Addr} {b : Bool} {xs : List V} {ms : List Pt} {m : Pt} [h1 : SR K H p b xs] [h3 : MkL K H xs ms] [mk : MkO K H x m] : Go (sp_place_in K [.ref p, .ref x] H Q E) (Sd (ms.length ≤ 1000) (Sd (Rise ms) (Sd (∀ m ∈ ms, m.Ok) (Sd m.Ok (∀ l t H', Pl ms m l → Nw H t → Ex H H' → TM H' t [.int (l : Int), .bl (decide (ms[l]? = some m))] → Q (.ref t) H'))))) := ⟨fun k => ⟨p, x, b, xs, ms, m, rfl, h1, h3, mk, k.1, k.2.1, k.2.2.1, k.2.2.2.1, k.2.2.2.2⟩⟩
/-- raises: the list does not rise -/
def spx_place_in (K : PySem.W.Frag) : Sp := fun vs H _ E => ∃ (p : Addr) (x : V) (b : Bool) (xs : List V) (ms : List Pt) (k : Nat), vs = [.ref p, x] ∧ SR K H p b xs ∧ MkL K H xs ms ∧ ms.length ≤ 1000 ∧ FW ms (some k) ∧ ∀ d H', Ex H H' → XD H' d [("at", .int (k : Int))] → E (.ref (He.ga K "NotRising")) (some d) H'
theorem okx_place_in (T : Txt K mg w base) : ∃ fd, FunD K d_place_in.name d_place_in.qual d_place_in.params d_place_in.body d_place_in.scope (d_place_in.dvs K) (d_place_in.kws K) (He.fAd K d_place_in.at_) fd ∧ FnOk P w K mg base (L2.CX P w) 5 (He.fAd K d_place_in.at_) fd ["marks", "mark"] (spx_place_in K) := by
  obtain ⟨fd, F⟩ := T.f_place_in
  refine ⟨fd, F, ?_⟩
  have sc := (show FnScope ["marks", "mark", "low", "high", "middle"] ["marks", "mark"] (defScope s_place_in) from ⟨rfl, rfl, rfl, by decide +kernel, rfl, by decide +kernel, by decide +kernel⟩)
  refine F.ok sc (fun vs H Q E h => ?_) (fun cdv A outer s H vs Q E hr h => ?_)
  · obtain ⟨p, x, b, xs, ms, j, rfl, sr, ml, hl, fw, k⟩ := h; rfl
  obtain ⟨p, x, b, xs, ms, j, rfl, sr, ml, hl, fw, k⟩ := h
  have hu := hr.units
  have tk : Takes (cxOf (L2.CX P w) P w K mg base ["marks", "mark", "low", "high", "middle"] d_place_in.qual d_place_in.scope (He.fAd K d_place_in.at_) cdv A outer s H E) (fun cls d _ H' => E cls d H') := takes_of rfl rfl rfl rfl
  refine ⟨_, (pss_cons (ps_expr (U.pe_cX (cx_need_rising T) tk hr (by decide) rfl (pa_cons (pv 0) pa_nil)))
  (pss_cons (ps_set (i := 2) sc.nd rfl (by first | exact Or.inl rfl | exact Or.inr rfl) pe_int)
  (pss_cons (ps_set (i := 3) sc.nd rfl (by first | exact Or.inl rfl | exact Or.inr rfl) (pe_callB (U.cu_len (K := K)) (by rfl) T.b_len (by decide +kernel) (pa_cons (pv 0) pa_nil)))
  (pss_cons (ps_while (passes_of rfl) (pt_cmpR (U.ou_ltD (K := K) hu) (pv 2) (pv 3) (nomark _)) (pss_cons (ps_set (i := 4) sc.nd rfl (by first | exact Or.inl rfl | exact Or.inr rfl) (pe_op U.ou_fdiv (pe_op (U.ou_add (K := K)) (pv 2) (pv 3)) pe_int))
    (pss_one (ps_if (pt_val (C8.pe_mt (c_m_ahead T) hr (by decide) (pe_ix (U.xu (K := K)) (pv 0) (pv 4) (fun _ _ => rfl)) (pa_cons (pv 1) pa_nil))) (pss_one (ps_set (i := 2) sc.nd rfl (by first | exact Or.inl rfl | exact Or.inr rfl) (pe_op (U.ou_add (K := K)) (pv 4) pe_int))) (pss_one (ps_set (i := 3) sc.nd rfl (by first | exact Or.inl rfl | exact Or.inr rfl) (pv 4)))))))
  (pss_one (ps_ret (pe_tup (pa_cons (pv 2) (pa_cons (pe_and (pe_cmpR (U.ou_ltD (K := K) hu) (pv 2) (pe_callB (U.cu_len (K := K)) (by rfl) T.b_len (by decide +kernel) (pa_cons (pv 0) pa_nil)) (nomark _)) (pe_one (pe_cmpR (U.ou_eqO (K := K) hu (c_m_eq T) hr (by decide)) (pe_ix (U.xu (K := K)) (pv 0) (pv 2) (fun _ _ => rfl)) (pv 1) (nomark _)))) pa_nil))))))))), ?_⟩
  walk_at "ust0"
  walk_at "ugo"
  exact ⟨p, b, xs, ms, rfl, sr, ml, hl, .inr ⟨j, fw, k⟩⟩
theorem cx_place_in (T : Txt K mg w base) : CalX P w K mg base 5 "place_in" (U.spO (sp_place_in K) (spx_place_in K)) [] := by
  obtain ⟨fd, F, ok⟩ := ok_place_in (P := P) (w := w) (base := base) T
  obtain ⟨fd', F', ok'⟩ := okx_place_in (P := P) (w := w) (base := base) T
  obtain rfl := U.funD_inj F F'
  exact ⟨_, fd, _, [], U.fn_or ok ok', T.g_place_in, F.kp, F.bindsN fun _ _ _ _ _ _ us hl => match us, hl with | [_, _], _ => rfl, .nil⟩

end
end T

namespace T
open PySem PySem.Spec PyProof.Rows L2 U
open SX (S)
variable [QN]
section
variable {P : Program} {w : World} {K : PySem.W.Frag} {mg : PySem.Str → Option Value} {base : Heap}
instance {H : Hp} {Q : VK} {E : XK} {c : Int} : Go (sp_law_pool [.int c] H Q E) (∀ p H', Nw H p → Ex H H' → PL H' p → Q (.ref p) H') := ⟨fun k => ⟨c, rfl, k⟩⟩
instance {H : Hp} {Q : VK} {E : XK} {q p : Addr} {at_ : Nat} {m : Pt} [pt : PtL H q m] [pl : PL H p] : Go (sp_law_near [.ref q, .int (at_ : Int), .ref p] H Q E) (Sd m.Ok (Sd m.Sm (Sd (at_ < 6) (∀ r m' H', Nw H r → PtN H H' r m' → m'.Ok → m'.Sm → Mu H p H' → PL H' p → Q (.ref r) H')))) := ⟨fun k => ⟨q, p, at_, m, rfl, pt, k.1, k.2.1, pl, k.2.2.1, k.2.2.2⟩⟩
/-- a row: its grade, its parts, its side -/
def RwR (K : PySem.W.Frag) (H : Hp) (r x : Addr) (z : Pt × Nat) : Prop := ∃ kp q, TM H x [.ref kp, .ref q, .int (z.2 : Int)] ∧ KyR K H kp z.1 ∧ PtR H r q z.1
class RwRs (K : outParam PySem.W.Frag) (H : Hp) (r : outParam Addr) (xs : List V) (zs : outParam (List (Pt × Nat))) : Prop where
  al : AL (RwR K H r) xs zs
theorem ptr_ex {H H' : Hp} {r q : Addr} {m : Pt} [e : Ex H H'] (g : PtR H r q m) : PtR H' r q m := by
  obtain ⟨b, l1, l2, n⟩ := g
  exact ⟨b, inferInstance, inferInstance, n⟩
theorem ptr_pl {H H' : Hp} {p r q : Addr} {m : Pt} [e : Mu H p H'] [pl : PL H p] (g : PtR H r q m) : PtR H' r q m := by
  obtain ⟨b, l1, l2, n⟩ := g
  obtain ⟨n1, n2⟩ := ptl_ne pl l1 l2
  exact ⟨b, ⟨e.mu.b n1 l1.lm nt_l⟩, ⟨e.mu.b n2 l2.lm nt_l⟩, n⟩
theorem ptr_mu {H H' : Hp} {r q : Addr} {m : Pt} (e : Mu H r H') (g : PtR H r q m) : PtR H' r q m := by
  obtain ⟨b, l1, l2, n, n1, n2⟩ := g
  exact ⟨b, ⟨e.mu.b n1 l1.lm nt_l⟩, ⟨e.mu.b n2 l2.lm nt_l⟩, n, n1, n2⟩
theorem dpa_str {H H' : Hp} : ∀ (l : List (List Nat)) (vs : List V), DpAll K H vs (l.map fun a => PyData.str (S a)) → DpAll K H' vs (l.map fun a => PyData.str (S a))
  | [], _, h => by
    cases h
    exact .nil
  | a :: l, _, h => by
    cases h with
    | cons h1 h2 =>
      cases h1
      exact .cons (.str _) (dpa_str l _ h2)
instance {H H' : Hp} {p q : Addr} {m : Pt} [e : Mu H p H'] [h : KyR K H q m] : KyR K H' q m := ⟨by
  have d := h.dp
  unfold Pt.key at d ⊢
  cases d with
  | tup hs ha =>
    cases ha with
    | cons h1 ha =>
    cases ha with
    | cons h2 ha =>
    cases ha with
    | cons h3 ha =>
    cases ha with
    | cons h4 ha =>
    cases ha with
    | cons h5 ha =>
    cases ha with
    | cons h6 ha =>
    cases ha
    cases h1
    cases h2
    cases h3
    cases h5
    cases h6
    cases h4 with
    | tup hs' ha' =>
      haveI t1 : TR K H q _ := ⟨hs⟩
      rename_i t _
      haveI t2 : TR K H t _ := ⟨hs'⟩
      exact .tup (inferInstance : TR K H' q _).tr (.cons (.str _) (.cons (.int _) (.cons (.str _) (.cons (.tup (inferInstance : TR K H' t _).tr (dpa_str _ _ ha')) (.cons (.int _) (.cons (.int _) .nil))))))⟩
instance {H H' : Hp} {r : Addr} {xs : List V} {ms : List (Pt × Nat)} [e : Ex H H'] [h : RwRs K H r xs ms] : RwRs K H' r xs ms := ⟨al_mono h.al fun x m _ g => by
  obtain ⟨kp, q, t, ky, pr⟩ := g
  exact ⟨kp, q, inferInstance, inferInstance, ptr_ex pr⟩⟩
instance {H H' : Hp} {p r : Addr} {xs : List V} {ms : List (Pt × Nat)} [e : Mu H p H'] [pl : PL H p] [h : RwRs K H r xs ms] : RwRs K H' r xs ms := ⟨al_mono h.al fun x m _ g => by
  obtain ⟨kp, q, t, ky, pr⟩ := g
  exact ⟨kp, q, inferInstance, inferInstance, ptr_pl pr⟩⟩
theorem rwrs_mu {H H' : Hp} {r : Addr} {xs : List V} {ms : List (Pt × Nat)} (h : AL (RwR K H r) xs ms) (e : Mu H r H') : AL (RwR K H' r) xs ms := al_mono h fun x m _ g => by
  obtain ⟨kp, q, t, ky, pr⟩ := g
  exact ⟨kp, q, inferInstance, inferInstance, ptr_mu e pr⟩
/-- the last grade -/
def LoR (K : PySem.W.Frag) (H : Hp) (v : V) : Option Pt → Prop
  | none => v = .non
  | some m => ∃ kp, v = .ref kp ∧ KyR K H kp m
theorem lo_ex {H H' : Hp} {v : V} (e : Ex H H') : ∀ {o : Option Pt}, LoR K H v o → LoR K H' v o
  | none, h => h
  | some _, ⟨kp, e1, ky⟩ => ⟨kp, e1, inferInstance⟩
theorem ne_lo {H : Hp} {kp : Addr} {v : V} {m : Pt} {lo : Option Pt} {Q : VK} [ky : KyR K H kp m] (h : LoR K H v lo) (ok : m.Ok) (oks : ∀ l, lo = some l → l.Ok) (k : Q (.bl (!decide (lo = some m))) H) : uNe K (.ref kp) v H Q := by
  cases lo with
  | none =>
    obtain rfl : v = .non := h
    exact .inr ⟨_, _, ky.dp, .non, key_shaped ok, sh_non, k⟩
  | some l =>
    obtain ⟨kq, rfl, kl⟩ := h
    have e : decide (m = l) = decide (some l = some m) := by simp [eq_comm]
    exact .inr ⟨_, _, ky.dp, kl.dp, key_shaped ok, key_shaped (oks l rfl), by rw [key_eqv_dec ok (oks l rfl), e]; exact k⟩
theorem srtK_pw {α : Type} (f : α → Pt) (ms : List α) : (ms.mergeSort (PySem.W.dataLe false fun a => (f a).key)).Pairwise fun x y => (f y).lt (f x) = false := by
  have T := PySem.W.sortLe_total (listOrd itemOrd) false fun a : α => PySem.W.keyToks (f a).key
  refine (List.pairwise_mergeSort (le := PySem.W.dataLe false fun a => (f a).key) (fun x y z => T.trans x y z) (fun x y => Bool.or_eq_true_iff.mpr (T.total x y)) ms).imp fun {x y} h => ?_
  have h : (!(f y).lt (f x)) = true := h
  simpa using h
theorem rise_snoc {ms : List Pt} {m : Pt} (h : Rise ms) (g : ∀ a ∈ ms, a.lt m = true) : Rise (ms ++ [m]) := List.pairwise_append.mpr ⟨h, List.pairwise_singleton _ _, fun a ha b hb => by
  rw [List.mem_singleton.mp hb]
  exact g a ha⟩
def sp_law_sides (K : PySem.W.Frag) : Sp := fun vs H Q _ => ∃ (a : Addr) (ns : List Int) (n : Nat), vs = [.ref a, .int (n : Int)] ∧ SqL K H a (ns.map V.int) ∧ ns.length ≤ 1000 ∧ n ≤ 1000 ∧ TbR H ∧ ∀ r s0 s1 s2 x0 x1 x2 m0 m1 m2 H', Ex H H' → LM H' r [.ref s0, .ref s1, .ref s2] → LM H' s0 x0 → LM H' s1 x1 → LM H' s2 x2 → PtLs H' x0 m0 → PtLs H' x1 m1 → PtLs H' x2 m2 → Rise m0 → Rise m1 → Rise m2 → Gs m0 → Gs m1 → Gs m2 → m0.length ≤ 50 → m1.length ≤ 50 → m2.length ≤ n → Q (.ref r) H'
theorem ok_law_sides (T : Txt K mg w base) : ∃ fd, FunD K d_law_sides.name d_law_sides.qual d_law_sides.params d_law_sides.body d_law_sides.scope (d_law_sides.dvs K) (d_law_sides.kws K) (He.fAd K d_law_sides.at_) fd ∧ FnOk P w K mg base C8.CX0 6 (He.fAd K d_law_sides.at_) fd ["script", "count"] (sp_law_sides K) := by
  obtain ⟨fd, F⟩ := T.f_law_sides
  refine ⟨fd, F, ?_⟩
  have sc := (show FnScope ["script", "count", "rows", "cell", "pool", "side", "near", "which", "at", "parts", "sides", "last", "grade"] ["script", "count"] (defScope s_law_sides) from ⟨rfl, rfl, rfl, by decide +kernel, rfl, by decide +kernel, by decide +kernel⟩)
  refine U.funD_okC F sc (fun vs H Q E h => ?_) (fun cdv A outer s H vs Q E hcd hr h => ?_)
  · obtain ⟨a, ns, n, rfl, sq, hl, hn, tb, k⟩ := h; rfl
  obtain ⟨a, ns, n, rfl, sq, hl, hn, tb, k⟩ := h
  have hu := hr.units
  refine ⟨_, PSs.nox (pss_cons (ps_set (i := 2) sc.nd rfl (by first | exact Or.inl rfl | exact Or.inr rfl) (pe_lst pa_nil))
  (pss_cons (ps_for PassesOwn.never rfl (U.pi_list' (K := K) (C8.pe_c (c_law_cells T) hr (by decide) rfl (pa_cons (pv 0) (pa_cons (pv 1) pa_nil)))) (pg_name (i := 3) sc.nd rfl (by first | exact Or.inl rfl | exact Or.inr rfl)) (pss_cons (ps_set (i := 4) sc.nd rfl (by first | exact Or.inl rfl | exact Or.inr rfl) (C8.pe_c (c_law_pool T) hr (by decide) rfl (pa_cons (pv 3) pa_nil)))
    (pss_cons (ps_set (i := 5) sc.nd rfl (by first | exact Or.inl rfl | exact Or.inr rfl) (C8.pe_c (c_law_take T) hr (by decide) rfl (pa_cons (pv 4) (pa_cons pe_int pa_nil))))
    (pss_cons (ps_set (i := 6) sc.nd rfl (by first | exact Or.inl rfl | exact Or.inr rfl) (C8.pe_c (c_law_take T) hr (by decide) rfl (pa_cons (pv 4) (pa_cons pe_int pa_nil))))
    (pss_cons (ps_set (i := 7) sc.nd rfl (by first | exact Or.inl rfl | exact Or.inr rfl) (C8.pe_c (c_law_take T) hr (by decide) rfl (pa_cons (pv 4) (pa_cons pe_int pa_nil))))
    (pss_cons (ps_set (i := 8) sc.nd rfl (by first | exact Or.inl rfl | exact Or.inr rfl) (C8.pe_c (c_law_take T) hr (by decide) rfl (pa_cons (pv 4) (pa_cons pe_int pa_nil))))
    (pss_cons (ps_set (i := 9) sc.nd rfl (by first | exact Or.inl rfl | exact Or.inr rfl) (C8.pe_c (c_law_parts T) hr (by decide) rfl (pa_cons (pv 4) pa_nil)))
    (C8.pss_cut (ps_if (PW.pt (pw_and (pt_cmpR (U.ou_ne0 (K := K) hu) (pv 2) (pe_lst pa_nil) (nomark _)) (pw_and1 (pt_cmpR (U.ou_eq (K := K) hu) (pv 6) pe_int (nomark _))))) (pss_one (ps_set (i := 9) sc.nd rfl (by first | exact Or.inl rfl | exact Or.inr rfl) (C8.pe_c (c_law_near T) hr (by decide) rfl (pa_cons (pe_ix (U.xu (K := K)) (pe_ix (U.xu (K := K)) (pv 2) (pe_op U.ou_mod (pv 7) (pe_callB (U.cu_len (K := K)) (by rfl) T.b_len (by decide +kernel) (pa_cons (pv 2) pa_nil))) (fun _ _ => rfl)) pe_int (fun _ _ => rfl)) (pa_cons (pv 8) (pa_cons (pv 4) pa_nil)))))) pss_nil)
    (pss_one (ps_expr (pe_bm PySem.F.plainAttrs_list PySem.F.slot_list_append PySem.F.type_list_append mt_append (pv 2) (pa_cons (pe_tup (pa_cons (C8.pe_c (c_law_key T) hr (by decide) rfl (pa_cons (pv 9) pa_nil)) (pa_cons (pv 9) (pa_cons (pv 5) pa_nil)))) pa_nil))))))))))))
  (pss_cons (ps_set (i := 10) sc.nd rfl (by first | exact Or.inl rfl | exact Or.inr rfl) (pe_lst (pa_cons (pe_lst pa_nil) (pa_cons (pe_lst pa_nil) (pa_cons (pe_lst pa_nil) pa_nil)))))
  (pss_cons (ps_set (i := 11) sc.nd rfl (by first | exact Or.inl rfl | exact Or.inr rfl) pe_non)
  (pss_cons (ps_for PassesOwn.never rfl (U.pi_list' (K := K) (U.pe_sortL (K := K) (N := ["row"]) (y := "row") (k := 2) (by rfl) T.b_sorted (pa_cons (pv 2) pa_nil) T.tq_law_sides (show _ = _ from hcd) T.tm_law_sides T.tu_law_sides hr (by decide) ⟨rfl, rfl, rfl, by decide +kernel, rfl, by decide +kernel, by decide +kernel⟩ (fun A outer s H f c' hr => have hu := hr.units; (pe_ix (U.xu (K := K)) (pv 0) pe_int (fun _ _ => rfl))))) (U.pg_tup' (K := K) (n := 3) rfl (pgs_cons (pg_name (i := 12) sc.nd rfl (by first | exact Or.inl rfl | exact Or.inr rfl)) (pgs_cons (pg_name (i := 9) sc.nd rfl (by first | exact Or.inl rfl | exact Or.inr rfl)) (pgs_cons (pg_name (i := 5) sc.nd rfl (by first | exact Or.inl rfl | exact Or.inr rfl)) pgs_nil)))) (pss_cons (ps_if (pt_cmpR (U.ou_ne (K := K) hu) (pv 12) (pv 11) (nomark _)) (pss_cons (ps_if (pt_cmpR (U.ou_eq (K := K) hu) (pv 5) pe_int (nomark _)) (pss_one (ps_expr (pe_bm PySem.F.plainAttrs_list PySem.F.slot_list_append PySem.F.type_list_append mt_append (pe_ix (U.xu (K := K)) (pv 10) pe_int (fun _ _ => rfl)) (pa_cons (pv 9) pa_nil)))) pss_nil)
    (pss_cons (ps_if (PW.pt (pw_and (pt_cmpR (U.ou_ne (K := K) hu) (pv 5) pe_int (nomark _)) (pw_and (pt_cmpR (U.ou_ne (K := K) hu) (pv 5) pe_int (nomark _)) (pw_and1 (pt_cmpR (U.ou_ltD (K := K) hu) (pe_callB (U.cu_len (K := K)) (by rfl) T.b_len (by decide +kernel) (pa_cons (pe_ix (U.xu (K := K)) (pv 10) pe_int (fun _ _ => rfl)) pa_nil)) pe_int (nomark _)))))) (pss_one (ps_expr (pe_bm PySem.F.plainAttrs_list PySem.F.slot_list_append PySem.F.type_list_append mt_append (pe_ix (U.xu (K := K)) (pv 10) pe_int (fun _ _ => rfl)) (pa_cons (pv 9) pa_nil)))) pss_nil)
    (pss_one (ps_if (PW.pt (pw_and (pt_cmpR (U.ou_ne (K := K) hu) (pv 5) pe_int (nomark _)) (pw_and (pt_cmpR (U.ou_ne (K := K) hu) (pv 5) pe_int (nomark _)) (pw_and1 (pt_cmpR (U.ou_ltD (K := K) hu) (pe_callB (U.cu_len (K := K)) (by rfl) T.b_len (by decide +kernel) (pa_cons (pe_ix (U.xu (K := K)) (pv 10) pe_int (fun _ _ => rfl)) pa_nil)) pe_int (nomark _)))))) (pss_one (ps_expr (pe_bm PySem.F.plainAttrs_list PySem.F.slot_list_append PySem.F.type_list_append mt_append (pe_ix (U.xu (K := K)) (pv 10) pe_int (fun _ _ => rfl)) (pa_cons (pv 9) pa_nil)))) pss_nil)))) pss_nil)
    (pss_one (ps_set (i := 11) sc.nd rfl (by first | exact Or.inl rfl | exact Or.inr rfl) (pv 12)))))
  (pss_one (ps_ret (pv 10)))))))), ?_⟩
  walk_at "ust0"
  haveI : LR K H a (ns.map V.int) := ⟨sq⟩
  walk_at "ugo"
  refine al_l fun r H1 nw1 ex1 lm1 => ?_
  walk_at "ugo"
  intro c cs H2 nw2 ex2 lm2 hcs
  walk_at "ugo"
  have hcl : (cs.map V.int).length = cs.length := List.length_map ..
  have nwr : Nw H r := nw1
  refine for_l (xs := cs.map V.int) (fun i σ H' => ∃ xs zs, (∃ o1 o2 o3 o4 o5 o6 o7, σ = [some (.ref a), some (.int (n : Int)), some (.ref r), o1, o2, o3, o4, o5, o6, o7, none, none, none]) ∧ Et H H' ∧ LR K H' c (cs.map V.int) ∧ LM H' r xs ∧ RwRs K H' r xs zs ∧ (∀ z ∈ zs, z.1.Ok ∧ z.1.Sm) ∧ zs.length = i) ⟨[], [], ⟨_, _, _, _, _, _, _, rfl⟩, inferInstance, inferInstance, inferInstance, ⟨al_nil⟩, (fun m hm => by cases hm), rfl⟩ (fun i σ H' hi h => ?_) (fun i x σ H' hi hx h => ?_) (fun σ H' h => ?_)
  · obtain ⟨xs, ms, _, _, h, _⟩ := h
    exact h.lr
  · obtain ⟨xs, zs, ⟨o1, o2, o3, o4, o5, o6, o7, rfl⟩, et, lc, lr, pr, gs, hms⟩ := h
    have hxl := pr.al.len
    obtain ⟨cell, rfl⟩ : ∃ z, x = V.int z := by
      obtain ⟨z, _, e⟩ := List.mem_map.mp (List.mem_of_getElem? hx)
      exact ⟨z, e.symm⟩
    walk_at "ugo"
    intro p H3 nw3 ex3 pl3
    walk_at "ugo"
    intro side H4 hside m4 p4
    walk_at "ugo"
    intro near H5 hnear m5 p5
    walk_at "ugo"
    intro which H6 hwhich m6 p6
    walk_at "ugo"
    intro at_ H7 hat m7 p7
    walk_at "ugo"
    intro q m H8 nw8 pt8 ok8 sm8 m8 p8
    have lr8 : LM H8 r xs := inferInstance
    have pr8 : RwRs K H8 r xs zs := inferInstance
    have lc8 : LR K H8 c (cs.map V.int) := inferInstance
    have et8 : Et H H8 := inferInstance
    have mk8 : PtR H8 r q m := ptr_n (inferInstance : LM H7 r xs) nw8 pt8
    let Mid : L2.St → Hp → Prop := fun σ H' => ∃ q m, σ = [some (.ref a), some (.int (n : Int)), some (.ref r), some (.int cell), some (.ref p), some (.int (side : Int)), some (.int (near : Int)), some (.int (which : Int)), some (.int (at_ : Int)), some (.ref q), none, none, none] ∧ Et H H' ∧ LR K H' c (cs.map V.int) ∧ LM H' r xs ∧ RwRs K H' r xs zs ∧ PtR H' r q m ∧ m.Ok ∧ m.Sm
    walk_at "ugo"
    refine cut_ Mid ?_ (fun σ H' h => ?_)
    · walk_at "ugo"
      refine al_l fun l8 H9 nw9 ex9 lm9 => ?_
      walk_at "ugo"
      have stay : Mid [some (.ref a), some (.int (n : Int)), some (.ref r), some (.int cell), some (.ref p), some (.int (side : Int)), some (.int (near : Int)), some (.int (which : Int)), some (.int (at_ : Int)), some (.ref q), none, none, none] H9 := ⟨q, m, rfl, inferInstance, inferInstance, inferInstance, inferInstance, ptr_ex mk8, ok8, sm8⟩
      cases he : xs.isEmpty with
      | true =>
        walk_at "ugo"
        exact stay
      | false =>
        have hp : 0 < xs.length := by
          cases xs with
          | nil => cases he
          | cons _ _ => simp
        walk_at "ugo"
        refine br2 (fun h => ?_) (fun h => ?_)
        · have h1 := Int.emod_nonneg (which : Int) (b := ((xs.length : Nat) : Int)) (by omega)
          have h2 := Int.emod_lt_of_pos (which : Int) (b := ((xs.length : Nat) : Int)) (by omega)
          obtain ⟨j, hj⟩ : ∃ j : Nat, (which : Int) % ((xs.length : Nat) : Int) = (j : Int) := ⟨_, (Int.toNat_of_nonneg h1).symm⟩
          have hjm : zs[j]? = some zs[j] := List.getElem?_eq_getElem (by omega)
          have pr9 : RwRs K H9 r xs zs := inferInstance
          obtain ⟨x', e1, kp, q', tm', ky', pt'⟩ := al_at pr9.al hjm
          have g := gs _ (List.mem_of_getElem? hjm)
          haveI : PtL H9 q' _ := ptr_l pt'
          have hat6 : at_ < 6 := by omega
          have okz := g.1
          have smz := g.2
          walk_at "ugo"
          rw [hj]
          refine ix_is (atI_nat e1) ?_
          walk_at "ugo"
          refine ix_is (i := ((1 : Nat) : Int)) (atI_nat rfl) ?_
          walk_at "ugo"
          intro q9 m9' H10 nw10 pt10 ok10 sm10 m10 p10
          walk_at "ugo"
          have lr10 : LM H10 r xs := inferInstance
          exact ⟨q9, m9', rfl, inferInstance, inferInstance, lr10, inferInstance, ptr_n (inferInstance : LM H9 r xs) nw10 pt10, ok10, sm10⟩
        · walk_at "ugo"
          exact stay
    obtain ⟨q, m, rfl, et, lc, lr, pr, mk, ok, sm⟩ := h
    haveI := ptr_l mk
    walk_at "ugo"
    intro kp H9 e9 ky9
    walk_at "ugo"
    refine al_t' fun t H10 nw10 ex10 tm10 => ?_
    walk_at "ugo"
    refine mu_l' fun H11 m11 l11 => ?_
    have pr10 : RwRs K H10 r xs zs := inferInstance
    have al10 : AL (RwR K H10 r) (xs ++ [.ref t]) (zs ++ [(m, side)]) := al_snoc pr10.al ⟨kp, q, tm10, inferInstance, ptr_ex (H := H9) (ptr_ex (H := H') mk)⟩
    exact ⟨xs ++ [.ref t], zs ++ [(m, side)], ⟨_, _, _, _, _, _, _, rfl⟩, inferInstance, inferInstance, l11, ⟨rwrs_mu al10 m11⟩, (fun m' hm' => by
      rcases List.mem_append.mp hm' with h | h
      · exact gs m' h
      · rw [List.mem_singleton.mp h]; exact ⟨ok, sm⟩), by rw [List.length_append, List.length_singleton, hms]⟩
  · obtain ⟨xs, zs, ⟨o1, o2, o3, o4, o5, o6, o7, rfl⟩, et, lc, lr, pr, gs, hms⟩ := h
    have hzl := pr.al.len
    have hn2 : zs.length = n := by omega
    walk_at "ugo"
    refine al_l fun s0 A0 nwa0 exa0 lma0 => ?_
    walk_at "ugo"
    refine al_l fun s1 A1 nwa1 exa1 lma1 => ?_
    walk_at "ugo"
    refine al_l fun s2 A2 nwa2 exa2 lma2 => ?_
    walk_at "ugo"
    refine al_l fun rr A3 nwa3 exa3 lma3 => ?_
    walk_at "ugo"
    haveI : TbR A3 := tb_et (H := H)
    refine sortL_of (.inl (inferInstance : LR K A3 r xs).lr) zs (fun z => z.1.key) hzl (fun m _ m' _ => key_alike m.1 m'.1) (fun m => key_tup m.1) (fun m => Nat.le_trans (key_depth m.1) (by decide)) (fun v z H4 hv e R hR => ?_) (fun q zs' B nw ex pm eL lmq => ?_)
    · obtain ⟨x, e1, kp, q, tm, ky, pt⟩ := pr.al.all (v, z) hv
      have e1 : v = .ref x := e1
      subst e1
      haveI x3 : Ex H' A3 := ⟨Et.et⟩
      walk_at "ust0"
      walk_at "ugo"
      refine ix_is (i := ((0 : Nat) : Int)) (atI_nat rfl) ?_
      exact hR _ _ ⟨kp_rfl⟩ (inferInstance : KyR K H4 kp z.1).dp
    · have al2 : AL (RwR K H' r) (zs'.map (·.1)) (zs'.map (·.2)) := al_perm pr.al pm
      have pw : (zs'.map (·.2)).Pairwise fun x y => y.1.lt x.1 = false := by
        rw [← eL]
        exact srtK_pw (fun z : Pt × Nat => z.1) zs
      have hzs : zs'.length = zs.length := by
        have := pm.length_eq
        rw [List.length_zip] at this
        omega
      have gs2 : ∀ z ∈ zs'.map (·.2), z.1.Ok ∧ z.1.Sm := fun z hz => by
        obtain ⟨y, hy, rfl⟩ := List.mem_map.mp hz
        exact gs _ (List.of_mem_zip (pm.mem_iff.mp hy)).2
      have hx1 : (zs'.map (·.1)).length = zs'.length := List.length_map ..
      have hx2 : (zs'.map (·.2)).length = zs'.length := List.length_map ..
      generalize zs'.map (·.1) = vs' at lmq al2 hx1
      generalize zs'.map (·.2) = L at al2 pw gs2 hx2
      walk_at "ugo"
      refine for_l (xs := vs') (fun i σ Hc => ∃ x0 x1 x2 m0 m1 m2 lo vl, (∃ p5 p9 p12, σ = [some (.ref a), some (.int (n : Int)), some (.ref r), o1, o2, p5, o4, o5, o6, p9, some (.ref rr), some vl, p12]) ∧ LoR K H' vl lo ∧ Et H' Hc ∧ LM Hc q vs' ∧ LM Hc rr [.ref s0, .ref s1, .ref s2] ∧ LM Hc s0 x0 ∧ LM Hc s1 x1 ∧ LM Hc s2 x2 ∧ AL (PtL H') x0 m0 ∧ AL (PtL H') x1 m1 ∧ AL (PtL H') x2 m2 ∧ (Rise m0 ∧ Rise m1 ∧ Rise m2) ∧ (Gs m0 ∧ Gs m1 ∧ Gs m2) ∧ (m0.length ≤ 50 ∧ m1.length ≤ 50 ∧ m2.length ≤ i) ∧ (∀ b, (b ∈ m0 ∨ b ∈ m1 ∨ b ∈ m2) → ∃ l, lo = some l ∧ (b = l ∨ b.lt l = true)) ∧ ∀ l, lo = some l → l.Ok ∧ ∀ j z, i ≤ j → L[j]? = some z → z.1.lt l = false) ⟨[], [], [], [], [], [], none, .non, ⟨_, _, _, rfl⟩, rfl, inferInstance, inferInstance, inferInstance, inferInstance, inferInstance, inferInstance, al_nil, al_nil, al_nil, ⟨.nil, .nil, .nil⟩, ⟨(fun m hm => by cases hm), (fun m hm => by cases hm), (fun m hm => by cases hm)⟩, by simp, (fun b hb => by simp at hb), fun l hl => by cases hl⟩ (fun i σ Hc hi h => ?_) (fun i x σ Hc hi hx h => ?_) (fun σ Hc h => ?_)
      · obtain ⟨x0, x1, x2, m0, m1, m2, lo, vl, _, _, _, lq, _⟩ := h
        exact (inferInstance : LR K Hc q vs').lr
      · obtain ⟨x0, x1, x2, m0, m1, m2, lo, vl, ⟨p5, p9, p12, rfl⟩, lov, et', lq, lrr, l0, l1, l2, al0, al1, al2', ⟨r0, r1, r2⟩, ⟨g0, g1, g2⟩, ⟨c0, c1, c2⟩, hb, hlo⟩ := h
        haveI exc : Ex H' Hc := ⟨et'.et⟩
        obtain ⟨x, ⟨m, sd⟩, rfl, hz, kp, pq, tm, ky, pt⟩ := al_at' al2 hx
        have hz2 := gs2 _ (List.mem_of_getElem? hz)
        have okm : m.Ok := hz2.1
        have hiL : i < L.length := (List.getElem?_eq_some_iff.mp hz).1
        have pwi : ∀ j z, i + 1 ≤ j → L[j]? = some z → z.1.lt m = false := fun j z hj hzj => by
          obtain ⟨g1, g2⟩ := List.getElem?_eq_some_iff.mp hzj
          obtain ⟨g3, g4⟩ := List.getElem?_eq_some_iff.mp hz
          have := List.pairwise_iff_getElem.mp pw i j g3 g1 (by omega)
          rw [g2, g4] at this
          exact this
        have pre : lo ≠ some m → ∀ b, (b ∈ m0 ∨ b ∈ m1 ∨ b ∈ m2) → b.lt m = true := fun hne b hbm => by
          obtain ⟨l, e1, e2⟩ := hb b hbm
          obtain ⟨okl, hl2⟩ := hlo l e1
          have h1 : m.lt l = false := hl2 i (m, sd) (Nat.le_refl _) hz
          have h2 : l.lt m = true := by
            cases h2 : l.lt m with
            | true => rfl
            | false => exact absurd (by rw [e1, lt_total okl okm h2 h1]) hne
          rcases e2 with rfl | e2
          · exact h2
          · exact lt_trans e2 h2
        have hside : (V.int (sd : Int)) = V.int ((sd : Nat) : Int) := rfl
        have fin : ∀ (lo' : Bool) Hd x0' x1' x2' m0' m1' m2', lo' = decide (lo = some m) → Et H' Hd → LM Hd q vs' → LM Hd rr [.ref s0, .ref s1, .ref s2] → LM Hd s0 x0' → LM Hd s1 x1' → LM Hd s2 x2' → AL (PtL H') x0' m0' → AL (PtL H') x1' m1' → AL (PtL H') x2' m2' → (m0' = m0 ∨ lo' = false ∧ m0' = m0 ++ [m] ∧ m0.length < 50) → (m1' = m1 ∨ lo' = false ∧ m1' = m1 ++ [m] ∧ m1.length < 50) → (m2' = m2 ∨ lo' = false ∧ m2' = m2 ++ [m]) → ∀ p9', ∃ x0 x1 x2 m0 m1 m2 lo vl, (∃ p5 p9 p12, [some (.ref a), some (.int (n : Int)), some (.ref r), o1, o2, some (.int (sd : Int)), o4, o5, o6, p9', some (.ref rr), some (.ref kp), some (.ref kp)] = [some (.ref a), some (.int (n : Int)), some (.ref r), o1, o2, p5, o4, o5, o6, p9, some (.ref rr), some vl, p12]) ∧ LoR K H' vl lo ∧ Et H' Hd ∧ LM Hd q vs' ∧ LM Hd rr [.ref s0, .ref s1, .ref s2] ∧ LM Hd s0 x0 ∧ LM Hd s1 x1 ∧ LM Hd s2 x2 ∧ AL (PtL H') x0 m0 ∧ AL (PtL H') x1 m1 ∧ AL (PtL H') x2 m2 ∧ (Rise m0 ∧ Rise m1 ∧ Rise m2) ∧ (Gs m0 ∧ Gs m1 ∧ Gs m2) ∧ (m0.length ≤ 50 ∧ m1.length ≤ 50 ∧ m2.length ≤ i + 1) ∧ (∀ b, (b ∈ m0 ∨ b ∈ m1 ∨ b ∈ m2) → ∃ l, lo = some l ∧ (b = l ∨ b.lt l = true)) ∧ ∀ l, lo = some l → l.Ok ∧ ∀ j z, i + 1 ≤ j → L[j]? = some z → z.1.lt l = false := by
          intro lo' Hd x0' x1' x2' m0' m1' m2' elo e1 e2 e3 f0 f1 f2 a0 a1 a2 d0 d1 d2 p9'
          have old : ∀ b, (b ∈ m0 ∨ b ∈ m1 ∨ b ∈ m2) → b = m ∨ b.lt m = true := fun b hbm => by
            by_cases hne : lo = some m
            · obtain ⟨l, e1, e2⟩ := hb b hbm
              rw [hne] at e1
              injection e1 with e1
              rw [e1]
              exact e2
            · exact .inr (pre hne b hbm)
          have nw' : lo' = false → lo ≠ some m := fun h h2 => by
            rw [elo, decide_eq_true h2] at h
            cases h
          have one : ∀ (mm mm' : List Pt) , (mm' = mm ∨ lo' = false ∧ mm' = mm ++ [m]) → (∀ b ∈ mm, b ∈ m0 ∨ b ∈ m1 ∨ b ∈ m2) → Rise mm → Gs mm → Rise mm' ∧ Gs mm' ∧ (∀ b ∈ mm', b = m ∨ b.lt m = true) ∧ mm'.length ≤ mm.length + 1 := by
            intro mm mm' h1 h2 h3 h4
            rcases h1 with rfl | ⟨h5, rfl⟩
            · exact ⟨h3, h4, fun b hb' => old b (h2 b hb'), by omega⟩
            · refine ⟨rise_snoc h3 fun b hb' => pre (nw' h5) b (h2 b hb'), fun b hb' => ?_, fun b hb' => ?_, by rw [List.length_append, List.length_singleton]; omega⟩
              · rcases List.mem_append.mp hb' with h | h
                · exact h4 b h
                · rw [List.mem_singleton.mp h]; exact hz2
              · rcases List.mem_append.mp hb' with h | h
                · exact old b (h2 b h)
                · exact .inl (List.mem_singleton.mp h)
          obtain ⟨u1, u2, u3, u4⟩ := one m0 m0' (d0.imp id fun h => ⟨h.1, h.2.1⟩) (fun b h => .inl h) r0 g0
          obtain ⟨v1, v2, v3, v4⟩ := one m1 m1' (d1.imp id fun h => ⟨h.1, h.2.1⟩) (fun b h => .inr (.inl h)) r1 g1
          obtain ⟨w1, w2, w3, w4⟩ := one m2 m2' d2 (fun b h => .inr (.inr h)) r2 g2
          refine ⟨x0', x1', x2', m0', m1', m2', some m, _, ⟨_, _, _, rfl⟩, ⟨kp, rfl, ky⟩, e1, e2, e3, f0, f1, f2, a0, a1, a2, ⟨u1, v1, w1⟩, ⟨u2, v2, w2⟩, ⟨?_, ?_, by omega⟩, fun b hbm => ⟨m, rfl, ?_⟩, fun l hl => ?_⟩
          · rcases d0 with rfl | ⟨_, rfl, h⟩
            · exact c0
            · rw [List.length_append, List.length_singleton]; omega
          · rcases d1 with rfl | ⟨_, rfl, h⟩
            · exact c1
            · rw [List.length_append, List.length_singleton]; omega
          · rcases hbm with h | h | h
            · exact u3 b h
            · exact v3 b h
            · exact w3 b h
          · injection hl with hl
            subst hl
            exact ⟨okm, pwi⟩
        haveI tmc : TM Hc x [.ref kp, .ref pq, .int (sd : Int)] := inferInstance
        haveI kyc : KyR K Hc kp m := inferInstance
        walk_at "ugo"
        refine ne_lo (lo_ex exc lov) okm (fun l hl => (hlo l hl).1) ?_
        walk_at "ugo"
        cases hdec : decide (lo = some m) with
        | true =>
          walk_at "ugo"
          exact fin true Hc x0 x1 x2 m0 m1 m2 hdec.symm inferInstance inferInstance inferInstance inferInstance inferInstance inferInstance al0 al1 al2' (.inl rfl) (.inl rfl) (.inl rfl) _
        | false =>
          walk_at "ugo"
          have al3 : ∀ {xs : List V} {ms : List Pt}, AL (PtL H') xs ms → AL (PtL H') (xs ++ [.ref pq]) (ms ++ [m]) := fun h => al_snoc h (ptr_l pt)
          have hx0 := al0.len
          have hx1' := al1.len
          have hx2' := al2'.len
          refine br2 (fun h3 => ?_) (fun h3 => ?_)
          · walk_at "ugo"
            refine ix_is (i := ((2 : Nat) : Int)) (atI_nat rfl) ?_
            walk_at "ugo"
            refine mu_l' fun H6 m6 l6 => ?_
            walk_at "ugo"
            refine brT (by omega) ?_
            walk_at "ugo"
            refine brT (by omega) ?_
            walk_at "ugo"
            exact fin false H6 x0 x1 _ m0 m1 _ hdec.symm inferInstance inferInstance inferInstance inferInstance inferInstance l6 al0 al1 (al3 al2') (.inl rfl) (.inl rfl) (.inr ⟨rfl, rfl⟩) _
          · -- the second list's turn
            walk_at "ugo"
            refine brF (by omega) ?_
            walk_at "ugo"
            refine br2 (fun h1 => ?_) (fun h1 => ?_)
            · walk_at "ugo"
              refine brF (by omega) ?_
              walk_at "ugo"
              refine brF (by omega) ?_
              walk_at "ugo"
              refine ix_is (i := ((1 : Nat) : Int)) (atI_nat rfl) ?_
              walk_at "ugo"
              refine br2 (fun h5 => ?_) (fun h5 => ?_)
              · walk_at "ugo"
                refine ix_is (i := ((1 : Nat) : Int)) (atI_nat rfl) ?_
                walk_at "ugo"
                refine mu_l' fun H7 m7 l7 => ?_
                walk_at "ugo"
                exact fin false H7 x0 _ x2 m0 _ m2 hdec.symm inferInstance inferInstance inferInstance inferInstance l7 inferInstance al0 (al3 al1) al2' (.inl rfl) (.inr ⟨rfl, rfl, by omega⟩) (.inl rfl) _
              · walk_at "ugo"
                exact fin false Hc x0 x1 x2 m0 m1 m2 hdec.symm inferInstance inferInstance inferInstance inferInstance inferInstance inferInstance al0 al1 al2' (.inl rfl) (.inl rfl) (.inl rfl) _
            · walk_at "ugo"
              refine ix_is (i := ((0 : Nat) : Int)) (atI_nat rfl) ?_
              walk_at "ugo"
              refine br2 (fun h5 => ?_) (fun h5 => ?_)
              · walk_at "ugo"
                refine ix_is (i := ((0 : Nat) : Int)) (atI_nat rfl) ?_
                walk_at "ugo"
                refine mu_l' fun H6 m6 l6 => ?_
                walk_at "ugo"
                refine brF (by omega) ?_
                walk_at "ugo"
                refine br2 (fun h0 => ?_) (fun h0 => ?_)
                · walk_at "ugo"
                  exact fin false H6 _ x1 x2 _ m1 m2 hdec.symm inferInstance inferInstance inferInstance l6 inferInstance inferInstance (al3 al0) al1 al2' (.inr ⟨rfl, rfl, by omega⟩) (.inl rfl) (.inl rfl) _
                · walk_at "ugo"
                  refine ix_is (i := ((1 : Nat) : Int)) (atI_nat rfl) ?_
                  walk_at "ugo"
                  refine br2 (fun h6 => ?_) (fun h6 => ?_)
                  · walk_at "ugo"
                    refine ix_is (i := ((1 : Nat) : Int)) (atI_nat rfl) ?_
                    walk_at "ugo"
                    refine mu_l' fun H7 m7 l7 => ?_
                    walk_at "ugo"
                    exact fin false H7 _ _ x2 _ _ m2 hdec.symm inferInstance inferInstance inferInstance inferInstance l7 inferInstance (al3 al0) (al3 al1) al2' (.inr ⟨rfl, rfl, by omega⟩) (.inr ⟨rfl, rfl, by omega⟩) (.inl rfl) _
                  · walk_at "ugo"
                    exact fin false H6 _ x1 x2 _ m1 m2 hdec.symm inferInstance inferInstance inferInstance l6 inferInstance inferInstance (al3 al0) al1 al2' (.inr ⟨rfl, rfl, by omega⟩) (.inl rfl) (.inl rfl) _
              · walk_at "ugo"
                refine brF (by omega) ?_
                walk_at "ugo"
                refine br2 (fun h0 => ?_) (fun h0 => ?_)
                · walk_at "ugo"
                  exact fin false Hc x0 x1 x2 m0 m1 m2 hdec.symm inferInstance inferInstance inferInstance inferInstance inferInstance inferInstance al0 al1 al2' (.inl rfl) (.inl rfl) (.inl rfl) _
                · walk_at "ugo"
                  refine ix_is (i := ((1 : Nat) : Int)) (atI_nat rfl) ?_
                  walk_at "ugo"
                  refine br2 (fun h6 => ?_) (fun h6 => ?_)
                  · walk_at "ugo"
                    refine ix_is (i := ((1 : Nat) : Int)) (atI_nat rfl) ?_
                    walk_at "ugo"
                    refine mu_l' fun H7 m7 l7 => ?_
                    walk_at "ugo"
                    exact fin false H7 x0 _ x2 m0 _ m2 hdec.symm inferInstance inferInstance inferInstance inferInstance l7 inferInstance al0 (al3 al1) al2' (.inl rfl) (.inr ⟨rfl, rfl, by omega⟩) (.inl rfl) _
                  · walk_at "ugo"
                    exact fin false Hc x0 x1 x2 m0 m1 m2 hdec.symm inferInstance inferInstance inferInstance inferInstance inferInstance inferInstance al0 al1 al2' (.inl rfl) (.inl rfl) (.inl rfl) _
      · obtain ⟨x0, x1, x2, m0, m1, m2, lo, vl, ⟨p5, p9, p12, rfl⟩, lov, et', lq, lrr, l0, l1, l2, al0, al1, al2', ⟨r0, r1, r2⟩, ⟨g0, g1, g2⟩, ⟨c0, c1, c2⟩, hb, hlo⟩ := h
        walk_at "ugo"
        exact k rr s0 s1 s2 x0 x1 x2 m0 m1 m2 Hc ⟨kp_tr et.et et'.et⟩ lrr l0 l1 l2 (ptls_et ⟨al0⟩ et'.et) (ptls_et ⟨al1⟩ et'.et) (ptls_et ⟨al2'⟩ et'.et) r0 r1 r2 g0 g1 g2 c0 c1 (by omega)
theorem c_law_sides (T : Txt K mg w base) : C8.Cal P w K mg base 6 "_law_sides" (sp_law_sides K) [] := by
  obtain ⟨fd, F, ok⟩ := ok_law_sides (P := P) (w := w) (base := base) T
  exact cal_n F T.g_law_sides (F.bindsN fun _ _ _ _ _ _ us hl => match us, hl with | [_, _], _ => rfl) ok
end
end T

namespace T
open PySem PySem.Spec PyProof.Rows L2 U
open SX (S)
variable [QN]
section
variable {P : Program} {w : World} {K : PySem.W.Frag} {mg : PySem.Str → Option Value} {base : Heap}
/-! ### rising lists are what they hold -/
theorem lt_irr {a : Pt} (h : a.lt a = true) : False := by
  have := lt_asymm h
  rw [h] at this
  cases this
theorem rise_ext : ∀ {a b : List Pt}, Rise a → Rise b → (∀ m, m ∈ a ↔ m ∈ b) → a = b
  | [], [], _, _, _ => rfl
  | [], y :: b, _, _, h => absurd ((h y).mpr (List.mem_cons_self ..)) (by simp)
  | x :: a, [], _, _, h => absurd ((h x).mp (List.mem_cons_self ..)) (by simp)
  | x :: a, y :: b, ha, hb, h => by
    have e : x = y := by
      rcases List.mem_cons.mp ((h x).mp (List.mem_cons_self ..)) with e | e
      · exact e
      · rcases List.mem_cons.mp ((h y).mpr (List.mem_cons_self ..)) with e' | e'
        · exact e'.symm
        · have h1 := List.rel_of_pairwise_cons ha e'
          have h2 := List.rel_of_pairwise_cons hb e
          rw [lt_asymm h1] at h2
          cases h2
    subst e
    congr 1
    refine rise_ext (List.pairwise_cons.mp ha).2 (List.pairwise_cons.mp hb).2 fun m => ?_
    constructor
    · intro hm
      rcases List.mem_cons.mp ((h m).mp (List.mem_cons_of_mem _ hm)) with e | e
      · subst e
        exact (lt_irr (List.rel_of_pairwise_cons ha hm)).elim
      · exact e
    · intro hm
      rcases List.mem_cons.mp ((h m).mpr (List.mem_cons_of_mem _ hm)) with e | e
      · subst e
        exact (lt_irr (List.rel_of_pairwise_cons hb hm)).elim
      · exact e
theorem jn_mem : ∀ (a b : List Pt) (m : Pt), m ∈ Jn a b ↔ m ∈ a ∨ m ∈ b
  | [], b, m => by simp [Jn]
  | x :: a, [], m => by simp [Jn]
  | x :: a, y :: b, m => by
    rw [Jn]
    split
    · rename_i e
      subst e
      rw [List.mem_cons, jn_mem a b m, List.mem_cons, List.mem_cons]
      constructor
      · rintro (h | h | h)
        · exact .inl (.inl h)
        · exact .inl (.inr h)
        · exact .inr (.inr h)
      · rintro ((h | h) | (h | h))
        · exact .inl h
        · exact .inr (.inl h)
        · exact .inl h
        · exact .inr (.inr h)
    · split
      · rw [List.mem_cons, jn_mem a (y :: b) m, List.mem_cons (b := x), or_assoc]
      · rw [List.mem_cons, jn_mem (x :: a) b m, List.mem_cons (b := y)]
        constructor
        · rintro (h | h | h)
          · exact .inr (.inl h)
          · exact .inl h
          · exact .inr (.inr h)
        · rintro (h | h | h)
          · exact .inr (.inl h)
          · exact .inl h
          · exact .inr (.inr h)
  termination_by a b => a.length + b.length
theorem jn_rise : ∀ (a b : List Pt), (∀ m ∈ a, m.Ok) → (∀ m ∈ b, m.Ok) → Rise a → Rise b → Rise (Jn a b)
  | [], b, _, _, _, h => by simpa [Jn] using h
  | x :: a, [], _, _, h, _ => by simpa [Jn] using h
  | x :: a, y :: b, oa, ob, ha, hb => by
    have oa' : ∀ m ∈ a, m.Ok := fun m hm => oa m (List.mem_cons_of_mem _ hm)
    have ob' : ∀ m ∈ b, m.Ok := fun m hm => ob m (List.mem_cons_of_mem _ hm)
    have ox := oa x (List.mem_cons_self ..)
    have oy := ob y (List.mem_cons_self ..)
    have ra := List.pairwise_cons.mp ha
    have rb := List.pairwise_cons.mp hb
    rw [Jn]
    split
    · rename_i e
      subst e
      refine List.pairwise_cons.mpr ⟨fun m hm => ?_, jn_rise a b oa' ob' ra.2 rb.2⟩
      rcases (jn_mem a b m).mp hm with h | h
      · exact ra.1 m h
      · exact rb.1 m h
    · rename_i ne
      split
      · rename_i hl
        refine List.pairwise_cons.mpr ⟨fun m hm => ?_, jn_rise a (y :: b) oa' ob ra.2 hb⟩
        rcases (jn_mem a (y :: b) m).mp hm with h | h
        · exact ra.1 m h
        · rcases List.mem_cons.mp h with e | h
          · rw [e]; exact hl
          · exact lt_trans hl (rb.1 m h)
      · rename_i hl
        have hl' : y.lt x = true := by
          cases h2 : y.lt x with
          | true => rfl
          | false => exact absurd (lt_total ox oy (by simpa using hl) h2) ne
        refine List.pairwise_cons.mpr ⟨fun m hm => ?_, jn_rise (x :: a) b oa ob' ha rb.2⟩
        rcases (jn_mem (x :: a) b m).mp hm with h | h
        · rcases List.mem_cons.mp h with e | h
          · rw [e]; exact hl'
          · exact lt_trans hl' (ra.1 m h)
        · exact rb.1 m h
  termination_by a b => a.length + b.length
theorem at_last {xs : List V} {v : V} (h : xs[xs.length - 1]? = some v) : atI xs (-1) = some v := by
  cases xs with
  | nil => cases h
  | cons a b =>
    rw [← List.dropLast_concat_getLast (List.cons_ne_nil a b)] at h ⊢
    rw [show (List.dropLast (a :: b) ++ [List.getLast (a :: b) (List.cons_ne_nil a b)])[(List.dropLast (a :: b) ++ [List.getLast (a :: b) (List.cons_ne_nil a b)]).length - 1]? = some (List.getLast (a :: b) (List.cons_ne_nil a b)) by simp] at h
    injection h with h
    rw [← h]
    exact atI_last _ _
/-! _law_marks -/
def sp_law_marks (K : PySem.W.Frag) : Sp := fun vs H Q _ => ∃ (p : Addr) (xs : List V) (ms : List Pt), vs = [.ref p] ∧ LR K H p xs ∧ PtLs H xs ms ∧ (∀ m ∈ ms, m.Ok) ∧ xs.length ≤ 1000 ∧ ∀ r ys H', Nw H r → Ex H H' → LM H' r ys → MkL K H' ys ms → Q (.ref r) H'
theorem ok_law_marks (T : Txt K mg w base) : ∃ fd, FunD K d_law_marks.name d_law_marks.qual d_law_marks.params d_law_marks.body d_law_marks.scope (d_law_marks.dvs K) (d_law_marks.kws K) (He.fAd K d_law_marks.at_) fd ∧ FnOk P w K mg base C8.CX0 8 (He.fAd K d_law_marks.at_) fd ["rows"] (sp_law_marks K) := by
  obtain ⟨fd, F⟩ := T.f_law_marks
  refine ⟨fd, F, ?_⟩
  have sc := (show FnScope ["rows", "parts"] ["rows"] (defScope s_law_marks) from ⟨rfl, rfl, rfl, by decide +kernel, rfl, by decide +kernel, by decide +kernel⟩)
  refine F.ok sc (fun vs H Q E h => ?_) (fun cdv A outer s H vs Q E hr h => ?_)
  · obtain ⟨p, xs, ms, rfl, lp, pl, ok, hl, k⟩ := h; rfl
  obtain ⟨p, xs, ms, rfl, lp, pl, ok, hl, k⟩ := h
  have hu := hr.units
  refine ⟨_, PSs.nox (pss_one (ps_ret (pe_lc (own := [("parts", 1)]) (by rfl) sc.nd (U.pi_list' (K := K) (pv 0)) (blkOk_by (own := [("parts", 1)]) (N := ["rows", "parts"]) (sc := (defScope s_law_marks)) (by decide +kernel)) (fun _ _ _ _ _ => (pg_name (i := 1) sc.nd rfl (by first | exact Or.inl rfl | exact Or.inr rfl))) (fun _ _ _ _ _ => pts_nil) (fun _ _ _ _ _ => (C8.pe_c (c_law_mark T) hr (by decide) rfl (pa_cons (pv 1) pa_nil)))))), ?_⟩
  walk_at "ust0"
  have hxl := pl.al.len
  walk_at "ugo"
  refine lc_lo (Rin := PtL) (Rout := MkO K) (ms := ms) (PtLs.al (H := H)) (fun H H' y m kp h => mko_et h kp) (fun H H' D y m mu h => inferInstance) (by rw [z24]; omega) (fun m z H' A hm pt ex hA => ?_) (fun D ys H3 nw3 ex3 lm3 al3 => ?_)
  · have okm := ok m hm
    walk_at "ugo"
    intro y H4 nw4 ex4 mk4
    exact hA y H4 ex4 mk4
  exact k D ys H3 nw3 ex3 lm3 (al_mkl al3)
theorem c_law_marks (T : Txt K mg w base) : C8.Cal P w K mg base 8 "_law_marks" (sp_law_marks K) [] := by
  obtain ⟨fd, F, ok⟩ := ok_law_marks (P := P) (w := w) (base := base) T
  exact cal_n F T.g_law_marks (F.bindsN fun _ _ _ _ _ _ us hl => match us, hl with | [_], _ => rfl) ok
instance {H : Hp} {Q : VK} {E : XK} {p : Addr} {xs : List V} {ms : List Pt} [h : LR K H p xs] [pl : PtLs H xs ms] : Go (sp_law_marks K [.ref p] H Q E) (Sd (∀ m ∈ ms, m.Ok) (Sd (xs.length ≤ 1000) (∀ r ys H', Nw H r → Ex H H' → LM H' r ys → MkL K H' ys ms → Q (.ref r) H'))) := ⟨fun k => ⟨p, xs, ms, rfl, h, pl, k.1, k.2.1, k.2.2⟩⟩
/-! _law_both -/
def sp_law_both (K : PySem.W.Frag) : Sp := fun vs H Q _ => ∃ (p : Addr) (xs : List V) (ms : List Pt), vs = [.ref p] ∧ LR K H p xs ∧ PtLs H xs ms ∧ Gs ms ∧ xs.length ≤ 1000 ∧ ∀ r ys ns H', Nw H r → Ex H H' → LM H' r ys → PtLs H' ys ns → Rise ns → (∀ m, m ∈ ns ↔ m ∈ ms) → ns.length ≤ ms.length → Q (.ref r) H'
theorem ok_law_both (T : Txt K mg w base) : ∃ fd, FunD K d_law_both.name d_law_both.qual d_law_both.params d_law_both.body d_law_both.scope (d_law_both.dvs K) (d_law_both.kws K) (He.fAd K d_law_both.at_) fd ∧ FnOk P w K mg base C8.CX0 6 (He.fAd K d_law_both.at_) fd ["rows"] (sp_law_both K) := by
  obtain ⟨fd, F⟩ := T.f_law_both
  refine ⟨fd, F, ?_⟩
  have sc := (show FnScope ["rows", "due", "parts"] ["rows"] (defScope s_law_both) from ⟨rfl, rfl, rfl, by decide +kernel, rfl, by decide +kernel, by decide +kernel⟩)
  refine F.ok sc (fun vs H Q E h => ?_) (fun cdv A outer s H vs Q E hr h => ?_)
  · obtain ⟨p, xs, ms, rfl, lp, pl, gs, hl, k⟩ := h; rfl
  obtain ⟨p, xs, ms, rfl, lp, pl, gs, hl, k⟩ := h
  have hu := hr.units
  refine ⟨_, PSs.nox (pss_cons (ps_set (i := 1) sc.nd rfl (by first | exact Or.inl rfl | exact Or.inr rfl) (pe_lst pa_nil))
  (pss_cons (ps_for PassesOwn.never rfl (U.pi_list' (K := K) (pe_callBK (U.cr_sortF (K := K) (c_law_key T) hr (by decide)) (by rfl) T.b_sorted PyProof.Rows.boot_sorted (pa_cons (pv 0) pa_nil) (pk_cons (pe_glob (v := .ref _) rfl T.g_law_key rfl) pk_nil))) (pg_name (i := 2) sc.nd rfl (by first | exact Or.inl rfl | exact Or.inr rfl)) (pss_one (ps_if (PW.pt (pw_or (pt_cmpR (U.ou_eq0 (K := K) hu) (pv 1) (pe_lst pa_nil) (nomark _)) (pw_or1 (pt_cmpR (U.ou_ne (K := K) hu) (C8.pe_c (c_law_key T) hr (by decide) rfl (pa_cons (pe_ix (U.xu (K := K)) (pv 1) (pe_un un_neg pe_int) (fun _ _ => rfl)) pa_nil)) (C8.pe_c (c_law_key T) hr (by decide) rfl (pa_cons (pv 2) pa_nil)) (nomark _))))) (pss_one (ps_expr (pe_bm PySem.F.plainAttrs_list PySem.F.slot_list_append PySem.F.type_list_append mt_append (pv 1) (pa_cons (pv 2) pa_nil)))) pss_nil)))
  (pss_one (ps_ret (pv 1))))), ?_⟩
  walk_at "ust0"
  have hxl := pl.al.len
  walk_at "ugo"
  refine al_l fun r H1 nw1 ex1 lm1 => ?_
  walk_at "ugo"
  have pl1 : PtLs H1 xs ms := inferInstance
  refine sortF_of T.g_law_key (.inl (LR.lr (K := K))) ms Pt.key hxl (fun m _ m' _ => key_alike m m') key_tup (fun m => Nat.le_trans (key_depth m) (by decide)) (fun v m H' hv e R hR => ?_) (fun u zs H2 nw2 ex2 pm e2 lm2 => ?_)
  · obtain ⟨q, e1, pt⟩ := pl1.al.all (v, m) hv
    have e1 : v = .ref q := e1
    subst e1
    have pt : PtL H1 q m := pt
    exact ⟨q, m, rfl, inferInstance, fun p H'' e ky => hR _ _ e ky.dp⟩
  have al2 : AL (PtL H) (zs.map (·.1)) (srt false ms) := by
    have h := al_perm pl.al pm
    rw [← e2] at h
    exact h
  have pw := srt_pw false ms
  have hmem : ∀ m, m ∈ srt false ms ↔ m ∈ ms := fun m => (srt_perm false ms).mem_iff
  have hlen := srt_len false ms
  generalize zs.map (·.1) = us at lm2 al2
  generalize srt false ms = L at al2 pw hmem hlen
  have hul := al2.len
  walk_at "ugo"
  refine for_l (xs := us) (fun i σ H' => ∃ ys ns o, σ = [some (.ref p), some (.ref r), o] ∧ Et H H' ∧ LM H' u us ∧ LM H' r ys ∧ AL (PtL H) ys ns ∧ Rise ns ∧ ns.length ≤ i ∧ ∀ b, b ∈ ns ↔ b ∈ L.take i) ⟨[], [], _, rfl, inferInstance, inferInstance, inferInstance, al_nil, .nil, by simp, fun b => by simp⟩ (fun i σ H' hi h => ?_) (fun i x σ H' hi hx h => ?_) (fun σ H' h => ?_)
  · obtain ⟨ys, ns, o, _, et, lu, _⟩ := h
    exact (inferInstance : LR K H' u us).lr
  · obtain ⟨ys, ns, o, rfl, et, lu, lr, al, rs, hn, hm⟩ := h
    obtain ⟨q, m, rfl, hLm, ptq⟩ := al_at' al2 hx
    have gm := gs _ ((hmem m).mp (List.mem_of_getElem? hLm))
    have okm := gm.1
    have hyl := al.len
    haveI ex' : Ex H H' := ⟨et.et⟩
    haveI : PtL H' q m := inferInstance
    have tk : L.take (i + 1) = L.take i ++ [m] := by rw [List.take_succ, hLm]; rfl
    have bef : ∀ b ∈ L.take i, m.lt b = false := fun b hb => by
      obtain ⟨j, hj⟩ := List.mem_iff_getElem?.mp hb
      have hji : j < i := by
        have := (List.getElem?_eq_some_iff.mp hj).1
        rw [List.length_take] at this
        omega
      rw [List.getElem?_take_of_lt hji] at hj
      obtain ⟨g1, g2⟩ := List.getElem?_eq_some_iff.mp hj
      obtain ⟨g3, g4⟩ := List.getElem?_eq_some_iff.mp hLm
      have := List.pairwise_iff_getElem.mp pw j i g1 g3 hji
      rw [le_ff, g2, g4] at this
      simpa using this
    have fin : ∀ H5, Et H H5 → LM H5 u us → LM H5 r (ys ++ [.ref q]) → (∀ b ∈ ns, b.lt m = true) → ∃ ys ns o, [some (.ref p), some (.ref r), some (.ref q)] = [some (V.ref p), some (.ref r), o] ∧ Et H H5 ∧ LM H5 u us ∧ LM H5 r ys ∧ AL (PtL H) ys ns ∧ Rise ns ∧ ns.length ≤ i + 1 ∧ ∀ b, b ∈ ns ↔ b ∈ L.take (i + 1) := fun H5 e5 u5 l5 hlt => ⟨_, ns ++ [m], _, rfl, e5, u5, l5, al_snoc al ptq, rise_snoc rs hlt, by rw [List.length_append, List.length_singleton]; omega, fun b => by rw [tk, List.mem_append, List.mem_append, hm b]⟩
    walk_at "ugo"
    refine al_l fun l2 H3 nw3 ex3 lm3 => ?_
    walk_at "ugo"
    cases he : ys.isEmpty with
    | true =>
      walk_at "ugo"
      refine mu_l' fun H4 m4 l4 => ?_
      walk_at "ugo"
      exact fin H4 inferInstance inferInstance l4 fun b hb => by
        obtain rfl : ys = [] := List.isEmpty_iff.mp he
        have : ns = [] := List.length_eq_zero_iff.mp (by rw [← hyl]; rfl)
        rw [this] at hb; cases hb
    | false =>
      obtain ⟨ns0, l, hnl⟩ : ∃ a b, ns = a ++ [b] := by
        cases ns with
        | nil =>
          have : ys = [] := List.length_eq_zero_iff.mp hyl
          rw [this] at he; cases he
        | cons a b => exact ⟨_, _, (List.dropLast_concat_getLast (List.cons_ne_nil a b)).symm⟩
      have hle : ns[ns.length - 1]? = some l := by rw [hnl]; simp
      obtain ⟨ql, eql, ptl⟩ := al_at al hle
      have hzl : atI ys (-1) = some (.ref ql) := at_last (by rw [hyl]; exact eql)
      have hln : l ∈ ns := by rw [hnl]; simp
      have okl := (gs _ ((hmem l).mp (List.mem_of_mem_take ((hm l).mp hln)))).1
      haveI e2 : Ex H H3 := ⟨Et.et⟩
      haveI : PtL H3 ql l := inferInstance
      walk_at "ugo"
      refine ix_is hzl ?_
      walk_at "ugo"
      intro p1 H4 e4 k4
      walk_at "ugo"
      intro p2 H5 e5 k5
      walk_at "ugo"
      refine br2 (fun h => ?_) (fun h => ?_)
      · walk_at "ugo"
        subst h
        refine ⟨ys, ns, _, rfl, inferInstance, inferInstance, inferInstance, al, rs, by omega, fun b => ?_⟩
        rw [tk, List.mem_append, List.mem_singleton, hm b]
        constructor
        · exact .inl
        · rintro (h | h)
          · exact h
          · rw [h]; exact (hm _).mp hln
      · walk_at "ugo"
        refine mu_l' fun H6 m6 l6 => ?_
        walk_at "ugo"
        refine fin H6 inferInstance inferInstance l6 fun b hb => ?_
        have h1 := bef l ((hm l).mp hln)
        have h2 : l.lt m = true := by
          cases h2 : l.lt m with
          | true => rfl
          | false => exact absurd (lt_total okl okm h2 h1) h
        rw [hnl] at hb rs
        rcases List.mem_append.mp hb with hb | hb
        · exact lt_trans ((List.pairwise_append.mp rs).2.2 b hb l (by simp)) h2
        · rw [List.mem_singleton.mp hb]; exact h2
  · obtain ⟨ys, ns, o, rfl, et, lu, lr, al, rs, hn, hm⟩ := h
    walk_at "ugo"
    exact k r ys ns H' nw1 ⟨et.et⟩ lr (ptls_et ⟨al⟩ et.et) rs (fun m => by rw [hm m, List.take_of_length_le (by omega), hmem m]) (by omega)
theorem c_law_both (T : Txt K mg w base) : C8.Cal P w K mg base 6 "_law_both" (sp_law_both K) [] := by
  obtain ⟨fd, F, ok⟩ := ok_law_both (P := P) (w := w) (base := base) T
  exact cal_n F T.g_law_both (F.bindsN fun _ _ _ _ _ _ us hl => match us, hl with | [_], _ => rfl) ok
instance {H : Hp} {Q : VK} {E : XK} {p : Addr} {xs : List V} {ms : List Pt} [h : LR K H p xs] [pl : PtLs H xs ms] : Go (sp_law_both K [.ref p] H Q E) (Sd (Gs ms) (Sd (xs.length ≤ 1000) (∀ r ys ns H', Nw H r → Ex H H' → LM H' r ys → PtLs H' ys ns → Rise ns → (∀ m, m ∈ ns ↔ m ∈ ms) → ns.length ≤ ms.length → Q (.ref r) H'))) := ⟨fun k => ⟨p, xs, ms, rfl, h, pl, k.1, k.2.1, k.2.2⟩⟩
end
end T

namespace T
open PySem PySem.Spec PyProof.Rows L2 U
open SX (S)
variable [QN]
section
variable {P : Program} {w : World} {K : PySem.W.Frag} {mg : PySem.Str → Option Value} {base : Heap}
instance {H : Hp} {Q : VK} {E : XK} {p q : Addr} {b c : Bool} {xs ys : List V} {ms ns : List Pt} [h1 : SR K H p b xs] [h2 : SR K H q c ys] [h3 : MkL K H xs ms] [h4 : MkL K H ys ns] : Go (spx_joined K [.ref p, .ref q] H Q E) (Sd (ms.length ≤ 1000) (Sd (ns.length ≤ 1000) (∃ k : Nat, (FW ms (some k) ∨ (Rise ms ∧ FW ns (some k))) ∧ ∀ d H', Ex H H' → XD H' d [("at", .int (k : Int))] → E (.ref (He.ga K "NotRising")) (some d) H'))) := ⟨fun g => by
  obtain ⟨l1, l2, k, f, g⟩ := g
  exact ⟨p, q, b, c, xs, ys, ms, ns, k, rfl, h1, h2, h3, h4, l1, l2, f, g⟩⟩
instance {H : Hp} {Q : VK} {E : XK} {p : Addr} {x : V} {b : Bool} {xs : List V} {ms : List Pt} [h1 : SR K H p b xs] [h3 : MkL K H xs ms] : Go (spx_place_in K [.ref p, x] H Q E) (Sd (ms.length ≤ 1000) (∃ k : Nat, FW ms (some k) ∧ ∀ d H', Ex H H' → XD H' d [("at", .int (k : Int))] → E (.ref (He.ga K "NotRising")) (some d) H')) := ⟨fun g => by
  obtain ⟨l1, k, f, g⟩ := g
  exact ⟨p, x, b, xs, ms, k, rfl, h1, h3, l1, f, g⟩⟩
/-! _law_refused: the first list or the second does not rise -/
def oL (o : Option Nat) : List V := match o with | none => [] | some k => [.int (k : Int)]
/-- what is told: of joined, of place_in -/
def rfd (o1 o2 : Option Nat) : List V := (match o1 with | some k => [V.int (k : Int)] | none => oL o2) ++ oL o2
def sp_law_refused (K : PySem.W.Frag) : Sp := fun vs H Q _ => ∃ (p q x : Addr) (b c : Bool) (xs ys : List V) (ms ns : List Pt) (m : Pt) (o1 o2 : Option Nat), vs = [.ref p, .ref q, .ref x] ∧ SR K H p b xs ∧ SR K H q c ys ∧ MkL K H xs ms ∧ MkL K H ys ns ∧ MkO K H x m ∧ ms.length ≤ 1000 ∧ ns.length ≤ 1000 ∧ (∀ m ∈ ms, m.Ok) ∧ (∀ m ∈ ns, m.Ok) ∧ m.Ok ∧ FW ms o1 ∧ FW ns o2 ∧ (o1 ≠ none ∨ o2 ≠ none) ∧ ∀ r H', Nw H r → Ex H H' → LM H' r (rfd o1 o2) → Q (.ref r) H'
theorem ok_law_refused (T : Txt K mg w base) : ∃ fd, FunD K d_law_refused.name d_law_refused.qual d_law_refused.params d_law_refused.body d_law_refused.scope (d_law_refused.dvs K) (d_law_refused.kws K) (He.fAd K d_law_refused.at_) fd ∧ FnOk P w K mg base C8.CX0 7 (He.fAd K d_law_refused.at_) fd ["fore", "mate", "spine"] (sp_law_refused K) := by
  obtain ⟨fd, F⟩ := T.f_law_refused
  refine ⟨fd, F, ?_⟩
  have sc := (show FnScope ["fore", "mate", "spine", "told", "e"] ["fore", "mate", "spine"] (defScope s_law_refused) from ⟨rfl, rfl, rfl, by decide +kernel, rfl, by decide +kernel, by decide +kernel⟩)
  refine F.ok sc (fun vs H Q E h => ?_) (fun cdv A outer s H vs Q E hr h => ?_)
  · obtain ⟨p, q, x, b, c, xs, ys, ms, ns, m, o1, o2, rfl, sp, sq, ml, nl, mk, l1, l2, ok1, ok2, okm, fw1, fw2, hne, k⟩ := h; rfl
  obtain ⟨p, q, x, b, c, xs, ys, ms, ns, m, o1, o2, rfl, sp, sq, ml, nl, mk, l1, l2, ok1, ok2, okm, fw1, fw2, hne, k⟩ := h
  have hu := hr.units
  refine ⟨_, PSs.nox (pss_cons (ps_set (i := 3) sc.nd rfl (by first | exact Or.inl rfl | exact Or.inr rfl) (pe_lst pa_nil))
  (pss_cons (U.ps_try_as' (i := 4) rfl rfl sc.nd rfl rfl (U.names_of rfl T.g_NotRising) LamX.takes0 (fun W pn xe tk pw => (pss_one (ps_expr (U.pe_cX (cx_joined T) tk hr (by decide) rfl (pa_cons (pv 0) (pa_cons (pv 1) pa_nil)))))) (fun ea oe cls d pn hz hf => (pss_one (ps_expr (U.pe_bmK (K := K) PySem.F.plainAttrs_list PySem.F.slot_list_append PySem.F.type_list_append mt_append (pv 3) (pa_cons (pe_ifExp (PW.pt (pw_and (pt_val (pe_callB (U.cu_isE (K := K) hz hf) (by rfl) T.b_isinstance (by decide +kernel) (pa_cons (pv 4) (pa_cons (pe_glob (v := .ref _) rfl T.g_MarkError rfl) pa_nil)))) (pw_and1 (pt_val (pe_callB (U.cu_isE (K := K) hz hf) (by rfl) T.b_isinstance (by decide +kernel) (pa_cons (pv 4) (pa_cons (U.pe_ty (n := "ValueError") rfl T.b_ValueError (by decide +kernel)) pa_nil))))))) (U.pe_xf' T.x_NotRising T.n_NotRising_at hz hf (pv 4)) pe_non) pa_nil))))))
  (pss_cons (U.ps_try_as' (i := 4) rfl rfl sc.nd rfl rfl (U.names_of rfl T.g_NotRising) LamX.takes0 (fun W pn xe tk pw => (pss_one (ps_expr (U.pe_cX (cx_place_in T) tk hr (by decide) rfl (pa_cons (pv 1) (pa_cons (pv 2) pa_nil)))))) (fun ea oe cls d pn hz hf => (pss_one (ps_expr (U.pe_bmK (K := K) PySem.F.plainAttrs_list PySem.F.slot_list_append PySem.F.type_list_append mt_append (pv 3) (pa_cons (U.pe_xf' T.x_NotRising T.n_NotRising_at hz hf (pv 4)) pa_nil))))))
  (pss_one (ps_ret (pv 3)))))), ?_⟩
  walk_at "ust0"
  have h1 := T.h_NotRising_NotRising
  have q1 := T.q_NotRising_MarkError
  have q2 := T.q_NotRising_ValueError
  walk_at "ugo"
  refine al_l fun r H1 nw1 ex1 lm1 => ?_
  walk_at "ugo"
  -- the first
  obtain ⟨j, hj, hje⟩ : ∃ j : Nat, (FW ms (some j) ∨ (Rise ms ∧ FW ns (some j))) ∧ [V.int (j : Int)] = (match o1 with | some k => [V.int (k : Int)] | none => oL o2) := by
    cases o1 with
    | some k1 => exact ⟨k1, .inl fw1, rfl⟩
    | none =>
      cases o2 with
      | some k2 => exact ⟨k2, .inr ⟨rise_of ms fw1, fw2⟩, rfl⟩
      | none => rcases hne with h | h <;> exact absurd rfl h
  refine ⟨j, hj, fun d H2 e2 xd2 => ?_⟩
  refine was_y h1 fun ea hea => ?_
  simp only [List.set_cons_succ, List.set_cons_zero]
  walk_at "ugo"
  refine isE_of T.x_NotRising (.own _) q1 ?_
  walk_at "ugo"
  refine isE_of T.x_NotRising (.ty _) q2 ?_
  walk_at "ugo"
  refine xf_of ⟨_, rfl, ?_⟩
  walk_at "ugo"
  refine mu_l' fun H3 m3 l3 => ?_
  simp only [List.set_cons_succ, List.set_cons_zero]
  have nwr : Nw H r := nw1
  cases o2 with
  | none =>
    walk_at "ugo"
    refine .inl ?_
    walk_at "ugo"
    have rs2 := rise_of ns fw2
    refine Sd.k rs2 ?_
    walk_at "ugo"
    intro l t H4 pl nwt ex4 tm4
    walk_at "ugo"
    exact k r H4 nw1 ⟨Et.et⟩ (by
      rw [show rfd o1 none = [V.int (j : Int)] by rw [hje]; cases o1 <;> rfl]
      exact (inferInstance : LM H4 r [V.int (j : Int)]))
  | some k2 =>
    walk_at "ugo"
    refine .inr ?_
    walk_at "ugo"
    refine ⟨k2, fw2, fun d2 H4 e4 xd4 => ?_⟩
    refine was_y h1 fun eb heb => ?_
    simp only [List.set_cons_succ, List.set_cons_zero]
    walk_at "ugo"
    refine xf_of ⟨_, rfl, ?_⟩
    walk_at "ugo"
    refine mu_l' fun H5 m5 l5 => ?_
    simp only [List.set_cons_succ, List.set_cons_zero]
    walk_at "ugo"
    exact k r H5 nw1 ⟨Et.et⟩ (by
      rw [show rfd o1 (some k2) = [V.int (j : Int)] ++ [V.int (k2 : Int)] by rw [hje]; cases o1 <;> rfl]
      exact l5)
theorem c_law_refused (T : Txt K mg w base) : C8.Cal P w K mg base 7 "_law_refused" (sp_law_refused K) [] := by
  obtain ⟨fd, F, ok⟩ := ok_law_refused (P := P) (w := w) (base := base) T
  exact cal_n F T.g_law_refused (F.bindsN fun _ _ _ _ _ _ us hl => match us, hl with | [_, _, _], _ => rfl) ok
end
end T

namespace T
open PySem PySem.Spec PyProof.Rows L2 U
open SX (S)
variable [QN]
section
variable {P : Program} {w : World} {K : PySem.W.Frag} {mg : PySem.Str → Option Value} {base : Heap}
theorem fw_some {ns : List Pt} {k : Nat} (h1 : 1 ≤ k) (h2 : k < ns.length) (r : Rise (ns.take k)) (h : Wr ns k) : FW ns (some k) := ⟨h1, h2, h, fun j j1 j2 hw => by
  obtain ⟨a, b, e1, e2, e3⟩ := hw
  have l : (ns.take k).length = k := by rw [List.length_take]; omega
  refine rise_fw r j j1 (by omega) ⟨a, b, ?_, ?_, e3⟩
  · rw [List.getElem?_take_of_lt (by omega)]; exact e1
  · rw [List.getElem?_take_of_lt (by omega)]; exact e2⟩
/-- two neighbours turned about -/
theorem sp_turn {ms : List Pt} (rs : Rise ms) {k : Nat} (h1 : 1 ≤ k) (h2 : k < ms.length) : FW (ms.take (k - 1) ++ [ms[k], ms[k - 1]] ++ ms.drop (k + 1)) (some k) := by
  have l1 : (ms.take (k - 1)).length = k - 1 := by rw [List.length_take]; omega
  have e1 : (ms.take (k - 1) ++ [ms[k], ms[k - 1]] ++ ms.drop (k + 1)).take k = ms.take (k - 1) ++ [ms[k]] := by
    rw [List.append_assoc, List.take_append, l1, List.take_of_length_le (by omega), show k - (k - 1) = 1 by omega]
    rfl
  refine fw_some h1 (by rw [List.length_append, List.length_append, l1, List.length_drop]; simp; omega) ?_ ⟨ms[k], ms[k - 1], ?_, ?_, ?_⟩
  · rw [e1]
    refine List.Pairwise.sublist ?_ rs
    have e2 : ms = ms.take (k - 1) ++ [ms[k - 1]] ++ [ms[k]] ++ ms.drop (k + 1) := by
      have a1 : ms.take (k - 1) ++ [ms[k - 1]] = ms.take k := by
        have := List.take_succ_eq_append_getElem (i := k - 1) (l := ms) (by omega)
        rw [show k - 1 + 1 = k by omega] at this
        exact this.symm
      rw [a1, ← List.take_succ_eq_append_getElem h2, List.take_append_drop]
    conv => rhs; rw [e2]
    refine List.Sublist.trans ?_ (List.sublist_append_left _ _)
    exact List.Sublist.append (List.sublist_append_left _ _) (List.Sublist.refl _)
  · rw [List.append_assoc, List.getElem?_append_right (by omega), l1, show k - 1 - (k - 1) = 0 by omega]; rfl
  · rw [List.append_assoc, List.getElem?_append_right (by omega), l1, show k - (k - 1) = 1 by omega]; rfl
  · exact lt_asymm (List.pairwise_iff_getElem.mp rs (k - 1) k (by omega) h2 (by omega))
/-- all turned about -/
theorem sp_back {ms : List Pt} (rs : Rise ms) (h2 : 1 < ms.length) : FW ms.reverse (some 1) := by
  refine fw_some (Nat.le_refl _) (by rw [List.length_reverse]; exact h2) ?_ ⟨ms[ms.length - 1], ms[ms.length - 2], ?_, ?_, ?_⟩
  · cases h : ms.reverse with
    | nil => exact .nil
    | cons a b => exact List.pairwise_singleton _ _
  · rw [List.getElem?_reverse (by omega), List.getElem?_eq_getElem (by omega)]
    congr 1
  · rw [List.getElem?_reverse (by omega), List.getElem?_eq_getElem (by omega)]
    congr 1
  · exact lt_asymm (List.pairwise_iff_getElem.mp rs (ms.length - 2) (ms.length - 1) (by omega) (by omega) (by omega))
/-- one twice -/
theorem sp_twice {ms tl : List Pt} (rs : Rise ms) {k : Nat} (h2 : k < ms.length) : FW (ms.take k ++ [ms[k]] ++ ms.drop k ++ tl) (some (k + 1)) := by
  have l1 : (ms.take k).length = k := by rw [List.length_take]; omega
  have e1 : ms.take k ++ [ms[k]] = ms.take (k + 1) := (List.take_succ_eq_append_getElem h2).symm
  have l2 : (ms.take (k + 1)).length = k + 1 := by rw [List.length_take]; omega
  rw [e1]
  refine fw_some (by omega) (by rw [List.length_append, List.length_append, l2, List.length_drop]; omega) ?_ ⟨ms[k], ms[k], ?_, ?_, ?_⟩
  · rw [List.append_assoc, List.take_append_of_le_length (by omega), List.take_of_length_le (by omega)]
    exact List.Pairwise.sublist (List.take_sublist _ _) rs
  · rw [show k + 1 - 1 = k by omega, List.append_assoc, List.getElem?_append_left (by omega), List.getElem?_take_of_lt (by omega), List.getElem?_eq_getElem h2]
  · rw [List.append_assoc, List.getElem?_append_right (by omega), l2, show k + 1 - (k + 1) = 0 by omega, List.getElem?_append_left (by rw [List.length_drop]; omega), List.getElem?_drop, Nat.add_zero, List.getElem?_eq_getElem h2]
  · cases h : (ms[k]).lt ms[k] with
    | false => rfl
    | true => exact (lt_irr h).elim
instance {H : Hp} {Q : VK} {l : Addr} {k : Int} {xs : List V} [h : LM H l xs] : Go (uMul K (.ref l) (.int k) H Q) (Sd (-(2 ^ 63) ≤ k ∧ k < 2 ^ 63) (Sd (xs.length * k.toNat ≤ sizeLine) (newL (List.replicate k.toNat xs).flatten H Q))) := ⟨fun g => .inr ⟨l, k, xs, rfl, rfl, h.lm, g.1.1, g.1.2, g.2.1, g.2.2⟩⟩
/-! _law_spoilt -/
def sp_law_spoilt (K : PySem.W.Frag) : Sp := fun vs H Q _ => ∃ (p : Addr) (xs : List V) (ms : List Pt) (way place : Int), vs = [.ref p, .int way, .int place] ∧ LR K H p xs ∧ PtLs H xs ms ∧ Rise ms ∧ Gs ms ∧ 0 < ms.length ∧ ms.length ≤ 1000 ∧ ∀ t r ys ns k H', Ex H H' → TM H' t [.ref r, .int ((k : Nat) : Int)] → LM H' r ys → PtLs H' ys ns → Gs ns → FW ns (some k) → ns.length ≤ ms.length + 2 → Q (.ref t) H'
theorem ok_law_spoilt (T : Txt K mg w base) : ∃ fd, FunD K d_law_spoilt.name d_law_spoilt.qual d_law_spoilt.params d_law_spoilt.body d_law_spoilt.scope (d_law_spoilt.dvs K) (d_law_spoilt.kws K) (He.fAd K d_law_spoilt.at_) fd ∧ FnOk P w K mg base C8.CX0 1 (He.fAd K d_law_spoilt.at_) fd ["rows", "way", "place"] (sp_law_spoilt K) := by
  obtain ⟨fd, F⟩ := T.f_law_spoilt
  refine ⟨fd, F, ?_⟩
  have sc := (show FnScope ["rows", "way", "place", "at"] ["rows", "way", "place"] (defScope s_law_spoilt) from ⟨rfl, rfl, rfl, by decide +kernel, rfl, by decide +kernel, by decide +kernel⟩)
  refine F.ok sc (fun vs H Q E h => ?_) (fun cdv A outer s H vs Q E hr h => ?_)
  · obtain ⟨p, xs, ms, way, place, rfl, lp, pl, rs, gs, h0, hl, k⟩ := h; rfl
  obtain ⟨p, xs, ms, way, place, rfl, lp, pl, rs, gs, h0, hl, k⟩ := h
  have hu := hr.units
  refine ⟨_, PSs.nox (pss_cons (ps_set (i := 3) sc.nd rfl (by first | exact Or.inl rfl | exact Or.inr rfl) (pe_op U.ou_mod (pv 2) (pe_callB (U.cu_len (K := K)) (by rfl) T.b_len (by decide +kernel) (pa_cons (pv 0) pa_nil))))
  (C8.pss_cut (ps_if (PW.pt (pw_and (pt_cmpR (U.ou_eq (K := K) hu) (pv 1) pe_int (nomark _)) (pw_and1 (pt_cmpR (U.ou_gtD (K := K) hu) (pv 3) pe_int (nomark _))))) (pss_one (ps_ret (pe_tup (pa_cons (pe_op (U.ou_add (K := K)) (pe_op (U.ou_add (K := K)) (pe_slice (U.su (K := K)) (pv 0) po_none (po_some (pe_op U.ou_sub (pv 3) pe_int))) (pe_lst (pa_cons (pe_ix (U.xu (K := K)) (pv 0) (pv 3) (fun _ _ => rfl)) (pa_cons (pe_ix (U.xu (K := K)) (pv 0) (pe_op U.ou_sub (pv 3) pe_int) (fun _ _ => rfl)) pa_nil)))) (pe_slice (U.su (K := K)) (pv 0) (po_some (pe_op (U.ou_add (K := K)) (pv 3) pe_int)) po_none)) (pa_cons (pv 3) pa_nil))))) pss_nil)
  (C8.pss_cut (ps_if (PW.pt (pw_and (pt_cmpR (U.ou_eq (K := K) hu) (pv 1) pe_int (nomark _)) (pw_and1 (pt_cmpR (U.ou_gtD (K := K) hu) (pe_callB (U.cu_len (K := K)) (by rfl) T.b_len (by decide +kernel) (pa_cons (pv 0) pa_nil)) pe_int (nomark _))))) (pss_one (ps_ret (pe_tup (pa_cons (U.pe_rev (K := K) (pv 0)) (pa_cons pe_int pa_nil))))) pss_nil)
  (pss_one (ps_ret (pe_tup (pa_cons (pe_op (U.ou_add (K := K)) (pe_op (U.ou_add (K := K)) (pe_op (U.ou_add (K := K)) (pe_slice (U.su (K := K)) (pv 0) po_none (po_some (pv 3))) (pe_lst (pa_cons (pe_ix (U.xu (K := K)) (pv 0) (pv 3) (fun _ _ => rfl)) pa_nil))) (pe_slice (U.su (K := K)) (pv 0) (po_some (pv 3)) po_none)) (pe_op (U.ou_mul (K := K)) (pe_slice (U.su (K := K)) (pv 0) (po_some (pe_un un_neg pe_int)) po_none) (pe_callTy U.cu_int (by rfl) T.b_int (by decide +kernel) (pa_cons (pe_cmpR (U.ou_eq (K := K) hu) (pv 1) pe_int (nomark _)) pa_nil)))) (pa_cons (pe_op (U.ou_add (K := K)) (pv 3) pe_int) pa_nil)))))))), ?_⟩
  walk_at "ust0"
  have hxl := pl.al.len
  have i1 := Int.emod_nonneg place (b := ((xs.length : Nat) : Int)) (by omega)
  have i2 := Int.emod_lt_of_pos place (b := ((xs.length : Nat) : Int)) (by omega)
  obtain ⟨at_, hat⟩ : ∃ j : Nat, place % ((xs.length : Nat) : Int) = (j : Int) := ⟨_, (Int.toNat_of_nonneg i1).symm⟩
  have hatl : at_ < ms.length := by omega
  have gsm : ∀ {l : List Pt}, (∀ m ∈ l, m ∈ ms) → Gs l := fun h m hm => gs m (h m hm)
  obtain ⟨qa, ea, pa⟩ := al_at pl.al (List.getElem?_eq_getElem hatl)
  walk_at "ugo"
  rw [hat]
  walk_at "ugo"
  have e2' : (((at_ : Nat) : Int) + 1) = ((at_ + 1 : Nat) : Int) := by omega
  refine cut_ (fun σ H' => σ = [some (V.ref p), some (V.int way), some (V.int place), some (V.int (at_ : Int))] ∧ Ex H H') ?_ (fun σ H0 h => ?_)
  · walk_at "ugo"
    refine br2 (fun hw => ?_) (fun hw => ?_)
    · walk_at "ugo"
      refine br2 (fun hp => ?_) (fun hp => ?_)
      · have e1' : (((at_ : Nat) : Int) - 1) = ((at_ - 1 : Nat) : Int) := by omega
        obtain ⟨qb, eb, pb⟩ := al_at pl.al (k := at_ - 1) (List.getElem?_eq_getElem (by omega))
        walk_at "ugo"
        rw [e1', cut_to]
        refine al_l fun l1 H1 nw1 ex1 lm1 => ?_
        walk_at "ugo"
        refine ix_is (atI_nat ea) ?_
        walk_at "ugo"
        rw [e1']
        refine ix_is (atI_nat eb) ?_
        walk_at "ugo"
        refine al_l fun l2 H2 nw2 ex2 lm2 => ?_
        have z1 : (xs.take (at_ - 1)).length ≤ 1000 := by rw [List.length_take]; omega
        walk_at "ugo"
        refine al_l fun l3 H3 nw3 ex3 lm3 => ?_
        walk_at "ugo"
        rw [e2', cut_fr]
        refine al_l fun l4 H4 nw4 ex4 lm4 => ?_
        have z2 : (xs.drop (at_ + 1)).length ≤ 1000 := by rw [List.length_drop]; omega
        have z3 : (xs.take (at_ - 1) ++ [V.ref qa, V.ref qb]).length ≤ 1002 := by rw [List.length_append]; simp; omega
        walk_at "ugo"
        refine al_l fun l5 H5 nw5 ex5 lm5 => ?_
        walk_at "ugo"
        refine al_t' fun t H6 nw6 ex6 tm6 => ?_
        haveI x6 : Ex H H6 := ⟨Et.et⟩
        refine k t l5 _ (ms.take (at_ - 1) ++ [ms[at_], ms[at_ - 1]] ++ ms.drop (at_ + 1)) at_ H6 x6 tm6 inferInstance (ptls_et ⟨al_app (al_app (al_take pl.al _) (al_cons pa (al_cons pb al_nil))) (al_drop pl.al _)⟩ x6.ex) (gsm fun m hm => ?_) (sp_turn rs (by omega) hatl) (by simp; omega)
        simp only [List.mem_append, List.mem_cons, List.not_mem_nil, or_false] at hm
        rcases hm with (hm | hm | hm) | hm
        · exact List.mem_of_mem_take hm
        · rw [hm]; exact List.getElem_mem _
        · rw [hm]; exact List.getElem_mem _
        · exact List.mem_of_mem_drop hm
      · walk_at "ugo"
        exact ⟨rfl, ⟨kp_rfl⟩⟩
    · walk_at "ugo"
      exact ⟨rfl, ⟨kp_rfl⟩⟩
  obtain ⟨rfl, x0⟩ := h
  walk_at "ugo"
  refine cut_ (fun σ H' => σ = [some (V.ref p), some (V.int way), some (V.int place), some (V.int (at_ : Int))] ∧ Ex H H') ?_ (fun σ H1 h => ?_)
  · walk_at "ugo"
    refine br2 (fun hw => ?_) (fun hw => ?_)
    · walk_at "ugo"
      refine br2 (fun hp => ?_) (fun hp => ?_)
      · walk_at "ugo"
        refine al_l fun l1 H1 nw1 ex1 lm1 => ?_
        walk_at "ugo"
        refine al_t' fun t H2 nw2 ex2 tm2 => ?_
        haveI x2 : Ex H H2 := ⟨Et.et⟩
        exact k t l1 _ ms.reverse 1 H2 x2 tm2 inferInstance (ptls_et ⟨al_rev pl.al⟩ x2.ex) (gsm fun m hm => List.mem_reverse.mp hm) (sp_back rs (by omega)) (by simp)
      · walk_at "ugo"
        exact ⟨rfl, ⟨Et.et⟩⟩
    · walk_at "ugo"
      exact ⟨rfl, ⟨Et.et⟩⟩
  obtain ⟨rfl, x1⟩ := h
  walk_at "ugo"
  rw [cut_to]
  refine al_l fun l1 H2 nw1 ex1 lm1 => ?_
  walk_at "ugo"
  refine ix_is (atI_nat ea) ?_
  walk_at "ugo"
  refine al_l fun l2 H3 nw2 ex2 lm2 => ?_
  have z1 : (xs.take at_).length ≤ 1000 := by rw [List.length_take]; omega
  walk_at "ugo"
  refine al_l fun l3 H4 nw3 ex3 lm3 => ?_
  walk_at "ugo"
  rw [cut_fr]
  refine al_l fun l4 H5 nw4 ex4 lm4 => ?_
  have z2 : (xs.drop at_).length ≤ 1000 := by rw [List.length_drop]; omega
  have z3 : (xs.take at_ ++ [V.ref qa]).length ≤ 1001 := by rw [List.length_append]; simp; omega
  walk_at "ugo"
  refine al_l fun l5 H6 nw5 ex5 lm5 => ?_
  walk_at "ugo"
  refine al_l fun l6 H7 nw6 ex6 lm6 => ?_
  have zc : (cutV xs (some (-1)) none).length = 1 := by
    unfold cutV
    have e0 : HT.sIx xs.length 0 (some (-1)) = xs.length - 1 := by
      show (if (-1 : Int) < 0 then ((-1 : Int) + (xs.length : Int)).toNat else min (-1 : Int).toNat xs.length) = xs.length - 1
      rw [if_pos (by decide)]
      omega
    rw [List.length_take, List.length_drop, e0, HT.sIx_none]
    omega
  obtain ⟨nt, alt, subt⟩ : ∃ nt : List Pt, AL (PtL H) (cutV xs (some (-1)) none) nt ∧ ∀ m ∈ nt, m ∈ ms := ⟨(ms.drop (HT.sIx xs.length 0 (some (-1)))).take (HT.sIx xs.length xs.length none - HT.sIx xs.length 0 (some (-1))), al_take (al_drop pl.al _) _, fun m hm => List.mem_of_mem_drop (List.mem_of_mem_take hm)⟩
  have znt := alt.len
  walk_at "ugo"
  generalize hb : decide (way = 3) = b
  have z4 : (xs.take at_ ++ [V.ref qa] ++ xs.drop at_).length ≤ 2001 := by rw [List.length_append]; omega
  obtain ⟨n, hn, hn1⟩ : ∃ n : Nat, (if b = true then (1 : Int) else 0) = (n : Int) ∧ n ≤ 1 := by
    cases b
    · exact ⟨0, rfl, by omega⟩
    · exact ⟨1, rfl, by omega⟩
  obtain ⟨tl, altl, subtl, ltl⟩ : ∃ tl : List Pt, AL (PtL H) (List.replicate ((n : Int)).toNat (cutV xs (some (-1)) none)).flatten tl ∧ (∀ m ∈ tl, m ∈ ms) ∧ tl.length ≤ 1 := by
    rcases Nat.lt_or_eq_of_le hn1 with h | h
    · obtain rfl : n = 0 := by omega
      exact ⟨[], al_nil, (fun m hm => by cases hm), by simp⟩
    · subst h
      exact ⟨nt, by simpa using alt, subt, by omega⟩
  have ztl := altl.len
  rw [hn]
  have zn : (n : Int).toNat = n := by omega
  rw [zn] at altl ztl ⊢
  have zm : (cutV xs (some (-1)) none).length * n ≤ 1 := by rw [zc]; omega
  walk_at "ugo"
  refine al_l fun l7 H8 nw7 ex7 lm7 => ?_
  walk_at "ugo"
  refine al_l fun l8 H9 nw8 ex8 lm8 => ?_
  walk_at "ugo"
  rw [e2']
  refine al_t' fun t H10 nw9 ex9 tm9 => ?_
  haveI x10 : Ex H H10 := ⟨Et.et⟩
  refine k t l8 _ (ms.take at_ ++ [ms[at_]] ++ ms.drop at_ ++ tl) (at_ + 1) H10 x10 tm9 inferInstance (ptls_et ⟨al_app (al_app (al_app (al_take pl.al _) (al_cons pa al_nil)) (al_drop pl.al _)) altl⟩ x10.ex) (gsm fun m hm => ?_) (sp_twice rs hatl) (by simp; omega)
  simp only [List.mem_append, List.mem_cons, List.not_mem_nil, or_false] at hm
  rcases hm with ((hm | hm) | hm) | hm
  · exact List.mem_of_mem_take hm
  · rw [hm]; exact List.getElem_mem _
  · exact List.mem_of_mem_drop hm
  · exact subtl m hm
theorem c_law_spoilt (T : Txt K mg w base) : C8.Cal P w K mg base 1 "_law_spoilt" (sp_law_spoilt K) [] := by
  obtain ⟨fd, F, ok⟩ := ok_law_spoilt (P := P) (w := w) (base := base) T
  exact cal_n F T.g_law_spoilt (F.bindsN fun _ _ _ _ _ _ us hl => match us, hl with | [_, _, _], _ => rfl) ok
end
end T

namespace T
open PySem PySem.Spec PyProof.Rows L2 U
open SX (S)
variable [QN]
section
variable {P : Program} {w : World} {K : PySem.W.Frag} {mg : PySem.Str → Option Value} {base : Heap}
theorem c_Mark_2 (T : Txt K mg w base) : C8.Mak P w K mg base 4 "Mark" (He.ga K "Mark") (sp_Mark_init K) [.str "", .non, .non, .non] := by
  obtain ⟨fd, F, ok⟩ := ok_Mark_init (P := P) (w := w) (base := base) T
  obtain ⟨ds, r, b⟩ := F.binds1 (ps := ["self", "letters", "number", "points", "makers", "year", "copy"]) 3 0 (by intro z; cases z) rfl fun _ _ _ _ _ _ _ us its hl hl2 => match us, its, hl, hl2 with | [_, _, _], [_, _, _, _], _, _ => ⟨_, rfl, rfl⟩
  exact ⟨_, fd, _, ds, T.mk_Mark, ok, T.g_Mark, b, r⟩
theorem ptl_et {H H' : Hp} {q : Addr} {m : Pt} (h : PtL H q m) (e : Kp H H') : PtL H' q m := by
  haveI : Ex H H' := ⟨e⟩
  exact inferInstance
theorem pl_len {ms : List Pt} {m : Pt} {l : Nat} (h : Pl ms m l) : (ms.filter fun a => a.lt m).length = l := by
  obtain ⟨h1, h2, h3⟩ := h
  have e1 : (ms.take l).filter (fun a => a.lt m) = ms.take l := List.filter_eq_self.mpr fun a ha => by
    obtain ⟨i, hi⟩ := List.mem_iff_getElem?.mp ha
    have hil : i < l := by
      have := (List.getElem?_eq_some_iff.mp hi).1
      rw [List.length_take] at this
      omega
    rw [List.getElem?_take_of_lt hil] at hi
    obtain ⟨b, e, g⟩ := h2 i hil
    rw [hi] at e
    injection e with e
    rw [e]; exact g
  have e2 : (ms.drop l).filter (fun a => a.lt m) = [] := List.filter_eq_nil_iff.mpr fun a ha => by
    obtain ⟨i, hi⟩ := List.mem_iff_getElem?.mp ha
    rw [List.getElem?_drop] at hi
    rw [h3 _ a (by omega) hi]
    decide
  rw [← List.take_append_drop l ms, List.filter_append, e1, e2, List.append_nil, List.length_take]
  omega
theorem rise_nodup {ms : List Pt} (h : Rise ms) : ms.Nodup := h.imp fun {a b} hl e => by
  subst e
  exact lt_irr hl
theorem pl_there {ms : List Pt} {m : Pt} {l : Nat} (rs : Rise ms) (h : Pl ms m l) : decide (ms[l]? = some m) = decide ((ms.filter fun a => decide (a = m)).length = 1) := by
  obtain ⟨h1, h2, h3⟩ := h
  have cnt : (ms.filter fun a => decide (a = m)).length = if m ∈ ms then 1 else 0 := by
    have nd := rise_nodup rs
    clear h1 h2 h3 rs
    induction ms with
    | nil => rfl
    | cons a r ih =>
      obtain ⟨n1, n2⟩ := List.nodup_cons.mp nd
      rw [List.filter_cons]
      by_cases e : a = m
      · subst e
        rw [if_pos (by simp), List.length_cons, ih n2, if_neg n1, if_pos (List.mem_cons_self ..)]
      · rw [if_neg (by simpa using e), ih n2]
        by_cases hm : m ∈ r
        · rw [if_pos hm, if_pos (List.mem_cons_of_mem _ hm)]
        · rw [if_neg hm, if_neg (fun h => (List.mem_cons.mp h).elim (fun h => e h.symm) hm)]
  rw [cnt]
  by_cases hm : m ∈ ms
  · rw [if_pos hm]
    obtain ⟨i, hi⟩ := List.mem_iff_getElem?.mp hm
    have : ms[l]? = some m := by
      rcases Nat.lt_trichotomy i l with lt | e | gt
      · obtain ⟨b, e, g⟩ := h2 i lt
        rw [hi] at e
        injection e with e
        rw [← e] at g
        exact (lt_irr g).elim
      · rw [← e]; exact hi
      · obtain ⟨g1, g2⟩ := List.getElem?_eq_some_iff.mp hi
        have a1 := h3 l _ (Nat.le_refl _) (List.getElem?_eq_getElem (by omega))
        have a2 := List.pairwise_iff_getElem.mp rs l i (by omega) g1 gt
        rw [g2] at a2
        rw [a1] at a2
        cases a2
    rw [this]
    simp
  · rw [if_neg hm]
    have : ms[l]? ≠ some m := fun e => hm (List.mem_of_getElem? e)
    simp [this]
theorem dp_two {H : Hp} {p : Addr} {l : Int} {b : Bool} (h : TM H p [.int l, .bl b]) : Dp K H (.ref p) (.tuple [.int l, .bool b]) := .tup (inferInstance : TR K H p [.int l, .bl b]).tr (.cons (.int _) (.cons (.bl _) .nil))
theorem two_eqv (l : Int) (b : Bool) : PyData.eqv (.tuple [.int l, .bool b]) (.tuple [.int l, .bool b]) = true := by
  cases b <;> simp [PyData.eqv, PyData.eqvAll]
instance {H : Hp} {Q : VK} {p q : Addr} {l : Int} {b : Bool} [h : TM H p [.int l, .bl b]] [g : TM H q [.int l, .bl b]] : Go (uNe K (.ref p) (.ref q) H Q) (Q (.bl false) H) := ⟨fun k => .inr ⟨_, _, dp_two h, dp_two g, rfl, rfl, by rw [two_eqv]; exact k⟩⟩
instance {H : Hp} {Q : VK} {p q : Addr} {l : Int} {b : Bool} [h : TM H p [.int l, .bl b]] [g : TM H q [.int l, .bl b]] : Go (uEq K (.ref p) (.ref q) H Q) (Q (.bl true) H) := ⟨fun k => .inr ⟨_, _, dp_two h, dp_two g, rfl, rfl, by rw [two_eqv]; exact k⟩⟩
instance (priority := 500) {g : TG} {tt : TT} {te : TE} {vs : List Nat} {σw : L2.St} {x : V} {H : Hp} {A : V → Hp → Prop} {B : Hp → Prop} : Go (turn g tt te vs σw x H A B) (g x σw H fun σ2 H2 => Sd (wipe σ2 vs = σw) (tt σ2 H2 fun b H3 => if b = true then te σ2 H3 A else B H3)) := ⟨fun k => k⟩
instance {H : Hp} {Q : VK} {a b : Bool} : Go (uNe K (.bl a) (.bl b) H Q) (Q (.bl (!decide (a = b))) H) := ⟨fun k => .inr ⟨.bool a, .bool b, .bl _, .bl _, rfl, rfl, by cases a <;> cases b <;> exact k⟩⟩
/-! _law_places -/
def sp_law_places (K : PySem.W.Frag) : Sp := fun vs H Q _ => ∃ (p q : Addr) (xs ys : List V) (ms ns : List Pt), vs = [.ref p, .ref q] ∧ LM H p xs ∧ LM H q ys ∧ PtLs H xs ms ∧ PtLs H ys ns ∧ Rise ms ∧ Gs ms ∧ Gs ns ∧ ms.length ≤ 1000 ∧ ns.length ≤ 2000 ∧ ∀ H', Ex H H' → Q (.bl true) H'
theorem ok_law_places (T : Txt K mg w base) : ∃ fd, FunD K d_law_places.name d_law_places.qual d_law_places.params d_law_places.body d_law_places.scope (d_law_places.dvs K) (d_law_places.kws K) (He.fAd K d_law_places.at_) fd ∧ FnOk P w K mg base C8.CX0 9 (He.fAd K d_law_places.at_) fd ["rows", "others"] (sp_law_places K) := by
  obtain ⟨fd, F⟩ := T.f_law_places
  refine ⟨fd, F, ?_⟩
  have sc := (show FnScope ["rows", "others", "spines", "parts", "told", "count", "there", "row"] ["rows", "others"] (defScope s_law_places) from ⟨rfl, rfl, rfl, by decide +kernel, rfl, by decide +kernel, by decide +kernel⟩)
  refine F.ok sc (fun vs H Q E h => ?_) (fun cdv A outer s H vs Q E hr h => ?_)
  · obtain ⟨p, q, xs, ys, ms, ns, rfl, lp, lq, pl, pn, rs, gs, gn, hl, hn, k⟩ := h; rfl
  obtain ⟨p, q, xs, ys, ms, ns, rfl, lp, lq, pl, pn, rs, gs, gn, hl, hn, k⟩ := h
  have hu := hr.units
  refine ⟨_, PSs.nox (pss_cons (ps_set (i := 2) sc.nd rfl (by first | exact Or.inl rfl | exact Or.inr rfl) (C8.pe_c (c_law_marks T) hr (by decide) rfl (pa_cons (pv 0) pa_nil)))
  (pss_cons (ps_for PassesOwn.never rfl (U.pi_list' (K := K) (pe_op (U.ou_add (K := K)) (pv 0) (pe_slice (U.su (K := K)) (pv 1) po_none (po_some pe_int)))) (pg_name (i := 3) sc.nd rfl (by first | exact Or.inl rfl | exact Or.inr rfl)) (pss_cons (ps_set (i := 4) sc.nd rfl (by first | exact Or.inl rfl | exact Or.inr rfl) (C8.pe_c (c_place_in T) hr (by decide) rfl (pa_cons (pv 2) (pa_cons (C8.pe_c (c_law_mark T) hr (by decide) rfl (pa_cons (pv 3) pa_nil)) pa_nil))))
    (pss_cons (ps_if (PW.pt (pw_or (pt_not (pt_val (pe_callB (U.cu_isi (K := K)) (by rfl) T.b_isinstance (by decide +kernel) (pa_cons (pv 4) (pa_cons (U.pe_ty (n := "tuple") rfl T.b_tuple (by decide +kernel)) pa_nil))))) (pw_or (pt_cmpR (U.ou_ne (K := K) hu) (pe_callB (U.cu_len (K := K)) (by rfl) T.b_len (by decide +kernel) (pa_cons (pv 4) pa_nil)) pe_int (nomark _)) (pw_or1 (pt_not (pt_val (C8.pe_c (c_law_whole T) hr (by decide) rfl (pa_cons (pe_ix (U.xu (K := K)) (pv 4) pe_int (fun _ _ => rfl)) pa_nil)))))))) (pss_one (ps_ret pe_bl)) pss_nil)
    (pss_cons (ps_if (pt_cmpR (U.ou_ne (K := K) hu) (C8.pe_c (c_place_in T) hr (by decide) rfl (pa_cons (pe_callTy (U.cu_tup (K := K)) (by rfl) T.b_tuple (by decide +kernel) (pa_cons (pv 2) pa_nil)) (pa_cons (C8.pe_c (c_law_mark T) hr (by decide) rfl (pa_cons (pv 3) pa_nil)) pa_nil))) (pv 4) (nomark _)) (pss_one (ps_ret pe_bl)) pss_nil)
    (pss_cons (ps_set (i := 5) sc.nd rfl (by first | exact Or.inl rfl | exact Or.inr rfl) (pe_callB (U.cu_len (K := K)) (by rfl) T.b_len (by decide +kernel) (pa_cons (pe_lc (own := [("row", 7)]) (by rfl) sc.nd (U.pi_list' (K := K) (pv 0)) (blkOk_by (own := [("row", 7)]) (N := ["rows", "others", "spines", "parts", "told", "count", "there", "row"]) (sc := (defScope s_law_places)) (by decide +kernel)) (fun _ _ _ _ _ => (pg_name (i := 7) sc.nd rfl (by first | exact Or.inl rfl | exact Or.inr rfl))) (fun _ _ _ _ _ => pts_one (pt_cmpR (U.ou_ltD (K := K) hu) (C8.pe_c (c_law_key T) hr (by decide) rfl (pa_cons (pv 7) pa_nil)) (C8.pe_c (c_law_key T) hr (by decide) rfl (pa_cons (pv 3) pa_nil)) (nomark _))) (fun _ _ _ _ _ => (pv 7))) pa_nil)))
    (pss_cons (ps_set (i := 6) sc.nd rfl (by first | exact Or.inl rfl | exact Or.inr rfl) (pe_cmpR (U.ou_eq (K := K) hu) (pe_callB (U.cu_len (K := K)) (by rfl) T.b_len (by decide +kernel) (pa_cons (pe_lc (own := [("row", 7)]) (by rfl) sc.nd (U.pi_list' (K := K) (pv 0)) (blkOk_by (own := [("row", 7)]) (N := ["rows", "others", "spines", "parts", "told", "count", "there", "row"]) (sc := (defScope s_law_places)) (by decide +kernel)) (fun _ _ _ _ _ => (pg_name (i := 7) sc.nd rfl (by first | exact Or.inl rfl | exact Or.inr rfl))) (fun _ _ _ _ _ => pts_one (pt_cmpR (U.ou_eq (K := K) hu) (C8.pe_c (c_law_key T) hr (by decide) rfl (pa_cons (pv 7) pa_nil)) (C8.pe_c (c_law_key T) hr (by decide) rfl (pa_cons (pv 3) pa_nil)) (nomark _))) (fun _ _ _ _ _ => (pv 7))) pa_nil)) pe_int (nomark _)))
    (pss_one (ps_if (PW.pt (pw_or (pt_cmpR (U.ou_ne (K := K) hu) (pe_ix (U.xu (K := K)) (pv 4) pe_int (fun _ _ => rfl)) (pv 5) (nomark _)) (pw_or (pt_not (pt_val (pe_callB (U.cu_isi (K := K)) (by rfl) T.b_isinstance (by decide +kernel) (pa_cons (pe_ix (U.xu (K := K)) (pv 4) pe_int (fun _ _ => rfl)) (pa_cons (U.pe_ty (n := "bool") rfl T.b_bool (by decide +kernel)) pa_nil))))) (pw_or1 (pt_cmpR (U.ou_ne (K := K) hu) (pe_ix (U.xu (K := K)) (pv 4) pe_int (fun _ _ => rfl)) (pv 6) (nomark _)))))) (pss_one (ps_ret pe_bl)) pss_nil))))))))
  (pss_one (ps_ret (C8.pe_c (c_law_same T) hr (by decide) rfl (pa_cons (pv 2) (pa_cons (pv 0) pa_nil))))))), ?_⟩
  walk_at "ust0"
  have hxl := pl.al.len
  have hyl := pn.al.len
  have oks : ∀ m ∈ ms, m.Ok := fun m hm => (gs m hm).1
  walk_at "ugo"
  intro r zs H1 nw1 ex1 lm1 ml1
  have hzl := ml1.len
  walk_at "ugo"
  rw [show cutV ys none (some 16) = ys.take 16 from cut_to (r := 16)]
  refine al_l fun t2 H2 nw2 ex2 lm2 => ?_
  have z1 : (ys.take 16).length ≤ 2000 := by rw [List.length_take]; omega
  walk_at "ugo"
  refine al_l fun t3 H3 nw3 ex3 lm3 => ?_
  have al3 : AL (PtL H) (xs ++ ys.take 16) (ms ++ ns.take 16) := al_app pl.al (al_take pn.al 16)
  have g3 : ∀ m ∈ ms ++ ns.take 16, m.Ok := fun m hm => by
    rcases List.mem_append.mp hm with h | h
    · exact (gs m h).1
    · exact (gn m (List.mem_of_mem_take h)).1
  generalize xs ++ ys.take 16 = us at lm3 al3
  generalize ms ++ ns.take 16 = L at al3 g3
  walk_at "ugo"
  refine for_l (xs := us) (fun i σ H' => (∃ o1 o2 o3 o4, σ = [some (.ref p), some (.ref q), some (.ref r), o1, o2, o3, o4, none]) ∧ Ex H3 H') ⟨⟨_, _, _, _, rfl⟩, ⟨kp_rfl⟩⟩ (fun i σ H' hi h => ?_) (fun i x σ H4 hi hx h => ?_) (fun σ H4 h => ?_)
  · obtain ⟨_, e⟩ := h
    exact (inferInstance : LR K H' t3 us).lr
  · obtain ⟨⟨o1, o2, o3, o4, rfl⟩, e⟩ := h
    obtain ⟨pq, m, rfl, hm, ptm⟩ := al_at' al3 hx
    have okm := g3 m (List.mem_of_getElem? hm)
    haveI x4 : Ex H H4 := ⟨Et.et⟩
    haveI : PtL H4 pq m := inferInstance
    walk_at "ugo"
    intro y H5 nw5 ex5 mk5
    walk_at "ugo"
    have hB : ∀ l, Pl ms m l → decide (ms[l]? = some m) = decide ((ms.filter fun a => decide (a = m)).length = 1) := fun l h => pl_there rs h
    have hN : ∀ l, Pl ms m l → (ms.filter fun a => a.lt m).length = l := fun l h => pl_len h
    generalize hBB : decide ((ms.filter fun a => decide (a = m)).length = 1) = B at hB
    generalize hNN : (ms.filter fun a => a.lt m).length = N at hN
    intro l t H6 pl6 nwt ex6 tm6
    rw [hB l pl6, ← hN l pl6] at tm6
    clear pl6 l
    walk_at "ugo"
    refine brT rfl ?_
    walk_at "ugo"
    refine ix_is (i := ((0 : Nat) : Int)) (atI_nat rfl) ?_
    walk_at "ugo"
    refine al_t' fun u H7 nw7 ex7 tu7 => ?_
    walk_at "ugo"
    intro y2 H8 nw8 ex8 mk8
    walk_at "ugo"
    intro l2 t2' H9 pl9 nwt9 ex9 tm9
    rw [hB l2 pl9, ← hN l2 pl9] at tm9
    clear pl9 l2
    walk_at "ugo"
    have plH : ∀ H', Ex H H' → AL (PtL H') xs ms := fun H' e => (ptls_et ⟨pl.al⟩ e.ex : PtLs H' xs ms).al
    refine lc_lf (Rin := PtL) (ms := ms) (fun a => a.lt m) (plH H9 ⟨Et.et⟩) (by rw [z24]; omega) (fun m1 z H10 A B' hm1 pt1 ex10 hA hB' => ?_) (fun D1 ys1 H10 nw10 ex10 lm10 hl10 => ?_)
    · haveI : PtL H10 z m1 := ptl_et pt1 ex10.ex
      walk_at "ugo"
      intro k1 H11 e11 ky1
      walk_at "ugo"
      intro k2 H12 e12 ky2
      walk_at "ugo"
      refine brb (fun h => ?_) (fun h => ?_)
      · walk_at "ugo"
        exact hA H12 ⟨Et.et⟩ h
      · walk_at "ugo"
        exact hB' H12 ⟨Et.et⟩ h
    rw [hNN] at hl10
    walk_at "ugo"
    refine lc_lf (Rin := PtL) (ms := ms) (fun a => decide (a = m)) (plH H10 ⟨Et.et⟩) (by rw [z24]; omega) (fun m1 z H11 A B' hm1 pt1 ex11 hA hB' => ?_) (fun D2 ys2 H11 nw11 ex11 lm11 hl11 => ?_)
    · haveI : PtL H11 z m1 := ptl_et pt1 ex11.ex
      have okm1 := oks m1 hm1
      walk_at "ugo"
      intro k1 H12 e12 ky1
      walk_at "ugo"
      intro k2 H13 e13 ky2
      walk_at "ugo"
      refine brb (fun h => ?_) (fun h => ?_)
      · walk_at "ugo"
        exact hA H13 ⟨Et.et⟩ h
      · walk_at "ugo"
        exact hB' H13 ⟨Et.et⟩ h
    walk_at "ugo"
    have hb : decide (((ys2.length : Nat) : Int) = 1) = B := by
      rw [hl11, ← hBB]
      exact decide_eq_decide.mpr (by omega)
    rw [hb, hl10]
    refine ix_is (i := ((0 : Nat) : Int)) (atI_nat rfl) ?_
    walk_at "ugo"
    refine brT rfl ?_
    walk_at "ugo"
    refine ix_is (i := ((1 : Nat) : Int)) (atI_nat rfl) ?_
    walk_at "ugo"
    refine ix_is (i := ((1 : Nat) : Int)) (atI_nat rfl) ?_
    walk_at "ugo"
    rw [show decide (B = B) = true from decide_eq_true rfl]
    walk_at "ugo"
    exact ⟨⟨_, _, _, _, rfl⟩, ⟨Et.et⟩⟩
  · obtain ⟨⟨o1, o2, o3, o4, rfl⟩, e⟩ := h
    walk_at "ugo"
    refine Sd.k inferInstance ?_
    refine Sd.k oks ?_
    intro H5 e5
    exact k H5 ⟨Et.et⟩
theorem c_law_places (T : Txt K mg w base) : C8.Cal P w K mg base 9 "_law_places" (sp_law_places K) [] := by
  obtain ⟨fd, F, ok⟩ := ok_law_places (P := P) (w := w) (base := base) T
  exact cal_n F T.g_law_places (F.bindsN fun _ _ _ _ _ _ us hl => match us, hl with | [_, _], _ => rfl) ok
end
end T

namespace T
open PySem PySem.Spec PyProof.Rows L2 U
open SX (S)
variable [QN]
section
variable {P : Program} {w : World} {K : PySem.W.Frag} {mg : PySem.Str → Option Value} {base : Heap}
instance {H : Hp} {Q : VK} {E : XK} {a : Addr} {ns : List Int} {n : Nat} [h : LR K H a (ns.map V.int)] [tb : TbR H] : Go (sp_law_sides K [.ref a, .int (n : Int)] H Q E) (Sd (ns.length ≤ 1000) (Sd (n ≤ 1000) (∀ r s0 s1 s2 x0 x1 x2 m0 m1 m2 H', Ex H H' → LM H' r [.ref s0, .ref s1, .ref s2] → LM H' s0 x0 → LM H' s1 x1 → LM H' s2 x2 → PtLs H' x0 m0 → PtLs H' x1 m1 → PtLs H' x2 m2 → Rise m0 → Rise m1 → Rise m2 → Gs m0 → Gs m1 → Gs m2 → m0.length ≤ 50 → m1.length ≤ 50 → m2.length ≤ n → Q (.ref r) H'))) := ⟨fun g => ⟨a, ns, n, rfl, h.lr, g.1, g.2.1, tb, g.2.2⟩⟩
instance {H : Hp} {Q : VK} {E : XK} {p q x : Addr} {b c : Bool} {xs ys : List V} {ms ns : List Pt} {m : Pt} [h1 : SR K H p b xs] [h2 : SR K H q c ys] [h3 : MkL K H xs ms] [h4 : MkL K H ys ns] [mk : MkO K H x m] : Go (sp_law_refused K [.ref p, .ref q, .ref x] H Q E) (Sd (ms.length ≤ 1000) (Sd (ns.length ≤ 1000) (Sd (∀ m ∈ ms, m.Ok) (Sd (∀ m ∈ ns, m.Ok) (Sd m.Ok (∃ o1 o2, FW ms o1 ∧ FW ns o2 ∧ (o1 ≠ none ∨ o2 ≠ none) ∧ ∀ r H', Nw H r → Ex H H' → LM H' r (rfd o1 o2) → Q (.ref r) H')))))) := ⟨fun g => by
  obtain ⟨g1, g2, g3, g4, g5, o1, o2, g6, g7, g8, g9⟩ := g
  exact ⟨p, q, x, b, c, xs, ys, ms, ns, m, o1, o2, rfl, h1, h2, h3, h4, mk, g1, g2, g3, g4, g5, g6, g7, g8, g9⟩⟩
instance {H : Hp} {Q : VK} {E : XK} {p : Addr} {xs : List V} {ms : List Pt} {way place : Int} [h1 : LR K H p xs] [h2 : PtLs H xs ms] : Go (sp_law_spoilt K [.ref p, .int way, .int place] H Q E) (Sd (Rise ms) (Sd (Gs ms) (Sd (0 < ms.length) (Sd (ms.length ≤ 1000) (∀ t r ys ns k H', Ex H H' → TM H' t [.ref r, .int ((k : Nat) : Int)] → LM H' r ys → PtLs H' ys ns → Gs ns → FW ns (some k) → ns.length ≤ ms.length + 2 → Q (.ref t) H'))))) := ⟨fun g => ⟨p, xs, ms, way, place, rfl, h1, h2, g.1, g.2.1, g.2.2.1, g.2.2.2.1, g.2.2.2.2⟩⟩
instance {H : Hp} {Q : VK} {E : XK} {p q : Addr} {xs ys : List V} {ms ns : List Pt} [h1 : LM H p xs] [h2 : LM H q ys] [h3 : PtLs H xs ms] [h4 : PtLs H ys ns] : Go (sp_law_places K [.ref p, .ref q] H Q E) (Sd (Rise ms) (Sd (Gs ms) (Sd (Gs ns) (Sd (ms.length ≤ 1000) (Sd (ns.length ≤ 2000) (∀ H', Ex H H' → Q (.bl true) H')))))) := ⟨fun g => ⟨p, q, xs, ys, ms, ns, rfl, h1, h2, h3, h4, g.1, g.2.1, g.2.2.1, g.2.2.2.1, g.2.2.2.2.1, g.2.2.2.2.2⟩⟩
theorem dp_nums {H : Hp} : ∀ l : List Int, DpAll K H (l.map V.int) (l.map PyData.int)
  | [] => .nil
  | i :: l => .cons (.int i) (dp_nums l)
theorem nums_eqv : ∀ l : List Int, PyData.eqvAll (l.map PyData.int) (l.map PyData.int) = true
  | [] => rfl
  | i :: l => by
    show (PyData.eqv (.int i) (.int i) && PyData.eqvAll (l.map PyData.int) (l.map PyData.int)) = true
    rw [nums_eqv l, show PyData.eqv (.int i) (.int i) = true by simp [PyData.eqv]]
    rfl
theorem nums_lay : ∀ l : List Int, PyData.canLayAll0 (l.map PyData.int) = true
  | [] => rfl
  | i :: l => by
    show (PyData.canLay0 (.int i) && PyData.canLayAll0 (l.map PyData.int)) = true
    rw [nums_lay l]; rfl
theorem nums_shaped2 (i j : Int) : SeqAt.shaped (.list [.int i, .int j]) = true := rfl
theorem nums_shaped1 (i : Int) : SeqAt.shaped (.list [.int i]) = true := rfl
instance {H : Hp} {Q : VK} {p q : Addr} {i j : Int} [h : LM H p [.int i, .int j]] [g : LM H q [.int i, .int j]] : Go (uNe K (.ref p) (.ref q) H Q) (Q (.bl false) H) := ⟨fun k => .inr ⟨.list ([i, j].map PyData.int), .list ([i, j].map PyData.int), .lst (inferInstance : LR K H p [.int i, .int j]).lr (dp_nums [i, j]), .lst (inferInstance : LR K H q [.int i, .int j]).lr (dp_nums [i, j]), rfl, rfl, by
  rw [show PyData.eqv (.list ([i, j].map PyData.int)) (.list ([i, j].map PyData.int)) = true from nums_eqv [i, j]]
  exact k⟩⟩
instance {H : Hp} {Q : VK} {p q : Addr} {i : Int} [h : LM H p [.int i]] [g : LM H q [.int i]] : Go (uEq K (.ref p) (.ref q) H Q) (Q (.bl true) H) := ⟨fun k => .inr ⟨.list ([i].map PyData.int), .list ([i].map PyData.int), .lst (inferInstance : LR K H p [.int i]).lr (dp_nums [i]), .lst (inferInstance : LR K H q [.int i]).lr (dp_nums [i]), rfl, rfl, by
  rw [show PyData.eqv (.list ([i].map PyData.int)) (.list ([i].map PyData.int)) = true from nums_eqv [i]]
  exact k⟩⟩
theorem jn_len : ∀ (a b : List Pt), (Jn a b).length ≤ a.length + b.length
  | [], b => by simp [Jn]
  | x :: a, [] => by simp [Jn]
  | x :: a, y :: b => by
    rw [Jn]
    split
    · have := jn_len a b
      simp only [List.length_cons]; omega
    · split
      · have := jn_len a (y :: b)
        simp only [List.length_cons] at this ⊢; omega
      · have := jn_len (x :: a) b
        simp only [List.length_cons] at this ⊢; omega
  termination_by a b => a.length + b.length
def ptA : Pt := ⟨[97], 1, [], [], none, none⟩
theorem ptA_ok : ptA.Ok := ⟨⟨by decide, fun c hc => by rw [List.mem_singleton.mp hc]; exact ⟨by omega, by omega⟩⟩, by decide, .inl rfl, by decide, by decide, (fun a h => by cases h), (fun n h => by cases h), fun n h => by cases h⟩
def sp_law (K : PySem.W.Frag) : Sp := fun vs H Q _ => ∃ (a : Addr) (ns : List Int), vs = [.ref a] ∧ SqL K H a (ns.map V.int) ∧ ns.length ≤ 63 ∧ TbR H ∧ ∀ H', Q (.bl true) H'
theorem ok_law (T : Txt K mg w base) : ∃ fd, FunD K d_law.name d_law.qual d_law.params d_law.body d_law.scope (d_law.dvs K) (d_law.kws K) (He.fAd K d_law.at_) fd ∧ FnOk P w K mg base C8.CX0 10 (He.fAd K d_law.at_) fd ["script"] (sp_law K) := by
  obtain ⟨fd, F⟩ := T.f_law
  refine ⟨fd, F, ?_⟩
  have sc := (show FnScope ["script", "first", "second", "others", "fore", "mate", "due", "told", "bad", "at", "worse", "place", "spine", "both", "some"] ["script"] (defScope s_law) from ⟨rfl, rfl, rfl, by decide +kernel, rfl, by decide +kernel, by decide +kernel⟩)
  refine F.ok sc (fun vs H Q E h => ?_) (fun cdv A outer s H vs Q E hr h => ?_)
  · obtain ⟨a, ns, rfl, sq, hn, tb, k⟩ := h; rfl
  obtain ⟨a, ns, rfl, sq, hn, tb, k⟩ := h
  have hu := hr.units
  refine ⟨_, PSs.nox (pss_cons (ps_asg (C8.pe_c (c_law_sides T) hr (by decide) rfl (pa_cons (pv 0) (pa_cons (pe_op U.ou_mod (C8.pe_c (c_law_cell_at T) hr (by decide) rfl (pa_cons (pv 0) (pa_cons pe_int pa_nil))) pe_int) pa_nil))) (U.pg_tl (K := K) (n := 3) rfl (pgs_cons (pg_name (i := 1) sc.nd rfl (by first | exact Or.inl rfl | exact Or.inr rfl)) (pgs_cons (pg_name (i := 2) sc.nd rfl (by first | exact Or.inl rfl | exact Or.inr rfl)) (pgs_cons (pg_name (i := 3) sc.nd rfl (by first | exact Or.inl rfl | exact Or.inr rfl)) pgs_nil)))))
  (C8.pss_cut (ps_set (i := 4) sc.nd rfl (by first | exact Or.inl rfl | exact Or.inr rfl) (pe_ix (U.xu (K := K)) (pe_lst (pa_cons (C8.pe_c (c_law_marks T) hr (by decide) rfl (pa_cons (pv 1) pa_nil)) (pa_cons (pe_callTy (U.cu_tup (K := K)) (by rfl) T.b_tuple (by decide +kernel) (pa_cons (C8.pe_c (c_law_marks T) hr (by decide) rfl (pa_cons (pv 1) pa_nil)) pa_nil)) pa_nil))) (pe_op U.ou_mod (C8.pe_c (c_law_cell_at T) hr (by decide) rfl (pa_cons (pv 0) (pa_cons pe_int pa_nil))) pe_int) (fun _ _ => rfl)))
  (C8.pss_cut (ps_set (i := 5) sc.nd rfl (by first | exact Or.inl rfl | exact Or.inr rfl) (pe_ix (U.xu (K := K)) (pe_lst (pa_cons (C8.pe_c (c_law_marks T) hr (by decide) rfl (pa_cons (pv 2) pa_nil)) (pa_cons (pe_callTy (U.cu_tup (K := K)) (by rfl) T.b_tuple (by decide +kernel) (pa_cons (C8.pe_c (c_law_marks T) hr (by decide) rfl (pa_cons (pv 2) pa_nil)) pa_nil)) pa_nil))) (pe_op U.ou_mod (C8.pe_c (c_law_cell_at T) hr (by decide) rfl (pa_cons (pv 0) (pa_cons pe_int pa_nil))) pe_int) (fun _ _ => rfl)))
  (pss_cons (ps_set (i := 6) sc.nd rfl (by first | exact Or.inl rfl | exact Or.inr rfl) (C8.pe_c (c_law_both T) hr (by decide) rfl (pa_cons (pe_op (U.ou_add (K := K)) (pv 1) (pv 2)) pa_nil)))
  (pss_cons (ps_set (i := 7) sc.nd rfl (by first | exact Or.inl rfl | exact Or.inr rfl) (C8.pe_c (c_joined T) hr (by decide) rfl (pa_cons (pv 4) (pa_cons (pv 5) pa_nil))))
  (pss_cons (ps_if (pt_not (pt_val (C8.pe_c (c_law_same T) hr (by decide) rfl (pa_cons (pv 7) (pa_cons (pv 6) pa_nil))))) (pss_one (ps_ret pe_bl)) pss_nil)
  (pss_cons (ps_expr (pe_bm0 PySem.F.plainAttrs_list PySem.F.slot_list_clear PySem.F.type_list_clear mt_clear (pv 7)))
  (pss_cons (ps_if (pt_not (pt_val (C8.pe_c (c_law_same T) hr (by decide) rfl (pa_cons (C8.pe_c (c_joined T) hr (by decide) rfl (pa_cons (pv 4) (pa_cons (pv 4) pa_nil))) (pa_cons (pv 1) pa_nil))))) (pss_one (ps_ret pe_bl)) pss_nil)
  (pss_cons (ps_if (PW.pt (pw_or (pt_not (pt_val (C8.pe_c (c_law_same T) hr (by decide) rfl (pa_cons (C8.pe_c (c_joined T) hr (by decide) rfl (pa_cons (pv 5) (pa_cons (pv 4) pa_nil))) (pa_cons (pv 6) pa_nil))))) (pw_or1 (pt_not (pt_val (C8.pe_c (c_law_same T) hr (by decide) rfl (pa_cons (C8.pe_c (c_joined T) hr (by decide) rfl (pa_cons (pe_callTy (U.cu_lst (K := K)) (by rfl) T.b_list (by decide +kernel) (pa_cons (pv 4) pa_nil)) (pa_cons (pe_callTy (U.cu_tup (K := K)) (by rfl) T.b_tuple (by decide +kernel) (pa_cons (pv 5) pa_nil)) pa_nil))) (pa_cons (pv 6) pa_nil)))))))) (pss_one (ps_ret pe_bl)) pss_nil)
  (pss_cons (ps_if (PW.pt (pw_or (pt_not (pt_val (C8.pe_c (c_law_same T) hr (by decide) rfl (pa_cons (pe_callTy (U.cu_lst (K := K)) (by rfl) T.b_list (by decide +kernel) (pa_cons (pv 4) pa_nil)) (pa_cons (pv 1) pa_nil))))) (pw_or1 (pt_not (pt_val (C8.pe_c (c_law_same T) hr (by decide) rfl (pa_cons (pe_callTy (U.cu_lst (K := K)) (by rfl) T.b_list (by decide +kernel) (pa_cons (pv 5) pa_nil)) (pa_cons (pv 2) pa_nil)))))))) (pss_one (ps_ret pe_bl)) pss_nil)
  (pss_cons (ps_if (PW.pt (pw_or (pt_not (pt_val (C8.pe_c (c_law_places T) hr (by decide) rfl (pa_cons (pv 1) (pa_cons (pv 3) pa_nil))))) (pw_or1 (pt_not (pt_val (C8.pe_c (c_law_places T) hr (by decide) rfl (pa_cons (pv 2) (pa_cons (pe_op (U.ou_add (K := K)) (pv 3) (pv 1)) pa_nil)))))))) (pss_one (ps_ret pe_bl)) pss_nil)
  (C8.pss_cut (ps_if (PW.pt (pw_or (pt_cmpR (U.ou_eq0 (K := K) hu) (pv 1) (pe_lst pa_nil) (nomark _)) (pw_or1 (pt_cmpR (U.ou_eq0 (K := K) hu) (pv 2) (pe_lst pa_nil) (nomark _))))) (pss_one (ps_ret (pe_cmpR (U.ou_eq (K := K) hu) (C8.pe_c (c_place_in T) hr (by decide) rfl (pa_cons (pe_lst pa_nil) (pa_cons (C8.pe_mk (c_Mark_2 T) hr (by decide) rfl (pa_cons (U.pe_s (l := [97]) (by decide +kernel)) (pa_cons pe_int pa_nil))) pa_nil))) (pe_tup (pa_cons pe_int (pa_cons pe_bl pa_nil))) (nomark _)))) pss_nil)
  (pss_cons (ps_asg (C8.pe_c (c_law_spoilt T) hr (by decide) rfl (pa_cons (pe_slice (U.su (K := K)) (pv 1) po_none (po_some pe_int)) (pa_cons (pe_op U.ou_mod (C8.pe_c (c_law_cell_at T) hr (by decide) rfl (pa_cons (pv 0) (pa_cons pe_int pa_nil))) pe_int) (pa_cons (C8.pe_c (c_law_cell_at T) hr (by decide) rfl (pa_cons (pv 0) (pa_cons pe_int pa_nil))) pa_nil)))) (U.pg_tl (K := K) (n := 2) rfl (pgs_cons (pg_name (i := 8) sc.nd rfl (by first | exact Or.inl rfl | exact Or.inr rfl)) (pgs_cons (pg_name (i := 9) sc.nd rfl (by first | exact Or.inl rfl | exact Or.inr rfl)) pgs_nil))))
  (pss_cons (ps_asg (C8.pe_c (c_law_spoilt T) hr (by decide) rfl (pa_cons (pe_slice (U.su (K := K)) (pv 2) po_none (po_some pe_int)) (pa_cons (pe_op U.ou_mod (C8.pe_c (c_law_cell_at T) hr (by decide) rfl (pa_cons (pv 0) (pa_cons pe_int pa_nil))) pe_int) (pa_cons (C8.pe_c (c_law_cell_at T) hr (by decide) rfl (pa_cons (pv 0) (pa_cons pe_int pa_nil))) pa_nil)))) (U.pg_tl (K := K) (n := 2) rfl (pgs_cons (pg_name (i := 10) sc.nd rfl (by first | exact Or.inl rfl | exact Or.inr rfl)) (pgs_cons (pg_name (i := 11) sc.nd rfl (by first | exact Or.inl rfl | exact Or.inr rfl)) pgs_nil))))
  (pss_cons (ps_set (i := 12) sc.nd rfl (by first | exact Or.inl rfl | exact Or.inr rfl) (C8.pe_c (c_law_mark T) hr (by decide) rfl (pa_cons (pe_ix (U.xu (K := K)) (pv 1) pe_int (fun _ _ => rfl)) pa_nil)))
  (pss_cons (ps_set (i := 13) sc.nd rfl (by first | exact Or.inl rfl | exact Or.inr rfl) (pe_lst (pa_cons (C8.pe_c (c_law_marks T) hr (by decide) rfl (pa_cons (pv 8) pa_nil)) (pa_cons (C8.pe_c (c_law_marks T) hr (by decide) rfl (pa_cons (pv 10) pa_nil)) pa_nil))))
  (pss_cons (ps_for PassesOwn.never rfl (U.pi_list' (K := K) (pe_lst (pa_cons (pv 13) (pa_cons (pe_lst (pa_cons (pe_callTy (U.cu_tup (K := K)) (by rfl) T.b_tuple (by decide +kernel) (pa_cons (pe_ix (U.xu (K := K)) (pv 13) pe_int (fun _ _ => rfl)) pa_nil)) (pa_cons (pe_callTy (U.cu_tup (K := K)) (by rfl) T.b_tuple (by decide +kernel) (pa_cons (pe_ix (U.xu (K := K)) (pv 13) pe_int (fun _ _ => rfl)) pa_nil)) pa_nil))) pa_nil)))) (pg_name (i := 14) sc.nd rfl (by first | exact Or.inl rfl | exact Or.inr rfl)) (pss_cons (ps_if (pt_cmpR (U.ou_ne (K := K) hu) (C8.pe_c (c_law_refused T) hr (by decide) rfl (pa_cons (pe_ix (U.xu (K := K)) (pv 14) pe_int (fun _ _ => rfl)) (pa_cons (pe_ix (U.xu (K := K)) (pv 14) pe_int (fun _ _ => rfl)) (pa_cons (pv 12) pa_nil)))) (pe_lst (pa_cons (pv 9) (pa_cons (pv 11) pa_nil))) (nomark _)) (pss_one (ps_ret pe_bl)) pss_nil)
    (pss_one (ps_if (PW.pt (pw_or (pt_not (pt_val (C8.pe_c (c_law_same T) hr (by decide) rfl (pa_cons (pe_callTy (U.cu_lst (K := K)) (by rfl) T.b_list (by decide +kernel) (pa_cons (pe_ix (U.xu (K := K)) (pv 14) pe_int (fun _ _ => rfl)) pa_nil)) (pa_cons (pv 8) pa_nil))))) (pw_or1 (pt_not (pt_val (C8.pe_c (c_law_same T) hr (by decide) rfl (pa_cons (pe_callTy (U.cu_lst (K := K)) (by rfl) T.b_list (by decide +kernel) (pa_cons (pe_ix (U.xu (K := K)) (pv 14) pe_int (fun _ _ => rfl)) pa_nil)) (pa_cons (pv 10) pa_nil)))))))) (pss_one (ps_ret pe_bl)) pss_nil))))
  (pss_cons (ps_if (pt_cmpR (U.ou_ne (K := K) hu) (C8.pe_c (c_law_refused T) hr (by decide) rfl (pa_cons (C8.pe_c (c_law_marks T) hr (by decide) rfl (pa_cons (pv 1) pa_nil)) (pa_cons (C8.pe_c (c_law_marks T) hr (by decide) rfl (pa_cons (pv 10) pa_nil)) (pa_cons (pv 12) pa_nil)))) (pe_lst (pa_cons (pv 11) (pa_cons (pv 11) pa_nil))) (nomark _)) (pss_one (ps_ret pe_bl)) pss_nil)
  (pss_one (ps_ret (pe_cmpR (U.ou_eq (K := K) hu) (C8.pe_c (c_law_refused T) hr (by decide) rfl (pa_cons (C8.pe_c (c_law_marks T) hr (by decide) rfl (pa_cons (pv 8) pa_nil)) (pa_cons (C8.pe_c (c_law_marks T) hr (by decide) rfl (pa_cons (pv 2) pa_nil)) (pa_cons (pv 12) pa_nil)))) (pe_lst (pa_cons (pv 9) pa_nil)) (nomark _)))))))))))))))))))))), ?_⟩
  walk_at "ust0"
  haveI : LR K H a (ns.map V.int) := ⟨sq⟩
  walk_at "ugo"
  rw [show (V.int 0) = V.int ((0 : Nat) : Int) from rfl]
  walk_at "ugo"
  intro i0
  walk_at "ugo"
  have h0 := Int.emod_nonneg i0 (b := 101) (by decide)
  have h1 := Int.emod_lt_of_pos i0 (b := 101) (by decide)
  obtain ⟨n, en⟩ : ∃ j : Nat, i0 % 101 = (j : Int) := ⟨_, (Int.toNat_of_nonneg h0).symm⟩
  rw [en]
  walk_at "ugo"
  intro rr f g o x0 x1 x2 m0 m1 m2 H1 ex1 lr1 lf lg lo pf pg po r0 r1 r2 g0 g1 g2 c0 c1 c2
  have ok0 : ∀ m ∈ m0, m.Ok := fun m hm => (g0 m hm).1
  have ok1 : ∀ m ∈ m1, m.Ok := fun m hm => (g1 m hm).1
  have z0 := pf.al.len
  have z1 := pg.al.len
  have z2 := po.al.len
  walk_at "ugo"
  refine cut_ (fun σ H' => ∃ h b ys, σ = [some (.ref a), some (.ref f), some (.ref g), some (.ref o), some (.ref h), none, none, none, none, none, none, none, none, none, none] ∧ Ex H1 H' ∧ SR K H' h b ys ∧ MkL K H' ys m0) ?_ (fun σ H2 h => ?_)
  · walk_at "ugo"
    intro l2 y2 H2 nw2 ex2 lm2 ml2
    walk_at "ugo"
    intro l3 y3 H3 nw3 ex3 lm3 ml3
    walk_at "ugo"
    refine al_t' fun l4 H4 nw4 ex4 tm4 => ?_
    walk_at "ugo"
    refine al_l fun l5 H5 nw5 ex5 lm5 => ?_
    walk_at "ugo"
    rw [show (V.int 1) = V.int ((1 : Nat) : Int) from rfl]
    walk_at "ugo"
    intro i1
    walk_at "ugo"
    have h0 := Int.emod_nonneg i1 (b := 2) (by decide)
    have h2 := Int.emod_lt_of_pos i1 (b := 2) (by decide)
    rcases (show i1 % 2 = 0 ∨ i1 % 2 = 1 by omega) with e | e
    · rw [e]
      refine ix_is (v := .ref l2) (atI_nat (j := 0) rfl) ?_
      walk_at "ugo"
      exact ⟨l2, false, _, rfl, ⟨Et.et⟩, inferInstance, (inferInstance : MkL K H5 y2 m0)⟩
    · rw [e]
      refine ix_is (v := .ref l4) (atI_nat (j := 1) rfl) ?_
      walk_at "ugo"
      exact ⟨l4, true, _, rfl, ⟨Et.et⟩, inferInstance, (inferInstance : MkL K H5 y3 m0)⟩
  obtain ⟨hf, bf, yf, rfl, xf2, sf, mf⟩ := h
  walk_at "ugo"
  refine cut_ (fun σ H' => ∃ h b ys, σ = [some (.ref a), some (.ref f), some (.ref g), some (.ref o), some (.ref hf), some (.ref h), none, none, none, none, none, none, none, none, none] ∧ Ex H2 H' ∧ SR K H' h b ys ∧ MkL K H' ys m1) ?_ (fun σ H3 h => ?_)
  · walk_at "ugo"
    intro l2 y2 H3 nw2 ex2 lm2 ml2
    walk_at "ugo"
    intro l3 y3 H4 nw3 ex3 lm3 ml3
    walk_at "ugo"
    refine al_t' fun l4 H5 nw4 ex4 tm4 => ?_
    walk_at "ugo"
    refine al_l fun l5 H6 nw5 ex5 lm5 => ?_
    walk_at "ugo"
    rw [show (V.int 2) = V.int ((2 : Nat) : Int) from rfl]
    walk_at "ugo"
    intro i1
    walk_at "ugo"
    have h0 := Int.emod_nonneg i1 (b := 2) (by decide)
    have h2 := Int.emod_lt_of_pos i1 (b := 2) (by decide)
    rcases (show i1 % 2 = 0 ∨ i1 % 2 = 1 by omega) with e | e
    · rw [show i1 % ((2 : Nat) : Int) = 0 from e]
      refine ix_is (v := .ref l2) (atI_nat (j := 0) rfl) ?_
      walk_at "ugo"
      exact ⟨l2, false, _, rfl, ⟨Et.et⟩, inferInstance, (inferInstance : MkL K H6 y2 m1)⟩
    · rw [show i1 % ((2 : Nat) : Int) = 1 from e]
      refine ix_is (v := .ref l4) (atI_nat (j := 1) rfl) ?_
      walk_at "ugo"
      exact ⟨l4, true, _, rfl, ⟨Et.et⟩, inferInstance, (inferInstance : MkL K H6 y3 m1)⟩
  obtain ⟨hg, bg, yg, rfl, xg3, sg, mg3⟩ := h
  have zf := mf.len
  have zg := mg3.len
  walk_at "ugo"
  refine al_l fun l4 H4 nw4 ex4 lm4 => ?_
  haveI x14 : Ex H1 H4 := ⟨Et.et⟩
  have p4 : PtLs H4 (x0 ++ x1) (m0 ++ m1) := ptls_et ⟨al_app pf.al pg.al⟩ x14.ex
  have z4 : (x0 ++ x1).length ≤ 100 := by rw [List.length_append]; omega
  have g4 : Gs (m0 ++ m1) := fun m hm => (List.mem_append.mp hm).elim (g0 m) (g1 m)
  walk_at "ugo"
  intro due yd nd H5 nw5 ex5 lm5 pd5 rd hmd hld
  have hnd : nd = Jn m0 m1 := rise_ext rd (jn_rise m0 m1 ok0 ok1 r0 r1) fun m => by rw [hmd m, jn_mem, List.mem_append]
  subst hnd
  have okd : ∀ m ∈ Jn m0 m1, m.Ok := fun m hm => ((jn_mem m0 m1 m).mp hm).elim (ok0 m) (ok1 m)
  have hj2 : Jn m1 m0 = Jn m0 m1 := rise_ext (jn_rise m1 m0 ok1 ok0 r1 r0) rd fun m => by rw [jn_mem, jn_mem]; exact Or.comm
  have hj0 : Jn m0 m0 = m0 := rise_ext (jn_rise m0 m0 ok0 ok0 r0 r0) r0 fun m => by rw [jn_mem]; exact or_self_iff
  walk_at "ugo"
  intro told yt H6 nw6 ex6 lm6 mt6
  walk_at "ugo"
  refine Sd.k inferInstance ?_
  refine Sd.k okd ?_
  intro H7 e7
  walk_at "ugo"
  refine mu_l' fun H8 m8 l8 => ?_
  have nwt : Nw H5 told := nw6
  haveI x58 : Ex H5 H8 := ⟨Et.et⟩
  walk_at "ugo"
  intro t9 y9 H9 nw9 ex9 lm9 ml9
  rw [hj0] at ml9
  walk_at "ugo"
  refine Sd.k inferInstance ?_
  refine Sd.k ok0 ?_
  intro H10 e10
  walk_at "ugo"
  intro t11 y11 H11 nw11 ex11 lm11 ml11
  rw [hj2] at ml11
  walk_at "ugo"
  refine Sd.k inferInstance ?_
  refine Sd.k okd ?_
  intro H12 e12
  walk_at "ugo"
  refine al_l fun l13 H13 nw13 ex13 lm13 => ?_
  walk_at "ugo"
  intro l14 H14 ex14 tr14
  walk_at "ugo"
  intro t15 y15 H15 nw15 ex15 lm15 ml15
  walk_at "ugo"
  refine Sd.k inferInstance ?_
  refine Sd.k okd ?_
  intro H16 e16
  walk_at "ugo"
  refine al_l fun l17 H17 nw17 ex17 lm17 => ?_
  walk_at "ugo"
  refine Sd.k inferInstance ?_
  refine Sd.k ok0 ?_
  intro H18 e18
  walk_at "ugo"
  refine al_l fun l19 H19 nw19 ex19 lm19 => ?_
  walk_at "ugo"
  refine Sd.k inferInstance ?_
  refine Sd.k ok1 ?_
  intro H20 e20
  haveI x20 : Ex H8 H20 := ⟨Et.et⟩
  haveI x21 : Ex H5 H20 := ⟨Et.et⟩
  haveI x22 : Ex H1 H20 := ⟨Et.et⟩
  have lf20 : LM H20 f x0 := ⟨x22.ex.a lf.lm nt_l⟩
  have lg20 : LM H20 g x1 := ⟨x22.ex.a lg.lm nt_l⟩
  have lo20 : LM H20 o x2 := ⟨x22.ex.a lo.lm nt_l⟩
  have pf20 : PtLs H20 x0 m0 := ptls_et pf x22.ex
  have pg20 : PtLs H20 x1 m1 := ptls_et pg x22.ex
  have po20 : PtLs H20 x2 m2 := ptls_et po x22.ex
  walk_at "ugo"
  intro H21 e21
  walk_at "ugo"
  refine al_l fun l22 H22 nw22 ex22 lm22 => ?_
  have p22 : PtLs H22 (x2 ++ x0) (m2 ++ m0) := ptls_et ⟨al_app po20.al pf20.al⟩ (kp_tr e21.ex ex22.ex)
  have z22 : (m2 ++ m0).length ≤ 200 := by rw [List.length_append]; omega
  have g22 : Gs (m2 ++ m0) := fun m hm => (List.mem_append.mp hm).elim (g2 m) (g0 m)
  walk_at "ugo"
  intro H23 e23
  walk_at "ugo"
  refine cut_ (fun σ H' => σ = [some (.ref a), some (.ref f), some (.ref g), some (.ref o), some (.ref hf), some (.ref hg), some (.ref due), some (.ref told), none, none, none, none, none, none, none] ∧ Ex H23 H' ∧ 0 < x0.length ∧ 0 < x1.length) ?_ (fun σ H30 h => ?_)
  · walk_at "ugo"
    refine al_l fun l24 H24 nw24 ex24 lm24 => ?_
    walk_at "ugo"
    cases he0 : x0.isEmpty with
    | true =>
      walk_at "ugo"
      refine al_l fun r1 R1 nr1 er1 lr1' => ?_
      walk_at "ugo"
      refine mk_i fun rx rdx R2 nr2 er2 ir2 => ?_
      refine ⟨rx, rdx, .non, ptA, rfl, ir2, inferInstance, ptA_ok, fun rt R3 mi3 ir3 tr3 => ⟨rfl, ?_⟩⟩
      have mk3 : MkO K R3 rx ptA := ⟨rdx, rt, ir3, tr3⟩
      haveI mn3 : MkL K R3 [] [] := mkl_nil
      have rn3 : Rise [] := .nil
      have ron3 : ∀ m ∈ ([] : List Pt), m.Ok := fun m hm => by cases hm
      have rok3 := ptA_ok
      walk_at "ugo"
      intro rl rt2 R4 pl4 nr4 er4 tm4
      obtain rfl : rl = 0 := by
        have h := pl4.1
        simp at h
        exact h
      rw [show decide (([] : List Pt)[0]? = some ptA) = false from rfl] at tm4
      walk_at "ugo"
      refine al_t' fun rt3 R5 nr5 er5 tm5 => ?_
      haveI tm4' : TM R4 rt2 [.int 0, .bl false] := tm4
      haveI tm5' : TM R5 rt3 [.int 0, .bl false] := tm5
      walk_at "ugo"
      exact k R5
    | false =>
      have hp0 : 0 < x0.length := by
        cases x0 with
        | nil => cases he0
        | cons _ _ => simp
      walk_at "ugo"
      refine al_l fun l25 H25 nw25 ex25 lm25 => ?_
      walk_at "ugo"
      cases he1 : x1.isEmpty with
      | true =>
        walk_at "ugo"
        refine al_l fun r1 R1 nr1 er1 lr1' => ?_
        walk_at "ugo"
        refine mk_i fun rx rdx R2 nr2 er2 ir2 => ?_
        refine ⟨rx, rdx, .non, ptA, rfl, ir2, inferInstance, ptA_ok, fun rt R3 mi3 ir3 tr3 => ⟨rfl, ?_⟩⟩
        have mk3 : MkO K R3 rx ptA := ⟨rdx, rt, ir3, tr3⟩
        haveI mn3 : MkL K R3 [] [] := mkl_nil
        have rn3 : Rise [] := .nil
        have ron3 : ∀ m ∈ ([] : List Pt), m.Ok := fun m hm => by cases hm
        have rok3 := ptA_ok
        walk_at "ugo"
        intro rl rt2 R4 pl4 nr4 er4 tm4
        obtain rfl : rl = 0 := by
          have h := pl4.1
          simp at h
          exact h
        rw [show decide (([] : List Pt)[0]? = some ptA) = false from rfl] at tm4
        walk_at "ugo"
        refine al_t' fun rt3 R5 nr5 er5 tm5 => ?_
        haveI tm4' : TM R4 rt2 [.int 0, .bl false] := tm4
        haveI tm5' : TM R5 rt3 [.int 0, .bl false] := tm5
        walk_at "ugo"
        exact k R5
      | false =>
        have hp1 : 0 < x1.length := by
          cases x1 with
          | nil => cases he1
          | cons _ _ => simp
        walk_at "ugo"
        exact ⟨rfl, ⟨Et.et⟩, hp0, hp1⟩
  obtain ⟨rfl, x30, hp0, hp1⟩ := h
  haveI x31 : Ex H20 H30 := ⟨Et.et⟩
  have pf30 : PtLs H30 x0 m0 := inferInstance
  have pg30 : PtLs H30 x1 m1 := inferInstance
  have lf30 : LM H30 f x0 := inferInstance
  have lg30 : LM H30 g x1 := inferInstance
  walk_at "ugo"
  rw [show cutV x0 none (some 48) = x0.take 48 from cut_to (r := 48)]
  refine al_l fun l31 H31 nw31 ex31 lm31 => ?_
  have pl31 : PtLs H31 (x0.take 48) (m0.take 48) := ptls_et ⟨al_take pf30.al 48⟩ ex31.ex
  have rs31 : Rise (m0.take 48) := List.Pairwise.sublist (List.take_sublist _ _) r0
  have gs31 : Gs (m0.take 48) := fun m hm => g0 m (List.mem_of_mem_take hm)
  have ln31 : 0 < (m0.take 48).length := by rw [List.length_take]; omega
  have le31 : (m0.take 48).length ≤ 1000 := by rw [List.length_take]; omega
  walk_at "ugo"
  rw [show (V.int 3) = V.int ((3 : Nat) : Int) from rfl]
  walk_at "ugo"
  intro i3
  walk_at "ugo"
  rw [show (V.int 4) = V.int ((4 : Nat) : Int) from rfl]
  walk_at "ugo"
  intro i4
  walk_at "ugo"
  intro t32 bad yb nb kb H32 ex32 tm32 lb pb gb fb hlb
  walk_at "ugo"
  rw [show cutV x1 none (some 48) = x1.take 48 from cut_to (r := 48)]
  refine al_l fun l33 H33 nw33 ex33 lm33 => ?_
  haveI x33 : Ex H30 H33 := ⟨Et.et⟩
  have pl33 : PtLs H33 (x1.take 48) (m1.take 48) := ptls_et ⟨al_take pg30.al 48⟩ x33.ex
  have rs33 : Rise (m1.take 48) := List.Pairwise.sublist (List.take_sublist _ _) r1
  have gs33 : Gs (m1.take 48) := fun m hm => g1 m (List.mem_of_mem_take hm)
  have ln33 : 0 < (m1.take 48).length := by rw [List.length_take]; omega
  have le33 : (m1.take 48).length ≤ 1000 := by rw [List.length_take]; omega
  walk_at "ugo"
  rw [show (V.int 5) = V.int ((5 : Nat) : Int) from rfl]
  walk_at "ugo"
  intro i5
  walk_at "ugo"
  rw [show (V.int 6) = V.int ((6 : Nat) : Int) from rfl]
  walk_at "ugo"
  intro i6
  walk_at "ugo"
  intro t34 worse yw nww kw H34 ex34 tm34 lw pw gw fw hlw
  have okb : ∀ m ∈ nb, m.Ok := fun m hm => (gb m hm).1
  have okw : ∀ m ∈ nww, m.Ok := fun m hm => (gw m hm).1
  have zb := pb.al.len
  have zw := pw.al.len
  have le0 : (m0.take 48).length ≤ 48 := by rw [List.length_take]; omega
  have le1 : (m1.take 48).length ≤ 48 := by rw [List.length_take]; omega
  haveI x34 : Ex H30 H34 := ⟨Et.et⟩
  haveI x35 : Ex H32 H34 := ⟨Et.et⟩
  have pf34 : PtLs H34 x0 m0 := inferInstance
  have hm0 : m0[0]? = some m0[0] := List.getElem?_eq_getElem (by omega)
  obtain ⟨q0, eq0, pt0⟩ := al_at pf34.al hm0
  have okq := ok0 _ (List.mem_of_getElem? hm0)
  walk_at "ugo"
  refine ix_is (atI_nat eq0) ?_
  walk_at "ugo"
  intro sx H35 nw35 ex35 mk35
  haveI x36 : Ex H32 H35 := ⟨Et.et⟩
  have pb35 : PtLs H35 yb nb := inferInstance
  have pw35 : PtLs H35 yw nww := inferInstance
  walk_at "ugo"
  intro b1 v1 H36 nw36 ex36 lm36 ml36
  walk_at "ugo"
  intro b2 v2 H37 nw37 ex37 lm37 ml37
  walk_at "ugo"
  refine al_l fun bb H38 nw38 ex38 lm38 => ?_
  walk_at "ugo"
  refine ix_is (i := ((0 : Nat) : Int)) (atI_nat rfl) ?_
  walk_at "ugo"
  refine al_t' fun u1 H39 nw39 ex39 tm39 => ?_
  walk_at "ugo"
  refine ix_is (i := ((1 : Nat) : Int)) (atI_nat rfl) ?_
  walk_at "ugo"
  refine al_t' fun u2 H40 nw40 ex40 tm40 => ?_
  walk_at "ugo"
  refine al_l fun l41 H41 nw41 ex41 lm41 => ?_
  walk_at "ugo"
  refine al_l fun l42 H42 nw42 ex42 lm42 => ?_
  have v1l := ml36.len
  have v2l := ml37.len
  haveI x42 : Ex H35 H42 := ⟨Et.et⟩
  haveI x43 : Ex H30 H42 := ⟨Et.et⟩
  have pb42 : PtLs H42 yb nb := inferInstance
  have pw42 : PtLs H42 yw nww := inferInstance
  have lb42 : LM H42 bad yb := inferInstance
  have lw42 : LM H42 worse yw := inferInstance
  have m142 : MkL K H42 v1 nb := inferInstance
  have m242 : MkL K H42 v2 nww := inferInstance
  have ms42 : MkO K H42 sx m0[0] := inferInstance
  have pf42 : PtLs H42 x0 m0 := inferInstance
  have pg42 : PtLs H42 x1 m1 := inferInstance
  have lf42 : LM H42 f x0 := inferInstance
  have lg42 : LM H42 g x1 := inferInstance
  have all : ∀ v ∈ [V.ref bb, .ref l41], ∃ t c1 c2 d1 d2, v = .ref t ∧ LM H42 t [.ref c1, .ref c2] ∧ SR K H42 c1 d1 v1 ∧ SR K H42 c2 d2 v2 := fun v hv => by
    simp only [List.mem_cons, List.not_mem_nil, or_false] at hv
    rcases hv with rfl | rfl
    · exact ⟨bb, b1, b2, false, false, rfl, inferInstance, inferInstance, inferInstance⟩
    · exact ⟨l41, u1, u2, true, true, rfl, inferInstance, inferInstance, inferInstance⟩
  walk_at "ugo"
  refine for_l (xs := [V.ref bb, .ref l41]) (fun i σ H' => (∃ o14, σ = [some (.ref a), some (.ref f), some (.ref g), some (.ref o), some (.ref hf), some (.ref hg), some (.ref due), some (.ref told), some (.ref bad), some (.int (kb : Int)), some (.ref worse), some (.int (kw : Int)), some (.ref sx), some (.ref bb), o14]) ∧ Ex H42 H') ⟨⟨_, rfl⟩, ⟨kp_rfl⟩⟩ (fun i σ H' hi hh => ?_) (fun i v σ H' hi hv hh => ?_) (fun σ H' hh => ?_)
  · obtain ⟨_, e⟩ := hh
    exact (inferInstance : LR K H' l42 _).lr
  · obtain ⟨⟨o14, rfl⟩, e⟩ := hh
    obtain ⟨t, c1, c2, d1, d2, rfl, lt, sc1, sc2⟩ := all v (List.mem_of_getElem? hv)
    have lt' : LM H' t [.ref c1, .ref c2] := inferInstance
    walk_at "ugo"
    refine ix_is (i := ((0 : Nat) : Int)) (atI_nat rfl) ?_
    walk_at "ugo"
    refine ix_is (i := ((1 : Nat) : Int)) (atI_nat rfl) ?_
    walk_at "ugo"
    refine ⟨some kb, some kw, fb, fw, .inl (by simp), fun r43 H43 nw43 ex43 lm43 => ?_⟩
    have lm43' : LM H43 r43 [.int (kb : Int), .int (kw : Int)] := lm43
    walk_at "ugo"
    refine al_l fun r44 H44 nw44 ex44 lm44 => ?_
    walk_at "ugo"
    refine ix_is (i := ((0 : Nat) : Int)) (atI_nat rfl) ?_
    walk_at "ugo"
    refine al_l fun r45 H45 nw45 ex45 lm45 => ?_
    haveI x45 : Ex H42 H45 := ⟨Et.et⟩
    walk_at "ugo"
    refine Sd.k inferInstance ?_
    refine Sd.k okb ?_
    intro H46 e46
    walk_at "ugo"
    refine ix_is (i := ((1 : Nat) : Int)) (atI_nat rfl) ?_
    walk_at "ugo"
    refine al_l fun r47 H47 nw47 ex47 lm47 => ?_
    haveI x47 : Ex H42 H47 := ⟨Et.et⟩
    walk_at "ugo"
    refine Sd.k inferInstance ?_
    refine Sd.k okw ?_
    intro H48 e48
    walk_at "ugo"
    exact ⟨⟨_, rfl⟩, ⟨Et.et⟩⟩
  · obtain ⟨⟨o14, rfl⟩, e⟩ := hh
    walk_at "ugo"
    intro r50 y50 H50 nw50 ex50 lm50 ml50
    walk_at "ugo"
    intro r51 y51 H51 nw51 ex51 lm51 ml51
    haveI x51 : Ex H42 H51 := ⟨Et.et⟩
    walk_at "ugo"
    refine ⟨none, some kw, rise_fw r0, fw, .inr (by simp), fun r52 H52 nw52 ex52 lm52 => ?_⟩
    have lm52' : LM H52 r52 [.int (kw : Int), .int (kw : Int)] := lm52
    walk_at "ugo"
    refine al_l fun r53 H53 nw53 ex53 lm53 => ?_
    haveI x53 : Ex H42 H53 := ⟨Et.et⟩
    walk_at "ugo"
    intro r54 y54 H54 nw54 ex54 lm54 ml54
    walk_at "ugo"
    intro r55 y55 H55 nw55 ex55 lm55 ml55
    haveI x55 : Ex H42 H55 := ⟨Et.et⟩
    walk_at "ugo"
    refine ⟨some kb, none, fb, rise_fw r1, .inl (by simp), fun r56 H56 nw56 ex56 lm56 => ?_⟩
    have lm56' : LM H56 r56 [.int (kb : Int)] := lm56
    walk_at "ugo"
    refine al_l fun r57 H57 nw57 ex57 lm57 => ?_
    walk_at "ugo"
    exact k H57
theorem c_law (T : Txt K mg w base) : C8.Cal P w K mg base 10 "law" (sp_law K) [] := by
  obtain ⟨fd, F, ok⟩ := ok_law (P := P) (w := w) (base := base) T
  exact cal_n F T.g_law (F.bindsN fun _ _ _ _ _ _ us hl => match us, hl with | [_], _ => rfl) ok
end
end T

namespace T
open PySem PySem.Spec PyProof.Rows L2 U
theorem fun_same {K : PySem.W.Frag} {x qual : PySem.Str} {params : Arguments} {body : List Stmt} {scope : Scope} {dvs : List V} {kws : List (PySem.Str × V)} {f : Addr} {fd fd' : FuncData} (F : FunD K x qual params body scope dvs kws f fd) (F' : FunD K x qual params body scope dvs kws f fd') : fd = fd' := by
  obtain ⟨_, _, _, _, _, _, _, _, _, _, rfl, lk, _⟩ := F.ex
  obtain ⟨_, _, _, _, _, _, _, _, _, _, rfl, lk', _⟩ := F'.ex
  have e := lk.symm.trans lk'
  injection e with e
  injection e with _ _ e
  injection e
theorem tabs_ok {K : PySem.W.Frag} {H : Hp} (h : ∀ p ∈ tf.map (He.cT K), H p.2 = some (.tbl #[])) : @U.TbR (qn K) H := by
  letI := qn K
  refine ⟨fun p hp => ?_⟩
  have hp : p ∈ tabsK K := hp
  unfold tabsK at hp
  simp only [List.mem_cons, List.not_mem_nil, or_false] at hp
  rcases hp with rfl
  · exact LamX.TabS.nil (h _ (List.mem_map.mpr ⟨("_law_sides", none), List.mem_of_getElem? (i := 0) (by rfl), rfl⟩))
/-- the law's def keeps its promise, over every base -/
theorem facts {P : Program} {w : World} {K : PySem.W.Frag} {h : Heap} {mg : PySem.Str → Option Value} {f : Addr} (X : K.In h) (G : h.Ns mainGlobals mg) (hfa : mg ("law" : PySem.Str) = some (.ref f)) (c : He.SaysX fa fn ts tf ex w h K) :
    ∃ fd : FuncData, (∀ (s : Shared) (v : Value), BindsTo s fd ⟨[v], []⟩ [("script", v)]) ∧ ∀ base : Heap, K.In base → base.Ns mainGlobals mg → (∀ p ∈ tf.map (He.cT K), LamX.TabB base mg p.1 p.2) → FnOk P w K mg base C8.CX0 10 f fd ["script"] (@sp_law (qn K) K) := by
  letI := qn K
  have T := txt_of X G c
  have e := hfa.symm.trans T.g_law
  injection e with e
  injection e with e
  subst e
  obtain ⟨fd, F⟩ := T.f_law
  have b := FunD.bindsA (ps := ["script"]) F fun _ _ _ _ _ _ us hl => match us, hl with | [_], _ => rfl
  refine ⟨fd, fun s v => b s [v] rfl, fun base _ _ hT => ?_⟩
  obtain ⟨fd', F', ok⟩ := ok_law (P := P) (w := w) (base := base) (txt_base T hT)
  have e2 : fd' = fd := fun_same F' F
  subst e2
  exact ok
end T
open PySem PySem.W PySem.Calls PyProof.Rows
theorem PySem.Challenge.cw_sievemarks_k15_joined_holds : PySem.Challenge.rw_sievemarks_k15_joined.Holds := by
  w_on; o_law
  refine HandSHeadRun.head_any (r := OpenLaw.row PySem.Challenge.rw_sievemarks_k15_joined) (q := view (OpenLaw.row PySem.Challenge.rw_sievemarks_k15_joined).prog [62]) (H := T.hk) (ob := T.ob) (M := 6000) (loose := T.loose) (d := HandSHeadRun.topDef (OpenLaw.row PySem.Challenge.rw_sievemarks_k15_joined).prog 62) (kwd := []) T.ob_eq
    (by kernel_rfl) (fun s => by kernel_rfl) T.run (by kernel_rfl) (by kernel_rfl) (by kernel_rfl) (by rfl) (by first | assumption | decide +kernel) (by decide +kernel) ⟨rfl, rfl, rfl, rfl, rfl, by decide +kernel⟩ ?hw ?hc
  case hw => w_witness2
  case hc =>
    refine LamX.walk_ofTsE (l := PySem.Challenge.rw_sievemarks_k15_joined) (n := 63) (k := 10) (x := "script") (CX := fun _ => C8.CX0) rfl (by decide) (by kernel_rfl) ⟨rfl, by decide, by decide⟩ ?F (fun _ _ _ _ _ z => z)
    intro w mg fa h Y G hmg0
    obtain ⟨K, KX, c⟩ := Y
    have hmg : mg ("law" : PySem.Str) = some (.ref fa) := by
      have e : (HandSHeadRun.topDef (OpenLaw.row PySem.Challenge.rw_sievemarks_k15_joined).prog 62).name = ("law" : PySem.Str) := by kernel_rfl
      rw [← e]
      exact hmg0
    obtain ⟨fd, hb, hF⟩ := T.facts (P := (PySem.Challenge.rw_sievemarks_k15_joined).prog) (w := w) KX G hmg c
    refine ⟨K, KX, fd, T.tf.map (He.cT K), @T.sp_law (T.qn K) K, fun p hp => ?_, fun p hp => ?_, fun p hp => ?_, hb, fun H a ns hl _ hT hS => ⟨a, ns, rfl, hS, hl, T.tabs_ok hT, fun _ => rfl⟩, hF⟩
    · obtain ⟨x, hx, e⟩ := List.mem_map.mp hp
      rw [← e]
      exact c.empty x hx
    · obtain ⟨x, hx, e⟩ := List.mem_map.mp hp
      rw [← e]
      exact c.out x hx
    · obtain ⟨x, hx, e⟩ := List.mem_map.mp hp
      rw [← e]
      exact PySem.W.codeHd_of_K KX (c.hd x hx)

