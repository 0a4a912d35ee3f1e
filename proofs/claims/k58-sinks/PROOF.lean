import PyProof.Rows.All
import Wide.All
import OpenK.AllK
import Wide.FinOn
import HandS.ForMost
import HandS.Defaults
import HandS.Head2
import HandS.HeadEnd
import HandS.HeadHook2
import HandS.MakeKwOnly
import HandS.Style
import HandS.TupMul
import HandS.TupAny
import HandS.IsInst
import KE.GoesEnum
import HandS.DictComp
import KE.SortData
import HandS.SortOrd
import HandS.SortInts
import HandS.NamedTupSort
import KE.KDictKeyed
import KE.KDictDisplayH
import KE.GoesEnumKw
import KE.GoesZip
import KE.GoesMore
import PySem.Challenge.RW_tearboard_k58_whole_sinks_counted
set_option Elab.async false
set_option linter.all false
set_option maxRecDepth 100000
set_option maxHeartbeats 0
namespace Tb
open PySem PySem.Spec PyProof.Rows L2

def topS (i : Nat) : Stmt := PySem.Challenge.pw_tearboard_k58_whole_sinks_counted.main.body.getD i (.Pass ⟨0, 0, 0, 0⟩)
abbrev sNeedColours : Stmt := topS 29
abbrev sIsTriple : Stmt := topS 30
abbrev sIsFigure : Stmt := topS 31
abbrev sNeedFigures : Stmt := topS 32
abbrev sPadsOf : Stmt := topS 33
abbrev sShare : Stmt := topS 34
abbrev sBar : Stmt := topS 35
abbrev sNeedBarred : Stmt := topS 36
abbrev sNeedTie : Stmt := topS 39
abbrev sSinks : Stmt := topS 40
abbrev sShortest : Stmt := topS 46
abbrev sLeastRow : Stmt := topS 47
abbrev sNoteAt : Stmt := topS 48
abbrev sBehind : Stmt := topS 49
abbrev sHasNotes : Stmt := topS 50
abbrev sStandsOn : Stmt := topS 54
abbrev sStandingOn : Stmt := topS 55
abbrev sTornOff : Stmt := topS 57
abbrev sTornAll : Stmt := topS 58
abbrev sOnPart : Stmt := topS 59
abbrev sSweepOf : Stmt := topS 60
abbrev sStoryOf : Stmt := topS 61
abbrev sNeedClear : Stmt := topS 63
abbrev sSweepsToEnd : Stmt := topS 64
abbrev sNeedRow : Stmt := topS 72
abbrev sRowsFrom : Stmt := topS 74
abbrev sNeedHeights : Stmt := topS 81
abbrev sDepthsOf : Stmt := topS 82
abbrev sRowsOfNotes : Stmt := topS 83
abbrev sSigned : Stmt := topS 84
abbrev sClearFillings : Stmt := topS 85
abbrev sClear : Stmt := topS 86
abbrev sNeedWeights : Stmt := topS 87
abbrev sWeightOf : Stmt := topS 88
abbrev sFraction : Stmt := topS 89
abbrev sWeightClear : Stmt := topS 90
abbrev sClearWeight : Stmt := topS 91
abbrev sLawBag : Stmt := topS 93
abbrev sLawPull : Stmt := topS 94
abbrev sLawTops : Stmt := topS 95
abbrev sLawLike : Stmt := topS 96
abbrev sLawLowest : Stmt := topS 97
abbrev sLawPower : Stmt := topS 98
abbrev sLawRows : Stmt := topS 99
abbrev sLawCopy : Stmt := topS 100
abbrev sLaw : Stmt := topS 101
abbrev sBookInit : Stmt := inClass (topS 38) 0
abbrev sBookColours : Stmt := inClass (topS 38) 5
abbrev sBookPads : Stmt := inClass (topS 38) 6
abbrev sBookFigures : Stmt := inClass (topS 38) 7
abbrev sBookShape : Stmt := inClass (topS 38) 8
abbrev sBookParts : Stmt := inClass (topS 38) 10
abbrev sBookApartSets : Stmt := inClass (topS 38) 11
abbrev sBoardInit : Stmt := inClass (topS 77) 0
abbrev sBoardGo : Stmt := inClass (topS 77) 8
abbrev sBoardDoSettle : Stmt := inClass (topS 77) 16
abbrev sBoardSettle : Stmt := inClass (topS 77) 27
abbrev sBoardRows : Stmt := inClass (topS 77) 33
/-- the address of the empty tuple that is the default of Book's figures -/
def figDflt (K : PySem.W.Frag) : Addr := match K.lookup (He.fAd K ("Book", some "__init__")) with
  | some ⟨_, _, .func fd, _⟩ => (match fd.kwdefaults with
    | .ref D => (match PySem.W.nsIn K D "figures" with
      | some (some (.ref a)) => a
      | _ => 0)
    | _ => 0)
  | _ => 0
def fnA : List He.DefD := [⟨("need_colours", none), "need_colours", "need_colours", defArgs sNeedColours, defBody sNeedColours, defScope sNeedColours, [], []⟩,
  ⟨("is_triple", none), "is_triple", "is_triple", defArgs sIsTriple, defBody sIsTriple, defScope sIsTriple, [], []⟩,
  ⟨("is_figure", none), "is_figure", "is_figure", defArgs sIsFigure, defBody sIsFigure, defScope sIsFigure, [], []⟩,
  ⟨("need_figures", none), "need_figures", "need_figures", defArgs sNeedFigures, defBody sNeedFigures, defScope sNeedFigures, [], []⟩,
  ⟨("pads_of", none), "pads_of", "pads_of", defArgs sPadsOf, defBody sPadsOf, defScope sPadsOf, [], []⟩,
  ⟨("share", none), "share", "share", defArgs sShare, defBody sShare, defScope sShare, [], []⟩,
  ⟨("bar", none), "bar", "bar", defArgs sBar, defBody sBar, defScope sBar, [], []⟩,
  ⟨("need_barred", none), "need_barred", "need_barred", defArgs sNeedBarred, defBody sNeedBarred, defScope sNeedBarred, [], []⟩,
  ⟨("need_tie", none), "need_tie", "need_tie", defArgs sNeedTie, defBody sNeedTie, defScope sNeedTie, [], []⟩,
  ⟨("sinks", none), "sinks", "sinks", defArgs sSinks, defBody sSinks, defScope sSinks, [], []⟩,
  ⟨("shortest", none), "shortest", "shortest", defArgs sShortest, defBody sShortest, defScope sShortest, [], []⟩,
  ⟨("least_row", none), "least_row", "least_row", defArgs sLeastRow, defBody sLeastRow, defScope sLeastRow, [], []⟩,
  ⟨("note_at", none), "note_at", "note_at", defArgs sNoteAt, defBody sNoteAt, defScope sNoteAt, [], []⟩,
  ⟨("behind", none), "behind", "behind", defArgs sBehind, defBody sBehind, defScope sBehind, [], []⟩,
  ⟨("has_notes", none), "has_notes", "has_notes", defArgs sHasNotes, defBody sHasNotes, defScope sHasNotes, [], []⟩,
  ⟨("stands_on", none), "stands_on", "stands_on", defArgs sStandsOn, defBody sStandsOn, defScope sStandsOn, [], []⟩,
  ⟨("standing_on", none), "standing_on", "standing_on", defArgs sStandingOn, defBody sStandingOn, defScope sStandingOn, [], []⟩,
  ⟨("torn_off", none), "torn_off", "torn_off", defArgs sTornOff, defBody sTornOff, defScope sTornOff, [], []⟩,
  ⟨("torn_all", none), "torn_all", "torn_all", defArgs sTornAll, defBody sTornAll, defScope sTornAll, [], []⟩,
  ⟨("on_part", none), "on_part", "on_part", defArgs sOnPart, defBody sOnPart, defScope sOnPart, [], []⟩,
  ⟨("sweep_of", none), "sweep_of", "sweep_of", defArgs sSweepOf, defBody sSweepOf, defScope sSweepOf, [], []⟩,
  ⟨("story_of", none), "story_of", "story_of", defArgs sStoryOf, defBody sStoryOf, defScope sStoryOf, [], []⟩,
  ⟨("need_clear", none), "need_clear", "need_clear", defArgs sNeedClear, defBody sNeedClear, defScope sNeedClear, [], []⟩,
  ⟨("sweeps_to_end", none), "sweeps_to_end", "sweeps_to_end", defArgs sSweepsToEnd, defBody sSweepsToEnd, defScope sSweepsToEnd, [], []⟩,
  ⟨("need_row", none), "need_row", "need_row", defArgs sNeedRow, defBody sNeedRow, defScope sNeedRow, [], []⟩]
def fnB : List He.DefD := [⟨("rows_from", none), "rows_from", "rows_from", defArgs sRowsFrom, defBody sRowsFrom, defScope sRowsFrom, [], []⟩,
  ⟨("need_heights", none), "need_heights", "need_heights", defArgs sNeedHeights, defBody sNeedHeights, defScope sNeedHeights, [], []⟩,
  ⟨("depths_of", none), "depths_of", "depths_of", defArgs sDepthsOf, defBody sDepthsOf, defScope sDepthsOf, [], []⟩,
  ⟨("rows_of_notes", none), "rows_of_notes", "rows_of_notes", defArgs sRowsOfNotes, defBody sRowsOfNotes, defScope sRowsOfNotes, [], []⟩,
  ⟨("signed", none), "signed", "signed", defArgs sSigned, defBody sSigned, defScope sSigned, [], []⟩,
  ⟨("clear_fillings", none), "clear_fillings", "clear_fillings", defArgs sClearFillings, defBody sClearFillings, defScope sClearFillings, [], []⟩,
  ⟨("clear", none), "clear", "clear", defArgs sClear, defBody sClear, defScope sClear, [], []⟩,
  ⟨("need_weights", none), "need_weights", "need_weights", defArgs sNeedWeights, defBody sNeedWeights, defScope sNeedWeights, [], []⟩,
  ⟨("weight_of", none), "weight_of", "weight_of", defArgs sWeightOf, defBody sWeightOf, defScope sWeightOf, [], []⟩,
  ⟨("fraction", none), "fraction", "fraction", defArgs sFraction, defBody sFraction, defScope sFraction, [], []⟩,
  ⟨("weight_clear", none), "weight_clear", "weight_clear", defArgs sWeightClear, defBody sWeightClear, defScope sWeightClear, [], []⟩,
  ⟨("clear_weight", none), "clear_weight", "clear_weight", defArgs sClearWeight, defBody sClearWeight, defScope sClearWeight, [], []⟩,
  ⟨("_law_bag", none), "_law_bag", "_law_bag", defArgs sLawBag, defBody sLawBag, defScope sLawBag, [], []⟩,
  ⟨("_law_pull", none), "_law_pull", "_law_pull", defArgs sLawPull, defBody sLawPull, defScope sLawPull, [], []⟩,
  ⟨("_law_tops", none), "_law_tops", "_law_tops", defArgs sLawTops, defBody sLawTops, defScope sLawTops, [], []⟩,
  ⟨("_law_like", none), "_law_like", "_law_like", defArgs sLawLike, defBody sLawLike, defScope sLawLike, [], []⟩,
  ⟨("_law_lowest", none), "_law_lowest", "_law_lowest", defArgs sLawLowest, defBody sLawLowest, defScope sLawLowest, [], []⟩,
  ⟨("_law_power", none), "_law_power", "_law_power", defArgs sLawPower, defBody sLawPower, defScope sLawPower, [], []⟩,
  ⟨("_law_rows", none), "_law_rows", "_law_rows", defArgs sLawRows, defBody sLawRows, defScope sLawRows, [], []⟩,
  ⟨("_law_copy", none), "_law_copy", "_law_copy", defArgs sLawCopy, defBody sLawCopy, defScope sLawCopy, [], []⟩,
  ⟨("law", none), "law", "law", defArgs sLaw, defBody sLaw, defScope sLaw, [], []⟩,
  ⟨("Book", some "__init__"), "__init__", "Book.__init__", defArgs sBookInit, defBody sBookInit, defScope sBookInit, [], [("figures", .adr figDflt)]⟩,
  ⟨("Book", some "colours"), "colours", "Book.colours", defArgs sBookColours, defBody sBookColours, defScope sBookColours, [], []⟩,
  ⟨("Book", some "pads"), "pads", "Book.pads", defArgs sBookPads, defBody sBookPads, defScope sBookPads, [], []⟩,
  ⟨("Book", some "figures"), "figures", "Book.figures", defArgs sBookFigures, defBody sBookFigures, defScope sBookFigures, [], []⟩,
  ⟨("Book", some "shape"), "shape", "Book.shape", defArgs sBookShape, defBody sBookShape, defScope sBookShape, [], []⟩,
  ⟨("Book", some "parts"), "parts", "Book.parts", defArgs sBookParts, defBody sBookParts, defScope sBookParts, [], []⟩,
  ⟨("Book", some "apart_sets"), "apart_sets", "Book.apart_sets", defArgs sBookApartSets, defBody sBookApartSets, defScope sBookApartSets, [], []⟩,
  ⟨("Board", some "__init__"), "__init__", "Board.__init__", defArgs sBoardInit, defBody sBoardInit, defScope sBoardInit, [], [("rows", .non)]⟩,
  ⟨("Board", some "go"), "go", "Board.go", defArgs sBoardGo, defBody sBoardGo, defScope sBoardGo, [], []⟩,
  ⟨("Board", some "do_settle"), "do_settle", "Board.do_settle", defArgs sBoardDoSettle, defBody sBoardDoSettle, defScope sBoardDoSettle, [], []⟩,
  ⟨("Board", some "settle"), "settle", "Board.settle", defArgs sBoardSettle, defBody sBoardSettle, defScope sBoardSettle, [], [("most", .int 20000)]⟩,
  ⟨("Board", some "rows"), "rows", "Board.rows", defArgs sBoardRows, defBody sBoardRows, defScope sBoardRows, [], []⟩]
def fn : List He.DefD := fnA ++ fnB
def faA : List He.Fa := [.glo "need_colours", .glo "is_triple", .glo "is_figure", .glo "need_figures", .glo "pads_of", .glo "share", .glo "bar", .glo "need_barred", .glo "need_tie", .glo "sinks", .glo "shortest", .glo "least_row", .glo "note_at", .glo "behind", .glo "has_notes", .glo "stands_on", .glo "standing_on", .glo "torn_off", .glo "torn_all", .glo "on_part", .glo "sweep_of", .glo "story_of", .glo "need_clear", .glo "sweeps_to_end", .glo "need_row", .glo "rows_from", .glo "need_heights", .glo "depths_of", .glo "rows_of_notes", .glo "signed", .glo "clear_fillings", .glo "clear", .glo "need_weights", .glo "weight_of", .glo "fraction", .glo "weight_clear", .glo "clear_weight", .glo "_law_bag", .glo "_law_pull", .glo "_law_tops", .glo "_law_like", .glo "_law_lowest", .glo "_law_power", .glo "_law_rows", .glo "_law_copy", .glo "law", .glo "Book", .glo "Board"]
def faB : List He.Fa := [.free "len", .free "enumerate", .free "range", .free "zip", .free "any", .free "all", .free "sum", .free "sorted", .free "tuple", .free "list", .free "int", .free "bool", .free "str", .free "isinstance", .int "MOST_PADS" 6, .int "MOST_COLOURS" 4, .int "MOST_FIGURES" 12, .int "MOST_DEPTH" 3, .int "MOST_POINTS" 7, .int "MOST_LEAD" 400, .int "MOST_ROUND" 12, .int "MOST_HEIGHT" 6, .int "MOST_WEIGHT" 999, .cls "Book", .mkr "Book", .noat "Book" "hues", .noat "Book" "shapes", .meth "Book" "__init__", .meth "Book" "colours", .meth "Book" "pads", .meth "Book" "figures", .meth "Book" "shape", .meth "Book" "parts", .meth "Book" "apart_sets", .cls "Board", .mkr "Board", .noat "Board" "now", .noat "Board" "holder", .noat "Board" "past", .noat "Board" "ahead", .noat "Board" "run", .noat "Board" "whole", .noat "Board" "tally", .meth "Board" "__init__", .meth "Board" "go", .meth "Board" "do_settle", .meth "Board" "settle", .meth "Board" "rows"]
def fa : List He.Fa := faA ++ faB
def nm0 : List PySem.Str := ["_wall", "TearError", "Missing", "BadColours", "BadFigure", "Meeting", "TooMany", "TooFar", "BadRow", "BadNote", "BadBeneath", "Full", "NoEnd", "NotStanding"]
def nm1 : List PySem.Str := ["NeverClear", "BadDeed", "BadNumber", "BadHeights", "BadWeights", "NoPad", "NoFigure", "NoNote", "MOST_PADS", "MOST_COLOURS", "MOST_FIGURES", "MOST_DEPTH", "MOST_POINTS", "need_colours"]
def nm2 : List PySem.Str := ["is_triple", "is_figure", "need_figures", "pads_of", "share", "bar", "need_barred", "triple_text", "Book", "need_tie", "sinks", "layered", "MOST_LEAD", "MOST_ROUND"]
def nm3 : List PySem.Str := ["shortest", "least_row", "note_at", "behind", "has_notes", "first_notes", "changed", "stands_on", "standing_on", "notes_torn", "torn_off", "torn_all", "on_part", "sweep_of"]
def nm4 : List PySem.Str := ["story_of", "part_with", "need_clear", "sweeps_to_end", "notes_text", "row_text", "book_text", "MOST_WALKED", "THINGS", "need_row", "need_room", "rows_from", "laid_on", "are_beneath"]
def nm5 : List PySem.Str := ["Board", "MOST_HEIGHT", "MOST_WEIGHT", "need_heights", "depths_of", "rows_of_notes", "signed", "clear_fillings", "clear", "need_weights", "weight_of", "fraction", "weight_clear", "clear_weight"]
def nm6 : List PySem.Str := ["_law_bag", "_law_pull", "_law_tops", "_law_like", "_law_lowest", "_law_power", "_law_rows", "_law_copy"]
def nms : List PySem.Str := nm0 ++ nm1 ++ nm2 ++ nm3 ++ nm4 ++ nm5 ++ nm6
abbrev R : PySem.W.OpenRow := PySem.W.OpenLaw.row PySem.Challenge.rw_tearboard_k58_whole_sinks_counted
def gn0 : List PySem.Str := ["need_colours", "is_triple", "is_figure", "need_figures", "pads_of", "share", "bar", "need_barred", "need_tie", "sinks", "shortest", "least_row"]
def gn1 : List PySem.Str := ["note_at", "behind", "has_notes", "stands_on", "standing_on", "torn_off", "torn_all", "on_part", "sweep_of", "story_of", "need_clear", "sweeps_to_end"]
def gn2 : List PySem.Str := ["need_row", "rows_from", "need_heights", "depths_of", "rows_of_notes", "signed", "clear_fillings", "clear", "need_weights", "weight_of", "fraction", "weight_clear"]
def gn3 : List PySem.Str := ["clear_weight", "_law_bag", "_law_pull", "_law_tops", "_law_like", "_law_lowest", "_law_power", "_law_rows", "_law_copy", "law"]
def gns : List PySem.Str := gn0 ++ gn1 ++ gn2 ++ gn3
def msBook : List PySem.Str := ["__init__", "colours", "pads", "figures", "shape", "parts", "apart_sets"]
def msBoard : List PySem.Str := ["__init__", "go", "do_settle", "settle", "rows"]
/-- what is looked at: the module's names, the defs with their codes and keyword defaults, the classes with their dicts and methods -/
def nsOf (g : Addr → Option Obj) (C : Addr) : Addr := match g C with
  | some ⟨_, _, .cls cd, _⟩ => cd.ns
  | _ => 0
def entAt (g : Addr → Option Obj) (d : Addr) (x : PySem.Str) : Addr := match g d with
  | some ⟨_, _, .dict es _, _⟩ => (match es.toList.find? (·.key.isStr x) with
    | some e => (match e.val with
      | .ref a => a
      | _ => 0)
    | none => 0)
  | _ => 0
def subs (g : Addr → Option Obj) (f : Addr) : List Addr := match g f with
  | some ⟨_, _, .func fd, _⟩ => He.refV fd.code ++ He.refV fd.kwdefaults
  | _ => []
def withSubs (g : Addr → Option Obj) : List Addr → List Addr
  | [] => []
  | f :: r => f :: (subs g f ++ withSubs g r)
def clsAd (g : Addr → Option Obj) (C : Addr) (ms : List PySem.Str) : List Addr := C :: nsOf g C :: withSubs g (ms.map (entAt g (nsOf g C)))
def asO (g : Addr → Option Obj) : List Addr := mainGlobals :: (clsAd g (entAt g mainGlobals "Book") msBook ++ (clsAd g (entAt g mainGlobals "Board") msBoard ++ withSubs g (gns.map (entAt g mainGlobals))))
def obG (g : Addr → Option Obj) : He.AlD := He.obsD fa fn (He.frG g (asO g))
def hk : PySem.W.Hook where
  α := He.AlD
  obs := fun s => obG s.heap.get?
  val := fun _ => He.valD fn
  says := fun _ h => ∃ K : PySem.W.Frag, K.In h ∧ He.SaysD fa fn K
  of := fun _ _ e => ⟨_, He.frG_in, e⟩
  keeps := fun _ _ _ ⟨K, hK, c⟩ k => ⟨K, PySem.W.Frag.In.keeps hK k, c⟩
def ob (s : PySem.W.SharedT) : He.AlD := obG (HandSHeadRun.getT s)
theorem ob_eq (s : PySem.W.SharedT) : ob s = hk.obs s.abs := by
  have e : (HandSHeadRun.getT s) = s.abs.heap.get? := funext (HandSHeadRun.getT_eq s)
  unfold ob
  rw [e]
  rfl
end Tb
set_option Elab.async false
set_option linter.all false
set_option maxRecDepth 100000
set_option maxHeartbeats 1000000
/-! A layer over HandS: what an expression evaluates to, as data; the heap is hidden in the judgements. -/
namespace DL
open PySem PySem.Spec PyProof.Rows L2
/-! ### heaps that grow -/
theorem same_t {K : PySem.W.Frag} {H H' : Hp} {a : Addr} {xs : List V} (e : Same H H') (h : SqT K H a xs) : SqT K H' a xs := by
  rcases h with (h | ⟨o, h⟩) | h
  · exact .inl (.inl (e _ _ h))
  · exact .inl (.inr ⟨o, e _ _ h⟩)
  · exact .inr h
theorem same_new {H : Hp} {p : Addr} {o : HO} (h : H p = none) : Same H (upd H p o) := fun b x e => by
  rw [upd_ne (ne_of_none e h)]
  exact e
mutual
theorem dp_mono {K : PySem.W.Frag} {H H' : Hp} (e : Same H H') : ∀ {v : V} {d : PyData}, Dp K H v d → Dp K H' v d
  | _, _, .non => .non
  | _, _, .bl b => .bl b
  | _, _, .int i => .int i
  | _, _, .str x => .str x
  | _, _, .lst h r => .lst (e.seq h) (dpa_mono e r)
  | _, _, .tup h r => .tup (same_t e h) (dpa_mono e r)
theorem dpa_mono {K : PySem.W.Frag} {H H' : Hp} (e : Same H H') : ∀ {vs : List V} {ds : List PyData}, DpAll K H vs ds → DpAll K H' vs ds
  | _, _, .nil => .nil
  | _, _, .cons h r => .cons (dp_mono e h) (dpa_mono e r)
end
theorem dpa_len {K : PySem.W.Frag} {H : Hp} : ∀ {vs : List V} {ds : List PyData}, DpAll K H vs ds → vs.length = ds.length
  | _, _, .nil => rfl
  | _, _, .cons _ r => congrArg (· + 1) (dpa_len r)
theorem dpa_get {K : PySem.W.Frag} {H : Hp} : ∀ {vs : List V} {ds : List PyData} {i : Nat} {d : PyData}, DpAll K H vs ds → ds[i]? = some d → ∃ v, vs[i]? = some v ∧ Dp K H v d
  | _, _, _, _, .nil, h => by simp at h
  | _, _, 0, _, .cons h _, e => ⟨_, rfl, by
      have := Option.some.inj e
      subst this
      exact h⟩
  | _, _, i + 1, _, .cons _ r, e => dpa_get (i := i) r e
theorem dpa_app {K : PySem.W.Frag} {H : Hp} : ∀ {vs ws : List V} {ds es : List PyData}, DpAll K H vs ds → DpAll K H ws es → DpAll K H (vs ++ ws) (ds ++ es)
  | _, _, _, _, .nil, h => h
  | _, _, _, _, .cons a r, h => .cons a (dpa_app r h)
theorem dpa_take {K : PySem.W.Frag} {H : Hp} : ∀ {vs : List V} {ds : List PyData} (n : Nat), DpAll K H vs ds → DpAll K H (vs.take n) (ds.take n)
  | _, _, 0, _ => by
    rw [List.take_zero, List.take_zero]
    exact .nil
  | _, _, _ + 1, .nil => .nil
  | _, _, n + 1, .cons a r => .cons a (dpa_take n r)
theorem dpa_drop {K : PySem.W.Frag} {H : Hp} : ∀ {vs : List V} {ds : List PyData} (n : Nat), DpAll K H vs ds → DpAll K H (vs.drop n) (ds.drop n)
  | _, _, 0, h => h
  | _, _, _ + 1, .nil => .nil
  | _, _, n + 1, .cons _ r => dpa_drop n r
theorem dpa_set {K : PySem.W.Frag} {H : Hp} {v : V} {d : PyData} (h : Dp K H v d) : ∀ {vs : List V} {ds : List PyData} (n : Nat), DpAll K H vs ds → DpAll K H (vs.set n v) (ds.set n d)
  | _, _, _, .nil => .nil
  | _, _, 0, .cons _ r => .cons h r
  | _, _, n + 1, .cons a r => .cons a (dpa_set h n r)
theorem dpa_ints {K : PySem.W.Frag} {H : Hp} : ∀ {vs : List V} {ns : List Int}, DpAll K H vs (ns.map PyData.int) → vs = ns.map V.int
  | _, [], .nil => rfl
  | _, n :: ns, .cons h r => by
    cases h
    rw [dpa_ints r]
    rfl
theorem dpa_bools {K : PySem.W.Frag} {H : Hp} : ∀ {vs : List V} {ns : List Bool}, DpAll K H vs (ns.map PyData.bool) → vs = ns.map V.bl
  | _, [], .nil => rfl
  | _, n :: ns, .cons h r => by
    cases h
    rw [dpa_bools r]
    rfl
theorem ints_dpa {K : PySem.W.Frag} {H : Hp} : ∀ (ns : List Int), DpAll K H (ns.map V.int) (ns.map PyData.int)
  | [] => .nil
  | n :: ns => .cons (.int n) (ints_dpa ns)
/-- a step: the heap H grows to H', its settled part G to G'; what was not settled stays so -/
structure Frm (G H G' H' : Hp) : Prop where
  h : Same H H'
  g : Same G G'
  s : Same G' H'
  o : ∀ p, H p ≠ none → G p = none → G' p = none
theorem Frm.refl {G H : Hp} (s : Same G H) : Frm G H G H := ⟨Same.refl _, Same.refl _, s, fun _ _ h => h⟩
theorem Frm.trans {G H G1 H1 G2 H2 : Hp} (a : Frm G H G1 H1) (b : Frm G1 H1 G2 H2) : Frm G H G2 H2 :=
  ⟨a.h.trans b.h, a.g.trans b.g, b.s, fun p hp hg => b.o p (fun q => hp (a.h.free q)) (a.o p hp hg)⟩
theorem free_up {H H' : Hp} {p : Addr} (e : Same H H') (h : H' p = none) : H p = none := e.free h
/-- a new object, settled at once -/
theorem Frm.new {G H : Hp} {p : Addr} {o : HO} (s : Same G H) (h : H p = none) : Frm G H (upd G p o) (upd H p o) := by
  refine ⟨same_new h, same_new (s.free h), fun b x e => ?_, fun b hb hg => ?_⟩
  · by_cases hbp : b = p
    · subst hbp
      rw [upd_same] at e ⊢
      exact e
    · rw [upd_ne hbp] at e ⊢
      exact s _ _ e
  · rw [upd_ne (fun (q : b = p) => hb (by rw [q]; exact h))]
    exact hg
/-- a new object, not settled -/
theorem Frm.own {G H : Hp} {p : Addr} {o : HO} (s : Same G H) (h : H p = none) : Frm G H G (upd H p o) :=
  ⟨same_new h, Same.refl _, s.trans (same_new h), fun _ _ h => h⟩
/-! ### types of values, of slots -/
structure Ty where
  P : PySem.W.Frag → Hp → V → Prop
  mono : ∀ {K : PySem.W.Frag} {H H' : Hp} {v : V}, Same H H' → P K H v → P K H' v
def tD (d : PyData) : Ty := ⟨fun K H v => Dp K H v d, fun e h => dp_mono e h⟩
/-- one type within another -/
def Ty.le (T U : Ty) : Prop := ∀ (K : PySem.W.Frag) (H : Hp) (v : V), T.P K H v → U.P K H v
theorem Ty.le_refl (T : Ty) : T.le T := fun _ _ _ h => h
/-- a union of types -/
def tEx {α : Type} (F : α → Prop) (T : α → Ty) : Ty := ⟨fun K H v => ∃ a, F a ∧ (T a).P K H v, fun e ⟨a, f, h⟩ => ⟨a, f, (T a).mono e h⟩⟩
structure Sl where
  P : PySem.W.Frag → Hp → Hp → Hp → V → Prop
  pure : Bool
  keep : ∀ {K : PySem.W.Frag} {W G H G' H' : Hp} {v : V}, Frm G H G' H' → P K W G H v → P K W G' H' v
  any : pure = true → ∀ {K : PySem.W.Frag} {W G H W' H' : Hp} {v : V}, P K W G H v → P K W' G H' v
def sv (T : Ty) : Sl := ⟨fun K _ G _ v => T.P K G v, true, fun f h => T.mono f.g h, fun _ _ _ _ _ _ _ _ h => h⟩
abbrev sD (d : PyData) : Sl := sv (tD d)
/-- a list that is this def's own, to be changed yet -/
def so (ds : List PyData) : Sl := ⟨fun K W G H v => ∃ (p : Addr) (xs : List V), v = .ref p ∧ W p = none ∧ G p = none ∧ H p = some (.lst xs) ∧ DpAll K G xs ds, false,
  fun f ⟨p, xs, e, hw, hg, hh, r⟩ => ⟨p, xs, e, hw, f.o p (by rw [hh]; intro q; cases q) hg, f.h _ _ hh, dpa_mono f.g r⟩, fun h => by cases h⟩
abbrev Gm := List (Option Sl)
structure Sat (K : PySem.W.Frag) (G0 W : Hp) (Γ : Gm) (G : Hp) (σ : L2.St) (H : Hp) : Prop where
  fr : Frm G0 W G H
  len : σ.length = Γ.length
  at_ : ∀ (i : Nat) (S : Sl), Γ[i]? = some (some S) → ∃ v, σ[i]? = some (some v) ∧ S.P K W G H v
theorem Sat.step {K : PySem.W.Frag} {G0 W G H G' H' : Hp} {Γ : Gm} {σ : L2.St} (s : Sat K G0 W Γ G σ H) (f : Frm G H G' H') : Sat K G0 W Γ G' σ H' :=
  ⟨s.fr.trans f, s.len, fun i S h => by
    obtain ⟨v, e, p⟩ := s.at_ i S h
    exact ⟨v, e, S.keep f p⟩⟩
theorem Sat.put {K : PySem.W.Frag} {G0 W G H : Hp} {Γ : Gm} {σ : L2.St} (s : Sat K G0 W Γ G σ H) (i : Nat) {S : Sl} {v : V} (h : S.P K W G H v) : Sat K G0 W (Γ.set i (some S)) G (σ.set i (some v)) H :=
  ⟨s.fr, by rw [List.length_set, List.length_set, s.len], fun j S' hj => by
    by_cases hij : i = j
    · subst hij
      have hl : i < Γ.length := by
        have := (List.getElem?_eq_some_iff.mp hj).1
        rw [List.length_set] at this
        exact this
      rw [List.getElem?_set_self hl] at hj
      cases Option.some.inj (Option.some.inj hj)
      exact ⟨v, List.getElem?_set_self (s.len ▸ hl), h⟩
    · rw [List.getElem?_set_ne hij] at hj
      obtain ⟨v', e, p⟩ := s.at_ j S' hj
      exact ⟨v', by rw [List.getElem?_set_ne hij]; exact e, p⟩⟩
theorem Sat.drop {K : PySem.W.Frag} {G0 W G H : Hp} {Γ Γ' : Gm} {σ : L2.St} (s : Sat K G0 W Γ G σ H) (hl : Γ'.length = Γ.length) (h : ∀ (i : Nat) (S : Sl), Γ'[i]? = some (some S) → Γ[i]? = some (some S)) : Sat K G0 W Γ' G σ H :=
  ⟨s.fr, s.len.trans hl.symm, fun i S e => s.at_ i S (h i S e)⟩
/-! ### the context of a def's code -/
structure Ev where
  P : Program
  w : World
  K : PySem.W.Frag
  mg : Str → Option Value
  base : Heap
structure Cc where
  E : Ev
  N : List Str
  sc : Scope
  fn : Str → Bool
  k : Nat
structure XOk (C : Cc) (X : Cx) : Prop where
  p : X.prog = C.E.P
  w : X.w = C.E.w
  K : X.K = C.E.K
  mg : X.mg = C.E.mg
  base : X.base = C.E.base
  N : X.N = C.N
  sc : X.env.scope = C.sc
  fn : X.fn = C.fn
  calm : X.calm = true
  room : Room C.k X.A
  xe : X.xe = fun _ _ => False
/-- a comprehension's scope, as it runs -/
def relS (scope sc : Scope) : Scope :=
  { scope with names := scope.names.map fun (n, k) => if (k == NameKind.free && sc.kind == .function && sc.names.lookup n == some .cell) then (n, NameKind.cell) else (n, k) }
def Cc.blk (C : Cc) (scope : Scope) : Cc := { C with sc := relS scope C.sc, fn := fun x => scope.names.lookup x == some .cell }
theorem XOk.blk {C : Cc} {X : Cx} (h : XOk C X) (scope : Scope) (s : Shared) (H : Hp) (A : Addr) (cl : List (Str × Addr)) (fp : List Addr) : XOk (C.blk scope) (X.blk s H scope (compEnvC scope cl A X.env) fp) :=
  ⟨h.p, h.w, h.K, h.mg, h.base, h.N, by
    show (relabel scope X.env) = relS scope C.sc
    rw [← h.sc]
    rfl, rfl, h.calm, h.room, rfl⟩
/-! ### the judgements -/
def wE (X : Cx) (e : Expr) : TE := fun σ H Q => ∀ (pins : List (Addr × Obj)) (s : Shared), Inv X pins σ H s → wpAny (model X.prog X.w) X.A (eval e X.env) (EP X pins σ Q) X.xe s
def wT (X : Cx) (e : Expr) : TT := fun σ H Q => ∀ (pins : List (Addr × Obj)) (s : Shared), Inv X pins σ H s → wpAny (model X.prog X.w) X.A (isTrue e X.env (eval e X.env)) (TP X pins σ Q) X.xe s
def wA (X : Cx) (es : List Expr) : TA := fun σ H Q => ∀ (pos : Pos) (pins : List (Addr × Obj)) (s : Shared), Inv X pins σ H s → wpAny (model X.prog X.w) X.A (spliced (backTo pos (starEach es X.env))) (AP X pins σ Q) X.xe s
def wS (X : Cx) (st : List Stmt) : TS := fun D σ H => ∀ (pins : List (Addr × Obj)) (s : Shared), Inv X pins σ H s → wpAny (model X.prog X.w) X.A (execs st X.env) (SP X pins D) X.xe s
theorem pe_w {X : Cx} {e : Expr} : PE X e (wE X e) := ⟨fun pins s σ H Q I h => h pins s I⟩
theorem pt_w {X : Cx} {e : Expr} : PT X e (wT X e) := ⟨fun pins s σ H Q I h => h pins s I⟩
theorem pa_w {X : Cx} {e : List Expr} : PA X e (wA X e) := ⟨fun pos pins s σ H Q I h => h pos pins s I⟩
theorem ps_w {X : Cx} {e : List Stmt} : PSs X e (wS X e) := ⟨fun pins s σ H Q I h => h pins s I⟩
theorem w_pe {X : Cx} {e : Expr} {t : TE} (p : PE X e t) {σ : L2.St} {H : Hp} {Q : VK} (h : t σ H Q) : wE X e σ H Q := fun pins s I => p.run pins s σ H Q I h
theorem w_pt {X : Cx} {e : Expr} {t : TT} (p : PT X e t) {σ : L2.St} {H : Hp} {Q : Bool → Hp → Prop} (h : t σ H Q) : wT X e σ H Q := fun pins s I => p.run pins s σ H Q I h
theorem w_pa {X : Cx} {e : List Expr} {t : TA} (p : PA X e t) {σ : L2.St} {H : Hp} {Q : List V → Hp → Prop} (h : t σ H Q) : wA X e σ H Q := fun pos pins s I => p.run pos pins s σ H Q I h
theorem w_ps {X : Cx} {e : List Stmt} {t : TS} (p : PSs X e t) {σ : L2.St} {H : Hp} {D : Ends} (h : t D σ H) : wS X e D σ H := fun pins s I => p.run pins s σ H D I h
/-- the expression has a value of this type -/
def DE (C : Cc) (e : Expr) (Γ : Gm) (T : Ty) : Prop := ∀ X, XOk C X → ∀ (G0 W G : Hp) (σ : L2.St) (H : Hp) (Q : VK), Sat C.E.K G0 W Γ G σ H →
  (∀ (v : V) (G' H' : Hp), Frm G H G' H' → T.P C.E.K G' v → Q v H') → wE X e σ H Q
/-- the expression makes a new list, not settled yet -/
def DEo (C : Cc) (e : Expr) (Γ : Gm) (ds : List PyData) : Prop := ∀ X, XOk C X → ∀ (G0 W G : Hp) (σ : L2.St) (H : Hp) (Q : VK), Sat C.E.K G0 W Γ G σ H →
  (∀ (p : Addr) (xs : List V) (G' H' : Hp), Frm G H G' H' → H p = none → G' p = none → H' p = some (.lst xs) → DpAll C.E.K G' xs ds → Q (.ref p) H') → wE X e σ H Q
def DT (C : Cc) (e : Expr) (Γ : Gm) (b : Bool) : Prop := ∀ X, XOk C X → ∀ (G0 W G : Hp) (σ : L2.St) (H : Hp) (Q : Bool → Hp → Prop), Sat C.E.K G0 W Γ G σ H →
  (∀ (G' H' : Hp), Frm G H G' H' → Q b H') → wT X e σ H Q
inductive All2 {α β : Type} (F : α → β → Prop) : List α → List β → Prop
  | nil : All2 F [] []
  | cons {a b as bs} : F a b → All2 F as bs → All2 F (a :: as) (b :: bs)
theorem All2.imp {α β : Type} {F F' : α → β → Prop} (h : ∀ a b, F a b → F' a b) : ∀ {as : List α} {bs : List β}, All2 F as bs → All2 F' as bs
  | _, _, .nil => .nil
  | _, _, .cons a r => .cons (h _ _ a) (All2.imp h r)
theorem All2.length {α β : Type} {F : α → β → Prop} : ∀ {as : List α} {bs : List β}, All2 F as bs → as.length = bs.length
  | _, _, .nil => rfl
  | _, _, .cons _ r => congrArg (· + 1) r.length
def Are (K : PySem.W.Frag) (G : Hp) (Ts : List Ty) (vs : List V) : Prop := All2 (fun T v => T.P K G v) Ts vs
theorem Are.mono {K : PySem.W.Frag} {G G' : Hp} {Ts : List Ty} {vs : List V} (e : Same G G') (h : Are K G Ts vs) : Are K G' Ts vs := All2.imp (fun T v p => T.mono e p) h
theorem are_dpa {K : PySem.W.Frag} {G : Hp} : ∀ {ds : List PyData} {vs : List V}, Are K G (ds.map tD) vs → DpAll K G vs ds
  | [], _, .nil => .nil
  | _ :: _, _, .cons h r => .cons h (are_dpa r)
def DA (C : Cc) (es : List Expr) (Γ : Gm) (Ts : List Ty) : Prop := ∀ X, XOk C X → ∀ (G0 W G : Hp) (σ : L2.St) (H : Hp) (Q : List V → Hp → Prop), Sat C.E.K G0 W Γ G σ H →
  (∀ (vs : List V) (G' H' : Hp), Frm G H G' H' → Are C.E.K G' Ts vs → Q vs H') → wA X es σ H Q
/-- what is wanted behind a block -/
structure Po where
  nx : Gm → Prop
  rt : Ty → Prop
  bk : Gm → Prop := fun _ => False
  ct : Gm → Prop := fun _ => False
  rs : Gm → Ty → Prop := fun _ _ => False
structure Fits (K : PySem.W.Frag) (G0 W : Hp) (R : Po) (D : Ends) : Prop where
  nx : ∀ (Γ : Gm) (G : Hp) (σ : L2.St) (H : Hp), R.nx Γ → Sat K G0 W Γ G σ H → D.nx σ H
  rt : ∀ (T : Ty) (v : V) (G H : Hp), R.rt T → Frm G0 W G H → T.P K G v → D.rt v H
  bk : ∀ (Γ : Gm) (G : Hp) (σ : L2.St) (H : Hp), R.bk Γ → Sat K G0 W Γ G σ H → D.bk σ H
  ct : ∀ (Γ : Gm) (G : Hp) (σ : L2.St) (H : Hp), R.ct Γ → Sat K G0 W Γ G σ H → D.ct σ H
  rs : ∀ (Γ : Gm) (T : Ty) (v : V) (G : Hp) (σ : L2.St) (H : Hp), R.rs Γ T → Sat K G0 W Γ G σ H → T.P K G v → D.rt v H
def DS (C : Cc) (sts : List Stmt) (Γ : Gm) (R : Po) : Prop := ∀ X, XOk C X → ∀ (G0 W G : Hp) (σ : L2.St) (H : Hp) (D : Ends), Sat C.E.K G0 W Γ G σ H → Fits C.E.K G0 W R D → wS X sts D σ H
/-! ### expressions -/
section
variable {C : Cc} {Γ : Gm} {T Ta Tb : Ty} {e a b c : Expr} {pos : Pos}
theorem DE.le {T' : Ty} (h : DE C e Γ T) (l : T.le T') : DE C e Γ T' := fun X ok G0 W G σ H Q s q => h X ok G0 W G σ H Q s fun v G' H' f p => q v G' H' f (l _ _ _ p)
theorem DE.is {d d' : PyData} (h : DE C e Γ (tD d)) (l : d = d') : DE C e Γ (tD d') := l ▸ h
theorem DT.is {x y : Bool} (h : DT C e Γ x) (l : x = y) : DT C e Γ y := l ▸ h
theorem DEo.is {d d' : List PyData} (h : DEo C e Γ d) (l : d = d') : DEo C e Γ d' := l ▸ h
theorem d_var {i : Nat} {x : Str} (hN : C.N[i]? = some x) (hv : Vis C.sc x) (hG : Γ[i]? = some (some (sv T))) (hd : (x == ("__debug__" : Str)) = false := by decide) (hcd : (x == ("__classdict__" : Str)) = false := by decide) : DE C (.Name x pos) Γ T := by
  intro X ok G0 W G σ H Q s q
  refine w_pe (pe_var (i := i) (by rw [ok.N]; exact hN) (by rw [ok.sc]; exact hv) hd hcd) ?_
  obtain ⟨v, e, p⟩ := s.at_ i _ hG
  exact ⟨v, e, q v G H (Frm.refl s.fr.s) p⟩
theorem d_int {i : Int} {j : Nat} : DE C (.Constant (.int i) j pos) Γ (tD (.int i)) := fun X ok G0 W G σ H Q s q => w_pe pe_int (q _ G H (Frm.refl s.fr.s) (.int i))
theorem d_bl {i : Bool} {j : Nat} : DE C (.Constant (.bool i) j pos) Γ (tD (.bool i)) := fun X ok G0 W G σ H Q s q => w_pe pe_bl (q _ G H (Frm.refl s.fr.s) (.bl i))
theorem d_str {x : Str} {j : Nat} : DE C (.Constant (.str x) j pos) Γ (tD (.str x)) := fun X ok G0 W G σ H Q s q => w_pe pe_str (q _ G H (Frm.refl s.fr.s) (.str x))
theorem d_non {j : Nat} : DE C (.Constant .none j pos) Γ (tD .none) := fun X ok G0 W G σ H Q s q => w_pe pe_non (q _ G H (Frm.refl s.fr.s) .non)
/-- a constant of the module -/
theorem d_glob {x : Str} {i : Int} (hg : C.sc.names.lookup x = some .globalImplicit) (hm : ∃ t, C.E.mg x = some (.int i t)) (hd : (x == ("__debug__" : Str)) = false := by decide) : DE C (.Name x pos) Γ (tD (.int i)) := by
  intro X ok G0 W G σ H Q s q
  obtain ⟨t, hm⟩ := hm
  refine w_pe (pe_glob (v := .int i) (by show X.env.scope.names.lookup x = _; rw [ok.sc]; exact hg) (by rw [ok.mg]; exact hm) ⟨t, rfl⟩ hd) ?_
  exact q _ G H (Frm.refl s.fr.s) (.int i)
/-! operators, by what they give of values -/
/-- on values of types Ta, Tb the operator gives one of type T -/
def Op2 (C : Cc) (r : PySem.W.Frag → R2) (Ta Tb T : Ty) : Prop := ∀ (G H : Hp) (x y : V) (Q : VK), Same G H → Ta.P C.E.K G x → Tb.P C.E.K G y → (∀ (v : V) (G' H' : Hp), Frm G H G' H' → T.P C.E.K G' v → Q v H') → r C.E.K x y H Q
theorem d_op {op : Operator} {r : PySem.W.Frag → R2} (ho : ∀ X : Cx, X.calm = true → OpR X (binaryOp op) (r X.K)) (ha : DE C a Γ Ta) (hb : DE C b Γ Tb) (hr : Op2 C r Ta Tb T) : DE C (.BinOp a op b pos) Γ T := by
  intro X ok G0 W G σ H Q s q
  refine w_pe (pe_op (ho X ok.calm) pe_w pe_w) ?_
  refine ha X ok G0 W G σ H _ s fun x G1 H1 f1 px => ?_
  refine hb X ok G0 W G1 σ H1 _ (s.step f1) fun y G2 H2 f2 py => ?_
  rw [ok.K]
  exact hr G2 H2 x y Q f2.s (Ta.mono f2.g px) py fun v G3 H3 f3 pv => q v G3 H3 (f1.trans (f2.trans f3)) pv
theorem d_cmp {op : CmpOp} {r : PySem.W.Frag → R2} (ho : ∀ X : Cx, X.calm = true → Room C.k X.A → OpR X (compareOp op) (r X.K)) (ha : DE C a Γ Ta) (hb : DE C b Γ Tb) (hr : Op2 C r Ta Tb T) (hm : behindInMarks op b = false) : DE C (.Compare a [op] [b] pos) Γ T := by
  intro X ok G0 W G σ H Q s q
  refine w_pe (pe_cmpR (ho X ok.calm ok.room) pe_w pe_w hm) ?_
  refine ha X ok G0 W G σ H _ s fun x G1 H1 f1 px => ?_
  refine hb X ok G0 W G1 σ H1 _ (s.step f1) fun y G2 H2 f2 py => ?_
  rw [ok.K]
  exact hr G2 H2 x y Q f2.s (Ta.mono f2.g px) py fun v G3 H3 f3 pv => q v G3 H3 (f1.trans (f2.trans f3)) pv
theorem dt_cmp {op : CmpOp} {r : PySem.W.Frag → R2} {k : Bool} (ho : ∀ X : Cx, X.calm = true → Room C.k X.A → OpR X (compareOp op) (r X.K)) (ha : DE C a Γ Ta) (hb : DE C b Γ Tb) (hr : Op2 C r Ta Tb (tD (.bool k))) (hm : behindInMarks op b = false) : DT C (.Compare a [op] [b] pos) Γ k := by
  intro X ok G0 W G σ H Q s q
  refine w_pt (pt_cmpR (ho X ok.calm ok.room) pe_w pe_w hm) ?_
  refine ha X ok G0 W G σ H _ s fun x G1 H1 f1 px => ?_
  refine hb X ok G0 W G1 σ H1 _ (s.step f1) fun y G2 H2 f2 py => ?_
  rw [ok.K]
  refine hr G2 H2 x y _ f2.s (Ta.mono f2.g px) py fun v G3 H3 f3 pv => ?_
  cases pv
  exact ⟨k, rfl, q G3 H3 (f1.trans (f2.trans f3))⟩
end
end DL
set_option Elab.async false
set_option linter.all false
set_option maxRecDepth 100000
set_option maxHeartbeats 1000000
namespace DL
open PySem PySem.Spec PyProof.Rows L2
/-! ### what a value of a type is -/
theorem dp_int {K : PySem.W.Frag} {H : Hp} {v : V} {i : Int} (h : (tD (.int i)).P K H v) : v = .int i := by
  cases h
  rfl
theorem dp_bool {K : PySem.W.Frag} {H : Hp} {v : V} {i : Bool} (h : (tD (.bool i)).P K H v) : v = .bl i := by
  cases h
  rfl
theorem dp_str {K : PySem.W.Frag} {H : Hp} {v : V} {i : Str} (h : (tD (.str i)).P K H v) : v = .str i := by
  cases h
  rfl
theorem dp_lst {K : PySem.W.Frag} {H : Hp} {v : V} {ds : List PyData} (h : (tD (.list ds)).P K H v) : ∃ p xs, v = .ref p ∧ SqL K H p xs ∧ DpAll K H xs ds := by
  cases h with
  | lst a b => exact ⟨_, _, rfl, a, b⟩
theorem dp_tup {K : PySem.W.Frag} {H : Hp} {v : V} {ds : List PyData} (h : (tD (.tuple ds)).P K H v) : ∃ p xs, v = .ref p ∧ SqT K H p xs ∧ DpAll K H xs ds := by
  cases h with
  | tup a b => exact ⟨_, _, rfl, a, b⟩
/-- a new list, a new tuple, settled -/
theorem new_lst {K : PySem.W.Frag} {G H : Hp} {p : Addr} {xs : List V} {ds : List PyData} (s : Same G H) (hp : H p = none) (r : DpAll K G xs ds) :
    Frm G H (upd G p (.lst xs)) (upd H p (.lst xs)) ∧ (tD (.list ds)).P K (upd G p (.lst xs)) (.ref p) :=
  ⟨Frm.new s hp, .lst (SqL.of upd_same) (dpa_mono (same_new (s.free hp)) r)⟩
theorem new_tup {K : PySem.W.Frag} {G H : Hp} {p : Addr} {xs : List V} {ds : List PyData} (s : Same G H) (hp : H p = none) (r : DpAll K G xs ds) :
    Frm G H (upd G p (.tup xs)) (upd H p (.tup xs)) ∧ (tD (.tuple ds)).P K (upd G p (.tup xs)) (.ref p) :=
  ⟨Frm.new s hp, .tup (SqT.of upd_same) (dpa_mono (same_new (s.free hp)) r)⟩
theorem beq_dec (i j : Int) : (i == j) = decide (i = j) := by
  by_cases h : i = j <;> simp [h]
theorem small_line {n : Nat} (h : n ≤ 1000000) : n ≤ sizeLine := Nat.le_trans h (by decide)
theorem small_lt {n : Nat} (h : n ≤ 1000000) : n < sizeLine := Nat.lt_of_le_of_lt h (by decide)
section
variable {C : Cc} {Γ : Gm} {T Ta Tb : Ty} {e a b c : Expr} {pos : Pos} {i j : Int}
/-! ### operators on values of unions -/
theorem op2_exR {r : PySem.W.Frag → R2} {α : Type} {F : α → Prop} {U V' : α → Ty} (h : ∀ x, F x → Op2 C r Ta (U x) (V' x)) : Op2 C r Ta (tEx F U) (tEx F V') := fun G H x y Q s px ⟨z, fz, py⟩ q =>
  h z fz G H x y Q s px py fun v G' H' f p => q v G' H' f ⟨z, fz, p⟩
theorem op2_exL {r : PySem.W.Frag → R2} {α : Type} {F : α → Prop} {U V' : α → Ty} (h : ∀ x, F x → Op2 C r (U x) Tb (V' x)) : Op2 C r (tEx F U) Tb (tEx F V') := fun G H x y Q s ⟨z, fz, px⟩ py q =>
  h z fz G H x y Q s px py fun v G' H' f p => q v G' H' f ⟨z, fz, p⟩
/-! ### ints -/
theorem o_rI {c : Int → Int → Prop} {g : Int → Int → Int} (h : c i j) : Op2 C (fun _ => rI c fun i j => .int (g i j)) (tD (.int i)) (tD (.int j)) (tD (.int (g i j))) := fun G H x y Q s px py q =>
  ⟨i, j, dp_int px, dp_int py, h, q _ G H (Frm.refl s) (.int _)⟩
theorem o_rI0 {g : Int → Int → Int} : Op2 C (fun _ => rI0 fun i j => .int (g i j)) (tD (.int i)) (tD (.int j)) (tD (.int (g i j))) := fun G H x y Q s px py q =>
  ⟨i, j, dp_int px, dp_int py, q _ G H (Frm.refl s) (.int _)⟩
theorem o_rB0 {g : Int → Int → Bool} : Op2 C (fun _ => rI0 fun i j => .bl (g i j)) (tD (.int i)) (tD (.int j)) (tD (.bool (g i j))) := fun G H x y Q s px py q =>
  ⟨i, j, dp_int px, dp_int py, q _ G H (Frm.refl s) (.bl _)⟩
theorem d_add (ha : DE C a Γ (tD (.int i))) (hb : DE C b Γ (tD (.int j))) : DE C (.BinOp a .Add b pos) Γ (tD (.int (i + j))) := d_op (r := fun _ => _) (fun _ _ => op_add) ha hb o_rI0
theorem d_sub (ha : DE C a Γ (tD (.int i))) (hb : DE C b Γ (tD (.int j))) : DE C (.BinOp a .Sub b pos) Γ (tD (.int (i - j))) := d_op (r := fun _ => _) (fun _ _ => op_sub) ha hb o_rI0
theorem d_mul (h : CMul i j) (ha : DE C a Γ (tD (.int i))) (hb : DE C b Γ (tD (.int j))) : DE C (.BinOp a .Mult b pos) Γ (tD (.int (i * j))) := d_op (r := fun _ => _) (fun _ _ => op_mul) ha hb (o_rI (c := CMul) h)
theorem d_mod (h : 0 < j) (ha : DE C a Γ (tD (.int i))) (hb : DE C b Γ (tD (.int j))) : DE C (.BinOp a .Mod b pos) Γ (tD (.int (i % j))) := d_op (r := fun _ => _) (fun _ _ => op_mod) ha hb (o_rI (c := fun _ j => 0 < j) h)
theorem d_modN (h : j ≠ 0) (ha : DE C a Γ (tD (.int i))) (hb : DE C b Γ (tD (.int j))) : DE C (.BinOp a .Mod b pos) Γ (tD (.int (i.fmod j))) := d_op (r := fun _ => _) (fun _ _ => op_modN) ha hb (o_rI (c := fun _ j => j ≠ 0) h)
theorem d_fdiv (h : CDiv i j) (ha : DE C a Γ (tD (.int i))) (hb : DE C b Γ (tD (.int j))) : DE C (.BinOp a .FloorDiv b pos) Γ (tD (.int (i / j))) := d_op (r := fun _ => _) (fun _ _ => op_fdiv) ha hb (o_rI (c := CDiv) h)
theorem d_fdivN (h : CDivN i j) (ha : DE C a Γ (tD (.int i))) (hb : DE C b Γ (tD (.int j))) : DE C (.BinOp a .FloorDiv b pos) Γ (tD (.int (i.fdiv j))) := d_op (r := fun _ => _) (fun _ _ => op_fdivN) ha hb (o_rI (c := CDivN) h)
theorem d_pow (h : CPow i j) (ha : DE C a Γ (tD (.int i))) (hb : DE C b Γ (tD (.int j))) : DE C (.BinOp a .Pow b pos) Γ (tD (.int (i ^ j.toNat))) := d_op (r := fun _ => _) (fun _ _ => op_pow) ha hb (o_rI (c := CPow) h)
theorem d_neg (ha : DE C a Γ (tD (.int i))) : DE C (.UnaryOp .USub a pos) Γ (tD (.int (-i))) := by
  intro X ok G0 W G σ H Q s q
  refine w_pe (pe_un un_neg pe_w) ?_
  refine ha X ok G0 W G σ H _ s fun x G1 H1 f1 px => ?_
  exact ⟨i, dp_int px, q _ G1 H1 f1 (.int _)⟩
/-! comparisons of ints -/
theorem d_lt (ha : DE C a Γ (tD (.int i))) (hb : DE C b Γ (tD (.int j))) : DE C (.Compare a [.Lt] [b] pos) Γ (tD (.bool (decide (i < j)))) := d_cmp (r := fun _ => _) (fun _ _ _ => op_lt) ha hb (o_rB0 (g := fun i j => decide (i < j))) (nomark b)
theorem d_le (ha : DE C a Γ (tD (.int i))) (hb : DE C b Γ (tD (.int j))) : DE C (.Compare a [.LtE] [b] pos) Γ (tD (.bool (decide (i ≤ j)))) := d_cmp (r := fun _ => _) (fun _ _ _ => op_le) ha hb (o_rB0 (g := fun i j => decide (i ≤ j))) (nomark b)
theorem d_gt (ha : DE C a Γ (tD (.int i))) (hb : DE C b Γ (tD (.int j))) : DE C (.Compare a [.Gt] [b] pos) Γ (tD (.bool (decide (j < i)))) := d_cmp (r := fun _ => _) (fun _ _ _ => op_gt) ha hb (o_rB0 (g := fun i j => decide (j < i))) (nomark b)
theorem d_ge (ha : DE C a Γ (tD (.int i))) (hb : DE C b Γ (tD (.int j))) : DE C (.Compare a [.GtE] [b] pos) Γ (tD (.bool (decide (j ≤ i)))) := d_cmp (r := fun _ => _) (fun _ _ _ => op_ge) ha hb (o_rB0 (g := fun i j => decide (j ≤ i))) (nomark b)
theorem dt_lt (ha : DE C a Γ (tD (.int i))) (hb : DE C b Γ (tD (.int j))) : DT C (.Compare a [.Lt] [b] pos) Γ (decide (i < j)) := dt_cmp (r := fun _ => _) (fun _ _ _ => op_lt) ha hb (o_rB0 (g := fun i j => decide (i < j))) (nomark b)
theorem dt_le (ha : DE C a Γ (tD (.int i))) (hb : DE C b Γ (tD (.int j))) : DT C (.Compare a [.LtE] [b] pos) Γ (decide (i ≤ j)) := dt_cmp (r := fun _ => _) (fun _ _ _ => op_le) ha hb (o_rB0 (g := fun i j => decide (i ≤ j))) (nomark b)
theorem dt_gt (ha : DE C a Γ (tD (.int i))) (hb : DE C b Γ (tD (.int j))) : DT C (.Compare a [.Gt] [b] pos) Γ (decide (j < i)) := dt_cmp (r := fun _ => _) (fun _ _ _ => op_gt) ha hb (o_rB0 (g := fun i j => decide (j < i))) (nomark b)
theorem dt_ge (ha : DE C a Γ (tD (.int i))) (hb : DE C b Γ (tD (.int j))) : DT C (.Compare a [.GtE] [b] pos) Γ (decide (j ≤ i)) := dt_cmp (r := fun _ => _) (fun _ _ _ => op_ge) ha hb (o_rB0 (g := fun i j => decide (j ≤ i))) (nomark b)
/-! == and != of data; scalars besides, without a shape -/
theorem o_eqD {d d' : PyData} (h : SeqAt.shaped d = true) (h' : SeqAt.shaped d' = true) : Op2 C rEqD (tD d) (tD d') (tD (.bool (PyData.eqv d d'))) := fun G H x y Q s px py q =>
  ⟨d, d', dp_mono s px, dp_mono s py, h, h', q _ G H (Frm.refl s) (.bl _)⟩
theorem o_neD {d d' : PyData} (h : SeqAt.shaped d = true) (h' : SeqAt.shaped d' = true) : Op2 C rNeD (tD d) (tD d') (tD (.bool (!PyData.eqv d d'))) := fun G H x y Q s px py q =>
  ⟨d, d', dp_mono s px, dp_mono s py, h, h', q _ G H (Frm.refl s) (.bl _)⟩
theorem d_eq {d d' : PyData} (h : SeqAt.shaped d = true) (h' : SeqAt.shaped d' = true) (ha : DE C a Γ (tD d)) (hb : DE C b Γ (tD d')) : DE C (.Compare a [.Eq] [b] pos) Γ (tD (.bool (PyData.eqv d d'))) := d_cmp (fun _ _ r => op_eqD r.units) ha hb (o_eqD h h') (nomark b)
theorem d_ne {d d' : PyData} (h : SeqAt.shaped d = true) (h' : SeqAt.shaped d' = true) (ha : DE C a Γ (tD d)) (hb : DE C b Γ (tD d')) : DE C (.Compare a [.NotEq] [b] pos) Γ (tD (.bool (!PyData.eqv d d'))) := d_cmp (fun _ _ r => op_neD r.units) ha hb (o_neD h h') (nomark b)
theorem dt_eq {d d' : PyData} (h : SeqAt.shaped d = true) (h' : SeqAt.shaped d' = true) (ha : DE C a Γ (tD d)) (hb : DE C b Γ (tD d')) : DT C (.Compare a [.Eq] [b] pos) Γ (PyData.eqv d d') := dt_cmp (fun _ _ r => op_eqD r.units) ha hb (o_eqD h h') (nomark b)
theorem dt_ne {d d' : PyData} (h : SeqAt.shaped d = true) (h' : SeqAt.shaped d' = true) (ha : DE C a Γ (tD d)) (hb : DE C b Γ (tD d')) : DT C (.Compare a [.NotEq] [b] pos) Γ (!PyData.eqv d d') := dt_cmp (fun _ _ r => op_neD r.units) ha hb (o_neD h h') (nomark b)
theorem d_eqI (ha : DE C a Γ (tD (.int i))) (hb : DE C b Γ (tD (.int j))) : DE C (.Compare a [.Eq] [b] pos) Γ (tD (.bool (decide (i = j)))) := by
  refine (d_eq rfl rfl ha hb).is ?_
  show PyData.bool (i == j) = _
  rw [beq_dec]
theorem dt_eqI (ha : DE C a Γ (tD (.int i))) (hb : DE C b Γ (tD (.int j))) : DT C (.Compare a [.Eq] [b] pos) Γ (decide (i = j)) := by
  refine (dt_eq rfl rfl ha hb).is ?_
  show (i == j) = _
  rw [beq_dec]
theorem dt_neI (ha : DE C a Γ (tD (.int i))) (hb : DE C b Γ (tD (.int j))) : DT C (.Compare a [.NotEq] [b] pos) Γ (!decide (i = j)) := by
  refine (dt_ne rfl rfl ha hb).is ?_
  show (!(i == j)) = _
  rw [beq_dec]
theorem d_neI (ha : DE C a Γ (tD (.int i))) (hb : DE C b Γ (tD (.int j))) : DE C (.Compare a [.NotEq] [b] pos) Γ (tD (.bool (!decide (i = j)))) := by
  refine (d_ne rfl rfl ha hb).is ?_
  show PyData.bool (!(i == j)) = _
  rw [beq_dec]
/-- i in a list, a tuple of ints -/
theorem flat_ints : ∀ ns : List Int, (ns.map V.int).all flatV = true
  | [] => rfl
  | n :: ns => by
    show (true && (ns.map V.int).all flatV) = true
    rw [flat_ints ns]
    rfl
theorem in_ints (i : Int) : ∀ ns : List Int, inV (.int i) (ns.map V.int) = decide (i ∈ ns)
  | [] => rfl
  | n :: ns => by
    show ((n == i) || inV (.int i) (ns.map V.int)) = _
    rw [in_ints i ns]
    by_cases h : n = i
    · subst h
      simp
    · have h2 : ¬ i = n := fun q => h q.symm
      simp [h, h2]
theorem o_inL {ns : List Int} : Op2 C (fun K => rIn K false) (tD (.int i)) (tD (.list (ns.map .int))) (tD (.bool (decide (i ∈ ns)))) := fun G H x y Q s px py q => by
  obtain ⟨p, xs, rfl, hs, r⟩ := dp_lst py
  have e := dpa_ints r
  subst e
  cases dp_int px
  refine ⟨p, _, rfl, .inl (s.seq hs), rfl, flat_ints ns, ?_⟩
  show Q (.bl (inV (.int i) (ns.map V.int))) H
  rw [in_ints]
  exact q _ G H (Frm.refl s) (.bl _)
theorem o_inT {ns : List Int} : Op2 C (fun K => rIn K false) (tD (.int i)) (tD (.tuple (ns.map .int))) (tD (.bool (decide (i ∈ ns)))) := fun G H x y Q s px py q => by
  obtain ⟨p, xs, rfl, hs, r⟩ := dp_tup py
  have e := dpa_ints r
  subst e
  cases dp_int px
  refine ⟨p, _, rfl, .inr (same_t s hs), rfl, flat_ints ns, ?_⟩
  show Q (.bl (inV (.int i) (ns.map V.int))) H
  rw [in_ints]
  exact q _ G H (Frm.refl s) (.bl _)
theorem d_inL {ns : List Int} (ha : DE C a Γ (tD (.int i))) (hb : DE C b Γ (tD (.list (ns.map .int)))) (hm : behindInMarks .In b = false) : DE C (.Compare a [.In] [b] pos) Γ (tD (.bool (decide (i ∈ ns)))) := d_cmp (fun _ _ _ => op_in_seq) ha hb o_inL hm
theorem d_inT {ns : List Int} (ha : DE C a Γ (tD (.int i))) (hb : DE C b Γ (tD (.tuple (ns.map .int)))) (hm : behindInMarks .In b = false) : DE C (.Compare a [.In] [b] pos) Γ (tD (.bool (decide (i ∈ ns)))) := d_cmp (fun _ _ _ => op_in_seq) ha hb o_inT hm
theorem dt_inL {ns : List Int} (ha : DE C a Γ (tD (.int i))) (hb : DE C b Γ (tD (.list (ns.map .int)))) (hm : behindInMarks .In b = false) : DT C (.Compare a [.In] [b] pos) Γ (decide (i ∈ ns)) := dt_cmp (fun _ _ _ => op_in_seq) ha hb o_inL hm
theorem dt_inT {ns : List Int} (ha : DE C a Γ (tD (.int i))) (hb : DE C b Γ (tD (.tuple (ns.map .int)))) (hm : behindInMarks .In b = false) : DT C (.Compare a [.In] [b] pos) Γ (decide (i ∈ ns)) := dt_cmp (fun _ _ _ => op_in_seq) ha hb o_inT hm
/-- a op b op' c of ints, from tests of the two -/
theorem d_chain {op op' : CmpOp} {g g' : Int → Int → Bool} {k : Int} (ho : ∀ X : Cx, OpR X (compareOp op) (rI0 fun i j => .bl (g i j))) (ho' : ∀ X : Cx, OpR X (compareOp op') (rI0 fun i j => .bl (g' i j)))
    (ha : DE C a Γ (tD (.int i))) (hb : DE C b Γ (tD (.int j))) (hc : DE C c Γ (tD (.int k))) (hm : lastMarks [op, op'] [b, c] = false) : DE C (.Compare a [op, op'] [b, c] pos) Γ (tD (.bool (g i j && g' j k))) := by
  intro X ok G0 W G σ H Q s q
  refine w_pe (pe_chain (ho X) (ho' X) pe_w pe_w pe_w hm) ?_
  refine ha X ok G0 W G σ H _ s fun x G1 H1 f1 px => ?_
  refine hb X ok G0 W G1 σ H1 _ (s.step f1) fun y G2 H2 f2 py => ?_
  refine ⟨i, j, dp_int px, dp_int py, _, rfl, ?_⟩
  cases e : g i j with
  | false =>
    refine iteF ?_
    rw [e] at q
    exact q _ G2 H2 (f1.trans f2) (.bl _)
  | true =>
    refine iteT ?_
    refine hc X ok G0 W G2 σ H2 _ ((s.step f1).step f2) fun z G3 H3 f3 pz => ?_
    rw [e] at q
    exact ⟨j, k, dp_int py, dp_int pz, q _ G3 H3 (f1.trans (f2.trans f3)) (.bl _)⟩
theorem d_lele {k : Int} (ha : DE C a Γ (tD (.int i))) (hb : DE C b Γ (tD (.int j))) (hc : DE C c Γ (tD (.int k))) (hm : lastMarks [.LtE, .LtE] [b, c] = false) : DE C (.Compare a [.LtE, .LtE] [b, c] pos) Γ (tD (.bool (decide (i ≤ j) && decide (j ≤ k)))) :=
  d_chain (g := fun i j => decide (i ≤ j)) (g' := fun i j => decide (i ≤ j)) (fun _ => op_le) (fun _ => op_le) ha hb hc hm
theorem d_lelt {k : Int} (ha : DE C a Γ (tD (.int i))) (hb : DE C b Γ (tD (.int j))) (hc : DE C c Γ (tD (.int k))) (hm : lastMarks [.LtE, .Lt] [b, c] = false) : DE C (.Compare a [.LtE, .Lt] [b, c] pos) Γ (tD (.bool (decide (i ≤ j) && decide (j < k)))) :=
  d_chain (g := fun i j => decide (i ≤ j)) (g' := fun i j => decide (i < j)) (fun _ => op_le) (fun _ => op_lt) ha hb hc hm
/-! ### tests, and, or, not, if -/
/-- a bool's expression as a test -/
theorem dt_val {k : Bool} (h : DE C e Γ (tD (.bool k))) (he : ∀ (env : Env) (whole : Sem Value), isTrue e env whole = (do let v ← whole; standAt e.pos; holding [v] (truthy v))) : DT C e Γ k := by
  intro X ok G0 W G σ H Q s q
  refine w_pt (pt_val pe_w (he _)) ?_
  refine h X ok G0 W G σ H _ s fun x G1 H1 f1 px => ?_
  exact ⟨k, dp_bool px, q G1 H1 f1⟩
theorem dt_not {k : Bool} (h : DT C e Γ k) : DT C (.UnaryOp .Not e pos) Γ (!k) := by
  intro X ok G0 W G σ H Q s q
  refine w_pt (pt_not pt_w) ?_
  exact h X ok G0 W G σ H _ s fun G1 H1 f1 => q G1 H1 f1
/-- a test that holds of any 'whole' (for and, or) -/
def DW (C : Cc) (e : Expr) (Γ : Gm) (b : Bool) : Prop := ∀ X, XOk C X → ∃ t, PW X e t ∧ ∀ (G0 W G : Hp) (σ : L2.St) (H : Hp) (Q : Bool → Hp → Prop), Sat C.E.K G0 W Γ G σ H → (∀ (G' H' : Hp), Frm G H G' H' → Q b H') → t σ H Q
theorem DW.dt {k : Bool} (h : DW C e Γ k) : DT C e Γ k := by
  intro X ok G0 W G σ H Q s q
  obtain ⟨t, p, r⟩ := h X ok
  exact w_pt (PW.pt p) (r G0 W G σ H Q s q)
theorem dw_and1 {k : Bool} (h : DT C e Γ k) : DW C (.BoolOp .And [e] pos) Γ k := fun X ok => ⟨_, pw_and1 pt_w, fun G0 W G σ H Q s q => h X ok G0 W G σ H Q s q⟩
theorem dw_or1 {k : Bool} (h : DT C e Γ k) : DW C (.BoolOp .Or [e] pos) Γ k := fun X ok => ⟨_, pw_or1 pt_w, fun G0 W G σ H Q s q => h X ok G0 W G σ H Q s q⟩
theorem dw_and {k l : Bool} {rest : List Expr} (h : DT C a Γ k) (h2 : k = true → DW C (.BoolOp .And (b :: rest) pos) Γ l) : DW C (.BoolOp .And (a :: b :: rest) pos) Γ (k && l) := by
  cases k with
  | false =>
    exact fun X ok => by
      refine ⟨_, pw_and (tB' := fun _ _ _ => False) pt_w ⟨fun _ _ _ _ _ _ _ h => h.elim⟩, fun G0 W G σ H Q s q => ?_⟩
      exact h X ok G0 W G σ H _ s fun G1 H1 f1 => iteF (q G1 H1 f1)
  | true =>
    exact fun X ok => by
      obtain ⟨t, p, r⟩ := h2 rfl X ok
      refine ⟨_, pw_and pt_w p, fun G0 W G σ H Q s q => ?_⟩
      refine h X ok G0 W G σ H _ s fun G1 H1 f1 => iteT ?_
      exact r G0 W G1 σ H1 _ (s.step f1) fun G2 H2 f2 => q G2 H2 (f1.trans f2)
theorem dw_or {k l : Bool} {rest : List Expr} (h : DT C a Γ k) (h2 : k = false → DW C (.BoolOp .Or (b :: rest) pos) Γ l) : DW C (.BoolOp .Or (a :: b :: rest) pos) Γ (k || l) := by
  cases k with
  | true =>
    exact fun X ok => by
      refine ⟨_, pw_or (tB' := fun _ _ _ => False) pt_w ⟨fun _ _ _ _ _ _ _ h => h.elim⟩, fun G0 W G σ H Q s q => ?_⟩
      exact h X ok G0 W G σ H _ s fun G1 H1 f1 => iteT (q G1 H1 f1)
  | false =>
    exact fun X ok => by
      obtain ⟨t, p, r⟩ := h2 rfl X ok
      refine ⟨_, pw_or pt_w p, fun G0 W G σ H Q s q => ?_⟩
      refine h X ok G0 W G σ H _ s fun G1 H1 f1 => iteF ?_
      exact r G0 W G1 σ H1 _ (s.step f1) fun G2 H2 f2 => q G2 H2 (f1.trans f2)
/-- .. as values -/
theorem d_one {op : BoolOp} (h : DE C e Γ T) : DE C (.BoolOp op [e] pos) Γ T := fun X ok G0 W G σ H Q s q => w_pe (pe_one pe_w) (h X ok G0 W G σ H Q s q)
theorem pe_false {X : Cx} {e : Expr} : PE X e (fun _ _ _ => False) := ⟨fun _ _ _ _ _ _ h => h.elim⟩
theorem d_and {k l : Bool} {rest : List Expr} (h : DE C a Γ (tD (.bool k))) (h2 : k = true → DE C (.BoolOp .And (b :: rest) pos) Γ (tD (.bool l))) : DE C (.BoolOp .And (a :: b :: rest) pos) Γ (tD (.bool (k && l))) := by
  intro X ok G0 W G σ H Q s q
  refine w_pe (pe_and pe_w pe_w) ?_
  refine h X ok G0 W G σ H _ s fun x G1 H1 f1 px => ⟨k, dp_bool px, ?_⟩
  cases k with
  | false => exact iteF (q _ G1 H1 f1 (.bl _))
  | true => exact iteT (h2 rfl X ok G0 W G1 σ H1 _ (s.step f1) fun v G2 H2 f2 p => q v G2 H2 (f1.trans f2) p)
theorem d_or {k l : Bool} {rest : List Expr} (h : DE C a Γ (tD (.bool k))) (h2 : k = false → DE C (.BoolOp .Or (b :: rest) pos) Γ (tD (.bool l))) : DE C (.BoolOp .Or (a :: b :: rest) pos) Γ (tD (.bool (k || l))) := by
  intro X ok G0 W G σ H Q s q
  refine w_pe (pe_or pe_w pe_w) ?_
  refine h X ok G0 W G σ H _ s fun x G1 H1 f1 px => ⟨k, dp_bool px, ?_⟩
  cases k with
  | true => exact iteT (q _ G1 H1 f1 (.bl _))
  | false => exact iteF (h2 rfl X ok G0 W G1 σ H1 _ (s.step f1) fun v G2 H2 f2 p => q v G2 H2 (f1.trans f2) p)
theorem d_not {k : Bool} (h : DE C a Γ (tD (.bool k))) : DE C (.UnaryOp .Not a pos) Γ (tD (.bool (!k))) := by
  intro X ok G0 W G σ H Q s q
  refine w_pe (pe_not pe_w) ?_
  exact h X ok G0 W G σ H _ s fun x G1 H1 f1 px => ⟨k, dp_bool px, q _ G1 H1 f1 (.bl _)⟩
theorem d_ifT (h : DT C c Γ true) (ha : DE C a Γ T) : DE C (.IfExp c a b pos) Γ T := by
  intro X ok G0 W G σ H Q s q
  refine w_pe (pe_ifExp pt_w pe_w (pe_false (e := b))) ?_
  exact h X ok G0 W G σ H _ s fun G1 H1 f1 => iteT (ha X ok G0 W G1 σ H1 _ (s.step f1) fun v G2 H2 f2 p => q v G2 H2 (f1.trans f2) p)
theorem d_ifF (h : DT C c Γ false) (hb : DE C b Γ T) : DE C (.IfExp c a b pos) Γ T := by
  intro X ok G0 W G σ H Q s q
  refine w_pe (pe_ifExp pt_w (pe_false (e := a)) pe_w) ?_
  exact h X ok G0 W G σ H _ s fun G1 H1 f1 => iteF (hb X ok G0 W G1 σ H1 _ (s.step f1) fun v G2 H2 f2 p => q v G2 H2 (f1.trans f2) p)
theorem d_if {k : Bool} (h : DT C c Γ k) (ha : k = true → DE C a Γ T) (hb : k = false → DE C b Γ T) : DE C (.IfExp c a b pos) Γ T := by
  cases k with
  | true => exact d_ifT h (ha rfl)
  | false => exact d_ifF h (hb rfl)
/-! ### arguments, displays -/
theorem da_nil : DA C [] Γ [] := fun X ok G0 W G σ H Q s q => w_pa pa_nil (q [] G H (Frm.refl s.fr.s) .nil)
theorem da_cons {es : List Expr} {Ts : List Ty} (h : DE C e Γ T) (hr : DA C es Γ Ts) (hs : ∀ env : Env, starEach (e :: es) env = (false, eval e env) :: starEach es env := by intro _; rfl) : DA C (e :: es) Γ (T :: Ts) := by
  intro X ok G0 W G σ H Q s q
  refine w_pa (pa_cons pe_w pa_w (hs _)) ?_
  refine h X ok G0 W G σ H _ s fun x G1 H1 f1 px => ?_
  exact hr X ok G0 W G1 σ H1 _ (s.step f1) fun vs G2 H2 f2 pv => q (x :: vs) G2 H2 (f1.trans f2) (.cons (T.mono f2.g px) pv)
/-- arguments that are data -/
def DAd (C : Cc) (es : List Expr) (Γ : Gm) (ds : List PyData) : Prop := DA C es Γ (ds.map tD)
theorem dd_nil : DAd C [] Γ [] := da_nil
theorem dd_cons {es : List Expr} {d : PyData} {ds : List PyData} (h : DE C e Γ (tD d)) (hr : DAd C es Γ ds) (hs : ∀ env : Env, starEach (e :: es) env = (false, eval e env) :: starEach es env := by intro _; rfl) : DAd C (e :: es) Γ (d :: ds) := da_cons h hr hs
theorem d_tup {es : List Expr} {ds : List PyData} {x1 : Nat} (h : DAd C es Γ ds) (hl : ds.length ≤ 1000000 := by exact Nat.le_of_ble_eq_true rfl) : DE C (.Tuple es x1 pos) Γ (tD (.tuple ds)) := by
  intro X ok G0 W G σ H Q s q
  refine w_pe (pe_tup pa_w) ?_
  refine h X ok G0 W G σ H _ s fun vs G1 H1 f1 pv => ?_
  have r := are_dpa pv
  refine ⟨small_line (by rw [dpa_len r]; exact hl), fun p hp => ?_⟩
  obtain ⟨f, t⟩ := new_tup f1.s hp r
  exact q _ _ _ (f1.trans f) t
theorem d_lst {es : List Expr} {ds : List PyData} (h : DAd C es Γ ds) (hl : ds.length ≤ 1000000 := by exact Nat.le_of_ble_eq_true rfl) : DE C (.List es pos) Γ (tD (.list ds)) := by
  intro X ok G0 W G σ H Q s q
  refine w_pe (pe_lst pa_w) ?_
  refine h X ok G0 W G σ H _ s fun vs G1 H1 f1 pv => ?_
  have r := are_dpa pv
  refine ⟨small_line (by rw [dpa_len r]; exact hl), fun p hp => ?_⟩
  obtain ⟨f, t⟩ := new_lst f1.s hp r
  exact q _ _ _ (f1.trans f) t
theorem do_lst {es : List Expr} {ds : List PyData} (h : DAd C es Γ ds) (hl : ds.length ≤ 1000000 := by exact Nat.le_of_ble_eq_true rfl) : DEo C (.List es pos) Γ ds := by
  intro X ok G0 W G σ H Q s q
  refine w_pe (pe_lst pa_w) ?_
  refine h X ok G0 W G σ H _ s fun vs G1 H1 f1 pv => ?_
  have r := are_dpa pv
  refine ⟨small_line (by rw [dpa_len r]; exact hl), fun p hp => ?_⟩
  exact q p vs G1 _ (f1.trans (Frm.own f1.s hp)) (f1.h.free hp) (f1.s.free hp) upd_same r
/-! ### subscripts, slices -/
theorem d_ixL {ds : List PyData} {d : PyData} (ha : DE C a Γ (tD (.list ds))) (hb : DE C b Γ (tD (.int i))) (h : atI ds i = some d) (hs : PlainIx b := by intro _ _; rfl) : DE C (.Subscript a b pos) Γ (tD d) := by
  intro X ok G0 W G σ H Q s q
  refine w_pe (pe_ix ix_list pe_w pe_w hs) ?_
  refine ha X ok G0 W G σ H _ s fun x G1 H1 f1 px => ?_
  refine hb X ok G0 W G1 σ H1 _ (s.step f1) fun y G2 H2 f2 py => ?_
  obtain ⟨p, xs, rfl, hq, r⟩ := dp_lst px
  obtain ⟨j, h1, h2⟩ := Option.bind_eq_some_iff.mp h
  obtain ⟨v, hv, pv⟩ := dpa_get r h2
  refine ⟨p, xs, i, v, rfl, dp_int py, by rw [ok.K]; exact (f2.h.seq (f1.s.seq hq)), ?_, q v G2 H2 (f1.trans f2) (dp_mono f2.g pv)⟩
  show (ixN xs.length i).bind _ = _
  rw [dpa_len r, h1]
  exact hv
theorem d_ixT {ds : List PyData} {d : PyData} (ha : DE C a Γ (tD (.tuple ds))) (hb : DE C b Γ (tD (.int i))) (h : atI ds i = some d) (hs : PlainIx b := by intro _ _; rfl) : DE C (.Subscript a b pos) Γ (tD d) := by
  intro X ok G0 W G σ H Q s q
  refine w_pe (pe_ix ix_tup pe_w pe_w hs) ?_
  refine ha X ok G0 W G σ H _ s fun x G1 H1 f1 px => ?_
  refine hb X ok G0 W G1 σ H1 _ (s.step f1) fun y G2 H2 f2 py => ?_
  obtain ⟨p, xs, rfl, hq, r⟩ := dp_tup px
  obtain ⟨j, h1, h2⟩ := Option.bind_eq_some_iff.mp h
  obtain ⟨v, hv, pv⟩ := dpa_get r h2
  refine ⟨p, xs, i, v, rfl, dp_int py, by rw [ok.K]; exact (same_t f2.h (same_t f1.s hq)), ?_, q v G2 H2 (f1.trans f2) (dp_mono f2.g pv)⟩
  show (ixN xs.length i).bind _ = _
  rw [dpa_len r, h1]
  exact hv
/-- an own list by place -/
theorem d_ixO {n : Nat} {x : Str} {p1 : Pos} {ds : List PyData} {d : PyData} (hN : C.N[n]? = some x) (hv : Vis C.sc x) (hG : Γ[n]? = some (some (so ds))) (hb : DE C b Γ (tD (.int i))) (h : atI ds i = some d) (hs : PlainIx b := by intro _ _; rfl)
    (hd : (x == ("__debug__" : Str)) = false := by decide) (hcd : (x == ("__classdict__" : Str)) = false := by decide) : DE C (.Subscript (.Name x p1) b pos) Γ (tD d) := by
  intro X ok G0 W G σ H Q s q
  refine w_pe (pe_ix ix_list (pe_var (i := n) (by rw [ok.N]; exact hN) (by rw [ok.sc]; exact hv) hd hcd) pe_w hs) ?_
  obtain ⟨v, ev, p, xs, rfl, hw, hg, hh, r⟩ := s.at_ n _ hG
  refine ⟨_, ev, ?_⟩
  refine hb X ok G0 W G σ H _ s fun y G2 H2 f2 py => ?_
  obtain ⟨j, h1, h2⟩ := Option.bind_eq_some_iff.mp h
  obtain ⟨v, hv, pv⟩ := dpa_get r h2
  refine ⟨p, xs, i, v, rfl, dp_int py, SqL.of (f2.h _ _ hh), ?_, q v G2 H2 f2 (dp_mono f2.g pv)⟩
  show (ixN xs.length i).bind _ = _
  rw [dpa_len r, h1]
  exact hv
/-- the bounds of a slice -/
def DO (C : Cc) (e : Option Expr) (Γ : Gm) (o : Option Int) : Prop := match e, o with
  | none, none => True
  | some e, some i => DE C e Γ (tD (.int i))
  | _, _ => False
def cutD (xs : List PyData) (lo hi : Option Int) : List PyData := (xs.drop (HT.sIx xs.length 0 lo)).take (HT.sIx xs.length xs.length hi - HT.sIx xs.length 0 lo)
theorem dpa_cut {K : PySem.W.Frag} {H : Hp} {vs : List V} {ds : List PyData} (r : DpAll K H vs ds) (lo hi : Option Int) : DpAll K H (cutV vs lo hi) (cutD ds lo hi) := by
  unfold cutV cutD
  rw [dpa_len r]
  exact dpa_take _ (dpa_drop _ r)
theorem do_run {X : Cx} (ok : XOk C X) {x : Option Expr} {o : Option Int} (h : DO C x Γ o) : ∃ t, PO X x t ∧ ∀ (G0 W G : Hp) (σ : L2.St) (H : Hp) (Q : Option Int → Hp → Prop), Sat C.E.K G0 W Γ G σ H → (∀ (G' H' : Hp), Frm G H G' H' → Q o H') → t σ H Q := by
  cases x with
  | none =>
    cases o with
    | none => exact ⟨_, po_none, fun G0 W G σ H Q s q => q G H (Frm.refl s.fr.s)⟩
    | some i => exact h.elim
  | some e =>
    cases o with
    | none => exact h.elim
    | some i =>
      refine ⟨_, po_some pe_w, fun G0 W G σ H Q s q => ?_⟩
      exact (show DE C e Γ (tD (.int i)) from h) X ok G0 W G σ H _ s fun x G1 H1 f1 px => ⟨i, dp_int px, q G1 H1 f1⟩
theorem d_slL {ds : List PyData} {lo hi : Option Expr} {l u : Option Int} {p2 : Pos} (ha : DE C a Γ (tD (.list ds))) (hl : DO C lo Γ l) (hu : DO C hi Γ u) : DE C (.Subscript a (.Slice lo hi none p2) pos) Γ (tD (.list (cutD ds l u))) := by
  intro X ok G0 W G σ H Q s q
  obtain ⟨tl, pl, rl⟩ := do_run ok hl
  obtain ⟨tu, pu, ru⟩ := do_run ok hu
  refine w_pe (pe_slice sl_list pe_w pl pu) ?_
  refine ha X ok G0 W G σ H _ s fun x G1 H1 f1 px => ?_
  refine rl G0 W G1 σ H1 _ (s.step f1) fun G2 H2 f2 => ?_
  refine ru G0 W G2 σ H2 _ ((s.step f1).step f2) fun G3 H3 f3 => ?_
  obtain ⟨p, xs, rfl, hq, r⟩ := dp_lst px
  have f := f2.trans f3
  refine ⟨p, xs, rfl, by rw [ok.K]; exact (f.h.seq (f1.s.seq hq)), fun m hm => ?_⟩
  obtain ⟨f', t⟩ := new_lst f3.s hm (dpa_mono f.g (dpa_cut r l u))
  exact q _ _ _ (f1.trans (f.trans f')) t
theorem d_slT {ds : List PyData} {lo hi : Option Expr} {l u : Option Int} {p2 : Pos} (ha : DE C a Γ (tD (.tuple ds))) (hl : DO C lo Γ l) (hu : DO C hi Γ u) : DE C (.Subscript a (.Slice lo hi none p2) pos) Γ (tD (.tuple (cutD ds l u))) := by
  intro X ok G0 W G σ H Q s q
  obtain ⟨tl, pl, rl⟩ := do_run ok hl
  obtain ⟨tu, pu, ru⟩ := do_run ok hu
  refine w_pe (pe_slice sl_tupA pe_w pl pu) ?_
  refine ha X ok G0 W G σ H _ s fun x G1 H1 f1 px => ?_
  refine rl G0 W G1 σ H1 _ (s.step f1) fun G2 H2 f2 => ?_
  refine ru G0 W G2 σ H2 _ ((s.step f1).step f2) fun G3 H3 f3 => ?_
  obtain ⟨p, xs, rfl, hq, r⟩ := dp_tup px
  have f := f2.trans f3
  refine ⟨p, xs, rfl, by rw [ok.K]; exact (same_t f.h (same_t f1.s hq)), fun ⟨z1, z2⟩ => ?_, fun _ m hm => ?_⟩
  · refine q _ G3 H3 (f1.trans f) ?_
    have e : cutD ds l u = ds := by
      unfold cutD
      rw [← dpa_len r, z1, z2, List.drop_zero, Nat.sub_zero, dpa_len r, List.take_length]
    rw [e]
    exact dp_mono f.g px
  · obtain ⟨f', t⟩ := new_tup f3.s hm (dpa_mono f.g (dpa_cut r l u))
    exact q _ _ _ (f1.trans (f.trans f')) t
/-! ### + and * of sequences -/
theorem d_catT {ds es : List PyData} (hl : ds.length + es.length ≤ 1000000) (ha : DE C a Γ (tD (.tuple ds))) (hb : DE C b Γ (tD (.tuple es))) : DE C (.BinOp a .Add b pos) Γ (tD (.tuple (ds ++ es))) := by
  refine d_op (r := rCatA) (fun _ _ => op_catA) ha hb fun G H x y Q s px py q => ?_
  obtain ⟨p, xs, rfl, hq, r⟩ := dp_tup px
  obtain ⟨p', ys, rfl, hq', r'⟩ := dp_tup py
  refine ⟨p, p', xs, ys, rfl, rfl, same_t s hq, same_t s hq', small_line (by rw [dpa_len r, dpa_len r']; exact hl), fun e => ?_, fun _ e => ?_, fun _ _ m hm => ?_⟩
  · subst e
    cases r
    exact q _ G H (Frm.refl s) py
  · subst e
    cases r'
    rw [List.append_nil] at q
    exact q _ G H (Frm.refl s) px
  · obtain ⟨f', t⟩ := new_tup s hm (dpa_app r r')
    exact q _ _ _ f' t
theorem d_repT {ds : List PyData} (hne : ds ≠ []) (h2 : 2 ≤ i) (hi : i ≤ 1000) (hl : ds.length ≤ 1000) (ha : DE C a Γ (tD (.tuple ds))) (hb : DE C b Γ (tD (.int i))) : DE C (.BinOp a .Mult b pos) Γ (tD (.tuple (List.replicate i.toNat ds).flatten)) := by
  refine d_op (r := rRepT) (fun _ _ => op_repT) ha hb fun G H x y Q s px py q => ?_
  obtain ⟨p, xs, rfl, hq, r⟩ := dp_tup px
  refine ⟨p, i, xs, rfl, dp_int py, same_t s hq, fun e => ?_, h2, hi, by rw [dpa_len r]; exact hl, fun m hm => ?_⟩
  · subst e
    cases r
    exact hne rfl
  · have hr : ∀ k : Nat, DpAll C.E.K G (List.replicate k xs).flatten (List.replicate k ds).flatten := fun k => by
      induction k with
      | zero => exact .nil
      | succ k ih =>
        rw [List.replicate_succ, List.flatten_cons, List.replicate_succ, List.flatten_cons]
        exact dpa_app r ih
    obtain ⟨f', t⟩ := new_tup s hm (hr i.toNat)
    exact q _ _ _ f' t
end
end DL
set_option Elab.async false
set_option linter.all false
set_option maxRecDepth 100000
set_option maxHeartbeats 1000000
namespace DL
open PySem PySem.Spec PyProof.Rows L2
/-! ### lists that this program made -/
def tL (ds : List PyData) : Ty := ⟨fun K H v => ∃ (p : Addr) (xs : List V), v = .ref p ∧ H p = some (.lst xs) ∧ DpAll K H xs ds, fun e ⟨p, xs, a, b, c⟩ => ⟨p, xs, a, e _ _ b, dpa_mono e c⟩⟩
theorem tL_le {ds : List PyData} : (tL ds).le (tD (.list ds)) := fun K H v ⟨p, xs, e, h, r⟩ => by
  subst e
  exact .lst (SqL.of h) r
theorem new_tL {K : PySem.W.Frag} {G H : Hp} {p : Addr} {xs : List V} {ds : List PyData} (s : Same G H) (hp : H p = none) (r : DpAll K G xs ds) :
    Frm G H (upd G p (.lst xs)) (upd H p (.lst xs)) ∧ (tL ds).P K (upd G p (.lst xs)) (.ref p) :=
  ⟨Frm.new s hp, p, xs, rfl, upd_same, dpa_mono (same_new (s.free hp)) r⟩
section
variable {C : Cc} {Γ : Gm} {T Ta Tb : Ty} {e a b c : Expr} {pos : Pos} {i j : Int}
/-- what is made is settled at once -/
theorem DEo.l {ds : List PyData} (h : DEo C e Γ ds) : DE C e Γ (tL ds) := fun X ok G0 W G σ H Q s q => h X ok G0 W G σ H Q s fun p xs G' H' f hp hg hh r => by
  refine q (.ref p) (upd G' p (.lst xs)) H' ⟨f.h, f.g.trans (same_new hg), fun b o e => ?_, fun b hb hg0 => ?_⟩ ⟨p, xs, rfl, upd_same, dpa_mono (same_new hg) r⟩
  · by_cases hbp : b = p
    · subst hbp
      rw [upd_same] at e
      cases e
      exact hh
    · rw [upd_ne hbp] at e
      exact f.s _ _ e
  · rw [upd_ne (fun (z : b = p) => hb (by rw [z]; exact hp))]
    exact f.o b hb hg0
theorem d_lstL {es : List Expr} {ds : List PyData} (h : DAd C es Γ ds) (hl : ds.length ≤ 1000000 := by exact Nat.le_of_ble_eq_true rfl) : DE C (.List es pos) Γ (tL ds) := (do_lst h hl).l
theorem d_catL {ds es : List PyData} (hl : ds.length + es.length ≤ 1000000) (ha : DE C a Γ (tL ds)) (hb : DE C b Γ (tL es)) : DE C (.BinOp a .Add b pos) Γ (tL (ds ++ es)) := by
  refine d_op (r := fun _ => rCat) (fun _ _ => op_cat) ha hb fun G H x y Q s ⟨p, xs, e, hq, r⟩ ⟨p', ys, e', hq', r'⟩ q => ?_
  refine ⟨p, p', xs, ys, e, e', s _ _ hq, s _ _ hq', small_line (by rw [dpa_len r, dpa_len r']; exact hl), fun m hm => ?_⟩
  obtain ⟨f', t⟩ := new_tL s hm (dpa_app r r')
  exact q _ _ _ f' t
theorem dpa_rep {K : PySem.W.Frag} {H : Hp} {xs : List V} {ds : List PyData} (r : DpAll K H xs ds) : ∀ k : Nat, DpAll K H (List.replicate k xs).flatten (List.replicate k ds).flatten
  | 0 => .nil
  | k + 1 => by
    rw [List.replicate_succ, List.flatten_cons, List.replicate_succ, List.flatten_cons]
    exact dpa_app r (dpa_rep r k)
/-- [x] * n -/
theorem do_rep1 {d : PyData} {es : List Expr} {p1 : Pos} (hi : 0 ≤ i) (hi2 : i ≤ 1000000) (ha : DE C e Γ (tD d)) (hb : DE C b Γ (tD (.int i))) (hs : ∀ env : Env, starEach [e] env = (false, eval e env) :: starEach [] env := by intro _; rfl) :
    DEo C (.BinOp (.List [e] p1) .Mult b pos) Γ (List.replicate i.toNat d) := by
  intro X ok G0 W G σ H Q s q
  refine w_pe (pe_op op_rep (pe_lst pa_w) pe_w) ?_
  refine (dd_cons ha dd_nil hs) X ok G0 W G σ H _ s fun vs G1 H1 f1 pv => ?_
  have r := are_dpa pv
  refine ⟨small_line (by rw [dpa_len r]; exact Nat.le_of_ble_eq_true rfl), fun l hl => ?_⟩
  have fo : Frm G1 H1 G1 (upd H1 l (.lst vs)) := Frm.own f1.s hl
  refine hb X ok G0 W G1 σ _ _ ((s.step f1).step fo) fun y G2 H2 f2 py => ?_
  have e1 : vs.length = 1 := dpa_len r
  refine ⟨l, i, vs, rfl, dp_int py, f2.h _ _ upd_same, by omega, by omega, small_line (by rw [e1]; omega), fun p hp => ?_⟩
  have f : Frm G H G2 H2 := f1.trans (fo.trans f2)
  have ef : (List.replicate i.toNat [d]).flatten = List.replicate i.toNat d := by
    generalize i.toNat = n
    induction n with
    | zero => rfl
    | succ n ih => rw [List.replicate_succ, List.flatten_cons, ih, List.replicate_succ]; rfl
  have rr := dpa_rep (dpa_mono f2.g r) i.toNat
  rw [ef] at rr
  exact q p _ G2 _ (f.trans (Frm.own f2.s hp)) (f.h.free hp) (f2.s.free hp) upd_same rr
/-! ### calls of built-ins -/
def RCd (C : Cc) (r : PySem.W.Frag → List V → Hp → VK → Prop) (Ts : List Ty) (T : Ty) : Prop := ∀ (G H : Hp) (vs : List V) (Q : VK), Same G H → Are C.E.K G Ts vs → (∀ (v : V) (G' H' : Hp), Frm G H G' H' → T.P C.E.K G' v → Q v H') → r C.E.K vs H Q
structure IsB (C : Cc) (x : Str) : Prop where
  g : C.sc.names.lookup x = some .globalImplicit
  m : C.E.mg x = none
theorem d_callB {x : Str} {p : Pos} {es : List Expr} {Ts : List Ty} {id : String} {r : PySem.W.Frag → List V → Hp → VK → Prop} (hc : ∀ X : Cx, X.calm = true → Room C.k X.A → CallR X (.builtin id) (r X.K)) (hx : IsB C x) (hv : bootBuiltins x = some (.builtin id))
    (ha : DA C (e :: es) Γ Ts) (hr : RCd C r Ts T) (he : ∀ env : Env, starEach (e :: es) env = (false, eval e env) :: starEach es env) (hpl : ∀ env : Env, (backTo pos (starEach es env)).any (·.1) = false)
    (hn : x ≠ "__name__" := by decide) (hdb : (x == ("__debug__" : Str)) = false := by decide) : DE C (.Call (.Name x p) (e :: es) [] pos) Γ T := by
  intro X ok G0 W G σ H Q s q
  refine w_pe (pe_callB (hc X ok.calm ok.room) (by show X.env.scope.names.lookup x = _; rw [ok.sc]; exact hx.g) (by rw [ok.mg]; exact hx.m) hv pa_w hn hdb (he _) (hpl _)) ?_
  refine ha X ok G0 W G σ H _ s fun vs G1 H1 f1 pv => ?_
  rw [ok.K]
  exact hr G1 H1 vs _ f1.s pv fun v G2 H2 f2 p => q v G2 H2 (f1.trans f2) p
theorem d_callTy {x : Str} {p : Pos} {es : List Expr} {Ts : List Ty} {id : String} {r : PySem.W.Frag → List V → Hp → VK → Prop} (hc : ∀ X : Cx, X.calm = true → Room C.k X.A → CallR X (.type id) (r X.K)) (hx : IsB C x) (hv : bootBuiltins x = some (.type id))
    (ha : DA C (e :: es) Γ Ts) (hr : RCd C r Ts T) (he : ∀ env : Env, starEach (e :: es) env = (false, eval e env) :: starEach es env) (hpl : ∀ env : Env, (backTo pos (starEach es env)).any (·.1) = false)
    (hn : x ≠ "__name__" := by decide) (hdb : (x == ("__debug__" : Str)) = false := by decide) : DE C (.Call (.Name x p) (e :: es) [] pos) Γ T := by
  intro X ok G0 W G σ H Q s q
  refine w_pe (pe_callTy (hc X ok.calm ok.room) (by show X.env.scope.names.lookup x = _; rw [ok.sc]; exact hx.g) (by rw [ok.mg]; exact hx.m) hv pa_w hn hdb (he _) (hpl _)) ?_
  refine ha X ok G0 W G σ H _ s fun vs G1 H1 f1 pv => ?_
  rw [ok.K]
  exact hr G1 H1 vs _ f1.s pv fun v G2 H2 f2 p => q v G2 H2 (f1.trans f2) p
theorem are1 {K : PySem.W.Frag} {G : Hp} {vs : List V} (h : Are K G [T] vs) : ∃ v, vs = [v] ∧ T.P K G v := by
  cases h with
  | cons a r =>
    cases r
    exact ⟨_, rfl, a⟩
theorem are2 {K : PySem.W.Frag} {G : Hp} {vs : List V} (h : Are K G [T, Ta] vs) : ∃ v u, vs = [v, u] ∧ T.P K G v ∧ Ta.P K G u := by
  cases h with
  | cons a r =>
    obtain ⟨u, rfl, b⟩ := are1 r
    exact ⟨_, _, rfl, a, b⟩
section
variable {p : Pos} (he : ∀ env : Env, starEach [e] env = (false, eval e env) :: starEach [] env)
include he
theorem d_lenL {ds : List PyData} (hx : IsB C "len") (ha : DE C e Γ (tD (.list ds))) : DE C (.Call (.Name "len" p) [e] [] pos) Γ (tD (.int (ds.length : Int))) :=
  d_callB (r := fun K xs H Q => ∃ p ys, xs = [.ref p] ∧ (SqL K H p ys ∨ SqT K H p ys) ∧ Q (.int ys.length) H) (fun _ _ _ => call_len_seq) hx PySem.boot_len (da_cons ha da_nil he) (fun G H vs Q s pv q => by
    obtain ⟨v, rfl, h⟩ := are1 pv
    obtain ⟨l, xs, rfl, hq, r⟩ := dp_lst h
    refine ⟨l, xs, rfl, .inl (s.seq hq), ?_⟩
    rw [dpa_len r]
    exact q _ G H (Frm.refl s) (.int _)) he (fun _ => rfl)
theorem d_lenT {ds : List PyData} (hx : IsB C "len") (ha : DE C e Γ (tD (.tuple ds))) : DE C (.Call (.Name "len" p) [e] [] pos) Γ (tD (.int (ds.length : Int))) :=
  d_callB (r := fun K xs H Q => ∃ p ys, xs = [.ref p] ∧ (SqL K H p ys ∨ SqT K H p ys) ∧ Q (.int ys.length) H) (fun _ _ _ => call_len_seq) hx PySem.boot_len (da_cons ha da_nil he) (fun G H vs Q s pv q => by
    obtain ⟨v, rfl, h⟩ := are1 pv
    obtain ⟨l, xs, rfl, hq, r⟩ := dp_tup h
    refine ⟨l, xs, rfl, .inr (same_t s hq), ?_⟩
    rw [dpa_len r]
    exact q _ G H (Frm.refl s) (.int _)) he (fun _ => rfl)
theorem d_sum {ns : List Int} (hx : IsB C "sum") (ha : DE C e Γ (tD (.list (ns.map .int)))) : DE C (.Call (.Name "sum" p) [e] [] pos) Γ (tD (.int ns.sum)) :=
  d_callB (r := rSum) (fun _ h _ => cr_sum h) hx (by decide +kernel) (da_cons ha da_nil he) (fun G H vs Q s pv q => by
    obtain ⟨v, rfl, h⟩ := are1 pv
    obtain ⟨l, xs, rfl, hq, r⟩ := dp_lst h
    have e2 := dpa_ints r
    subst e2
    exact ⟨l, ns, rfl, s.seq hq, q _ G H (Frm.refl s) (.int _)⟩) he (fun _ => rfl)
theorem d_any {bs : List Bool} (hx : IsB C "any") (ha : DE C e Γ (tD (.list (bs.map .bool)))) : DE C (.Call (.Name "any" p) [e] [] pos) Γ (tD (.bool (bs.any id))) :=
  d_callB (r := rAny) (fun _ h _ => cr_any h) hx (by decide +kernel) (da_cons ha da_nil he) (fun G H vs Q s pv q => by
    obtain ⟨v, rfl, h⟩ := are1 pv
    obtain ⟨l, xs, rfl, hq, r⟩ := dp_lst h
    have e2 := dpa_bools r
    subst e2
    exact ⟨l, bs, rfl, s.seq hq, q _ G H (Frm.refl s) (.bl _)⟩) he (fun _ => rfl)
theorem d_all {bs : List Bool} (hx : IsB C "all") (ha : DE C e Γ (tD (.list (bs.map .bool)))) : DE C (.Call (.Name "all" p) [e] [] pos) Γ (tD (.bool (bs.all id))) :=
  d_callB (r := rAll) (fun _ h _ => cr_all h) hx (by decide +kernel) (da_cons ha da_nil he) (fun G H vs Q s pv q => by
    obtain ⟨v, rfl, h⟩ := are1 pv
    obtain ⟨l, xs, rfl, hq, r⟩ := dp_lst h
    have e2 := dpa_bools r
    subst e2
    exact ⟨l, bs, rfl, s.seq hq, q _ G H (Frm.refl s) (.bl _)⟩) he (fun _ => rfl)
theorem d_intB {k : Bool} (hx : IsB C "int") (ha : DE C e Γ (tD (.bool k))) : DE C (.Call (.Name "int" p) [e] [] pos) Γ (tD (.int (if k then 1 else 0))) :=
  d_callTy (r := fun _ xs H Q => (∃ i, xs = [.int i] ∧ Q (.int i) H) ∨ ∃ k, xs = [.bl k] ∧ Q (.int (if k then 1 else 0)) H) (fun _ _ _ => call_int1) hx (by decide +kernel) (da_cons ha da_nil he) (fun G H vs Q s pv q => by
    obtain ⟨v, rfl, h⟩ := are1 pv
    cases dp_bool h
    exact .inr ⟨k, rfl, q _ G H (Frm.refl s) (.int _)⟩) he (fun _ => rfl)
/-- list(x): a new list -/
theorem do_list {ds : List PyData} (hx : IsB C "list") (ha : DE C e Γ (tD (.tuple ds)) ∨ DE C e Γ (tD (.list ds))) : DEo C (.Call (.Name "list" p) [e] [] pos) Γ ds := by
  intro X ok G0 W G σ H Q s q
  refine w_pe (pe_callTy call_list_of (by show X.env.scope.names.lookup _ = _; rw [ok.sc]; exact hx.g) (by rw [ok.mg]; exact hx.m) (by decide +kernel) (pa_cons pe_w pa_nil (he _)) (by decide) (by decide) (he _) rfl) ?_
  have fin : ∀ (l : Addr) (xs : List V) (G1 H1 : Hp), Frm G H G1 H1 → DpAll C.E.K G1 xs ds → ∀ m, H1 m = none → Q (.ref m) (upd H1 m (.lst xs)) := fun l xs G1 H1 f1 r m hm =>
    q m xs G1 _ (f1.trans (Frm.own f1.s hm)) (f1.h.free hm) (f1.s.free hm) upd_same r
  rcases ha with ha | ha
  · refine ha X ok G0 W G σ H _ s fun x G1 H1 f1 px => ?_
    obtain ⟨l, xs, rfl, hq, r⟩ := dp_tup px
    exact ⟨l, xs, rfl, .inr (by rw [ok.K]; exact same_t f1.s hq), fin l xs G1 H1 f1 r⟩
  · refine ha X ok G0 W G σ H _ s fun x G1 H1 f1 px => ?_
    obtain ⟨l, xs, rfl, hq, r⟩ := dp_lst px
    exact ⟨l, xs, rfl, .inl (by rw [ok.K]; exact f1.s.seq hq), fin l xs G1 H1 f1 r⟩
theorem d_tupleL {ds : List PyData} (hx : IsB C "tuple") (ha : DE C e Γ (tD (.list ds))) : DE C (.Call (.Name "tuple" p) [e] [] pos) Γ (tD (.tuple ds)) :=
  d_callTy (r := fun K xs H Q => ∃ p ys, xs = [.ref p] ∧ ((SqL K H p ys ∧ ∀ l, H l = none → Q (.ref l) (upd H l (.tup ys))) ∨ (SqT K H p ys ∧ Q (.ref p) H))) (fun _ _ _ => call_tuple_of) hx (by decide +kernel) (da_cons ha da_nil he) (fun G H vs Q s pv q => by
    obtain ⟨v, rfl, h⟩ := are1 pv
    obtain ⟨l, xs, rfl, hq, r⟩ := dp_lst h
    refine ⟨l, xs, rfl, .inl ⟨s.seq hq, fun m hm => ?_⟩⟩
    obtain ⟨f, t⟩ := new_tup s hm r
    exact q _ _ _ f t) he (fun _ => rfl)
theorem d_tupleT {ds : List PyData} (hx : IsB C "tuple") (ha : DE C e Γ (tD (.tuple ds))) : DE C (.Call (.Name "tuple" p) [e] [] pos) Γ (tD (.tuple ds)) :=
  d_callTy (r := fun K xs H Q => ∃ p ys, xs = [.ref p] ∧ ((SqL K H p ys ∧ ∀ l, H l = none → Q (.ref l) (upd H l (.tup ys))) ∨ (SqT K H p ys ∧ Q (.ref p) H))) (fun _ _ _ => call_tuple_of) hx (by decide +kernel) (da_cons ha da_nil he) (fun G H vs Q s pv q => by
    obtain ⟨v, rfl, h⟩ := are1 pv
    obtain ⟨l, xs, rfl, hq, r⟩ := dp_tup h
    exact ⟨l, xs, rfl, .inr ⟨same_t s hq, q _ G H (Frm.refl s) h⟩⟩) he (fun _ => rfl)
end
/-- an own list's length -/
theorem d_lenO {n : Nat} {x : Str} {p p1 : Pos} {ds : List PyData} (hx : IsB C "len") (hN : C.N[n]? = some x) (hv : Vis C.sc x) (hG : Γ[n]? = some (some (so ds))) (hd : (x == ("__debug__" : Str)) = false := by decide) (hcd : (x == ("__classdict__" : Str)) = false := by decide) :
    DE C (.Call (.Name "len" p) [.Name x p1] [] pos) Γ (tD (.int (ds.length : Int))) := by
  intro X ok G0 W G σ H Q s q
  refine w_pe (pe_callB call_len_seq (by show X.env.scope.names.lookup _ = _; rw [ok.sc]; exact hx.g) (by rw [ok.mg]; exact hx.m) PySem.boot_len (pa_cons (pe_var (i := n) (by rw [ok.N]; exact hN) (by rw [ok.sc]; exact hv) hd hcd) pa_nil rfl) (by decide) (by decide) rfl rfl) ?_
  obtain ⟨v, ev, l, xs, rfl, hw, hg, hh, r⟩ := s.at_ n _ hG
  refine ⟨_, ev, l, xs, rfl, .inl (SqL.of hh), ?_⟩
  rw [dpa_len r]
  exact q _ G H (Frm.refl s.fr.s) (.int _)
/-! ### calls of own defs -/
/-- a def's promise over types: R relates the arguments' types with the answer's -/
def spT (K : PySem.W.Frag) (R : List Ty → Ty → Prop) : Sp := fun vs H Q _ => ∃ (G : Hp) (Ts : List Ty) (T : Ty), Same G H ∧ Are K G Ts vs ∧ R Ts T ∧ ∀ (v : V) (G' H' : Hp), Frm G H G' H' → T.P K G' v → Q v H'
/-- a def of the module that keeps it -/
structure Kn (E : Ev) (k : Nat) (x : Str) (R : List Ty → Ty → Prop) : Prop where
  ex : ∃ (f : Addr) (fd : FuncData) (ps : List Str), FnOk E.P E.w E.K E.mg E.base CX0 k f fd ps (spT E.K R) ∧ E.mg x = some (.ref f) ∧ PySem.W.keepIn E.K (.ref f) = true ∧ Binds E.K fd ps []
theorem d_call {x : Str} {p : Pos} {es : List Expr} {Ts : List Ty} {k : Nat} {R : List Ty → Ty → Prop} (F : Kn C.E k x R) (hk : k ≤ C.k) (hg : C.sc.names.lookup x = some .globalImplicit) (ha : DA C (e :: es) Γ Ts) (hR : R Ts T)
    (he : ∀ env : Env, starEach (e :: es) env = (false, eval e env) :: starEach es env) (hpl : ∀ env : Env, (backTo pos (starEach es env)).any (·.1) = false) (hdb : (x == ("__debug__" : Str)) = false := by decide) : DE C (.Call (.Name x p) (e :: es) [] pos) Γ T := by
  intro X ok G0 W G σ H Q s q
  obtain ⟨f, fd, ps, F, hm, kp, b⟩ := F.ex
  rw [← ok.p, ← ok.w, ← ok.K, ← ok.mg, ← ok.base] at F
  refine w_pe (pe_call F (ok.room.mono hk) (by show X.env.scope.names.lookup x = _; rw [ok.sc]; exact hg) (by rw [ok.mg]; exact hm) (by rw [ok.K]; exact kp) (by rw [ok.K]; exact b) .nil pass0 pa_w hdb (he _) (hpl _)) ?_
  refine ha X ok G0 W G σ H _ s fun vs G1 H1 f1 pv => ?_
  rw [List.append_nil, ok.K]
  exact ⟨G1, Ts, T, f1.s, pv, hR, fun v G2 H2 f2 p => q v G2 H2 (f1.trans f2) p⟩
/-- a method of the class at A that keeps it; the object's type first -/
structure KnM (E : Ev) (k : Nat) (A : Addr) (m : Str) (R : List Ty → Ty → Prop) : Prop where
  cl : Cls E.K A
  ex : ∃ (f : Addr) (fd : FuncData) (ps : List Str), FnOk E.P E.w E.K E.mg E.base CX0 k f fd ps (spT E.K R) ∧ Meth E.K A m f ∧ Binds E.K fd ps []
/-- values of this type are instances of the class at A without an own attribute m -/
def InsOf (T : Ty) (A : Addr) (m : Str) : Prop := ∀ (K : PySem.W.Frag) (H : Hp) (v : V), T.P K H v → ∃ (a dx : Addr) (fs : List (Str × V)), v = .ref a ∧ H a = some (.ins A dx fs) ∧ fs.lookup m = none
theorem d_meth {m : Str} {apos : Pos} {es : List Expr} {Ts : List Ty} {k : Nat} {A : Addr} {R : List Ty → Ty → Prop} (F : KnM C.E k A m R) (hk : k ≤ C.k) (ho : DE C a Γ Ta) (hi : InsOf Ta A m) (ha : DA C (e :: es) Γ Ts) (hR : R (Ta :: Ts) T)
    (he : ∀ env : Env, starEach (e :: es) env = (false, eval e env) :: starEach es env) (hpl : ∀ env : Env, (backTo pos (starEach es env)).any (·.1) = false)
    (ht : ∀ env : Env, ∃ pl : Sem Bool, eval (.Call (.Attribute a m apos) (e :: es) [] pos) env = (do
      let ov ← eval a env
      standAt apos.atName
      let (f, first) ← holding [ov] (getMethod ov m pl)
      callWith pos f first (backTo pos (starEach (e :: es) env)) (backToKw pos (keywordEach [] env)))) : DE C (.Call (.Attribute a m apos) (e :: es) [] pos) Γ T := by
  intro X ok G0 W G σ H Q s q
  obtain ⟨f, fd, ps, F', hm, b⟩ := F.ex
  have cl := F.cl
  rw [← ok.p, ← ok.w, ← ok.K, ← ok.mg, ← ok.base] at F'
  rw [← ok.K] at cl hm b
  obtain ⟨pl, ht⟩ := ht X.env
  refine w_pe (pe_meth pe_w cl hm F' (ok.room.mono hk) b .nil pass0 pa_w (he _) (hpl _) ht) ?_
  refine ho X ok G0 W G σ H _ s fun x G1 H1 f1 px => ?_
  obtain ⟨q1, dx, fs, rfl, hh, hl⟩ := hi _ _ _ px
  refine ⟨q1, dx, fs, rfl, f1.s _ _ hh, hl, ?_⟩
  refine ha X ok G0 W G1 σ H1 _ (s.step f1) fun vs G2 H2 f2 pv => ?_
  rw [List.append_nil, ok.K]
  exact ⟨G2, Ta :: Ts, T, f2.s, .cons (Ta.mono f2.g px) pv, hR, fun v G3 H3 f3 p => q v G3 H3 (f1.trans (f2.trans f3)) p⟩
theorem d_meth0 {m : Str} {apos : Pos} {k : Nat} {A : Addr} {R : List Ty → Ty → Prop} (F : KnM C.E k A m R) (hk : k ≤ C.k) (ho : DE C a Γ Ta) (hi : InsOf Ta A m) (hR : R [Ta] T)
    (ht : ∀ env : Env, ∃ pl : Sem Bool, eval (.Call (.Attribute a m apos) [] [] pos) env = (do
      let ov ← eval a env
      standAt apos.atName
      let (f, first) ← holding [ov] (getMethod ov m pl)
      callWith pos f first (backTo pos (starEach [] env)) (backToKw pos (keywordEach [] env)))) : DE C (.Call (.Attribute a m apos) [] [] pos) Γ T := by
  intro X ok G0 W G σ H Q s q
  obtain ⟨f, fd, ps, F', hm, b⟩ := F.ex
  have cl := F.cl
  rw [← ok.p, ← ok.w, ← ok.K, ← ok.mg, ← ok.base] at F'
  rw [← ok.K] at cl hm b
  obtain ⟨pl, ht⟩ := ht X.env
  refine w_pe (pe_meth0 pe_w cl hm F' (ok.room.mono hk) b .nil pass0 ht) ?_
  refine ho X ok G0 W G σ H _ s fun x G1 H1 f1 px => ?_
  obtain ⟨q1, dx, fs, rfl, hh, hl⟩ := hi _ _ _ px
  refine ⟨q1, dx, fs, rfl, f1.s _ _ hh, hl, ?_⟩
  rw [ok.K]
  exact ⟨G1, [Ta], T, f1.s, .cons px .nil, hR, fun v G3 H3 f3 p => q v G3 H3 (f1.trans f3) p⟩
/-- o.f -/
def FldOf (E : Ev) (Ta : Ty) (A : Addr) (f : Str) (T : Ty) : Prop := Cls E.K A ∧ NoAttr E.K A f ∧ ∀ (H : Hp) (v : V), Ta.P E.K H v → ∃ (a dx : Addr) (fs : List (Str × V)) (u : V), v = .ref a ∧ H a = some (.ins A dx fs) ∧ fs.lookup f = some u ∧ T.P E.K H u
theorem d_fld {f : Str} {A : Addr} (ho : DE C a Γ Ta) (hf : FldOf C.E Ta A f T) (hb : ∀ env : Env, attributeBase a f env (eval a env) = eval a env) : DE C (.Attribute a f pos) Γ T := by
  intro X ok G0 W G σ H Q s q
  refine w_pe (pe_fld pe_w (hb _)) ?_
  refine ho X ok G0 W G σ H _ s fun x G1 H1 f1 px => ?_
  obtain ⟨q1, dx, fs, u, rfl, hh, hl, pu⟩ := hf.2.2 _ _ px
  refine ⟨q1, A, dx, fs, u, rfl, f1.s _ _ hh, by rw [ok.K]; exact hf.1, by rw [ok.K]; exact hf.2.1, hl, q u G1 H1 f1 pu⟩
end
end DL
set_option Elab.async false
set_option linter.all false
set_option maxRecDepth 100000
set_option maxHeartbeats 1000000
namespace DL
open PySem PySem.Spec PyProof.Rows L2
/-! ### targets -/
/-- g stores a value of the data d: the slots' types go from Γ to Γ'; js: the slots that it stores -/
def GR (K : PySem.W.Frag) (g : TG) (js : List Nat) (d : PyData) (Γ Γ' : Gm) : Prop := ∀ (G0 W G : Hp) (σ : L2.St) (H : Hp) (v : V) (Q : L2.St → Hp → Prop), Sat K G0 W Γ G σ H → Dp K G v d →
  (∀ σ', (∀ vs : List Nat, (∀ j ∈ js, j ∈ vs) → wipe σ' vs = wipe σ vs) → Sat K G0 W Γ' G σ' H → Q σ' H) → g v σ H Q
def DG (C : Cc) (tg : Expr) (g : TG) : Prop := ∀ X, XOk C X → PG X tg g
theorem wipe_get {σ : L2.St} : ∀ (vs : List Nat) (i : Nat), (wipe σ vs)[i]? = if i ∈ vs then (σ[i]?).map (fun _ => (none : Option V)) else σ[i]?
  | [], i => by simp [wipe]
  | v :: vs, i => by
    show ((wipe σ vs).set v none)[i]? = _
    by_cases h : v = i
    · subst h
      rw [if_pos (List.mem_cons_self ..), List.getElem?_set, if_pos rfl]
      by_cases hl : v < (wipe σ vs).length
      · rw [if_pos hl]
        rw [wipe_length] at hl
        rw [List.getElem?_eq_getElem hl]
        rfl
      · rw [if_neg hl]
        rw [wipe_length] at hl
        rw [List.getElem?_eq_none (Nat.le_of_not_lt hl)]
        rfl
    · rw [List.getElem?_set_ne h, wipe_get vs i]
      by_cases hv : i ∈ vs
      · rw [if_pos hv, if_pos (List.mem_cons_of_mem _ hv)]
      · rw [if_neg hv, if_neg (fun q => by
          rcases List.mem_cons.mp q with z | z
          · exact h z.symm
          · exact hv z)]
theorem wipe_set {σ : L2.St} {i : Nat} {x : Option V} {vs : List Nat} (h : i ∈ vs) : wipe (σ.set i x) vs = wipe σ vs := by
  apply List.ext_getElem?
  intro j
  rw [wipe_get, wipe_get]
  by_cases hj : j ∈ vs
  · rw [if_pos hj, if_pos hj]
    by_cases hij : i = j
    · subst hij
      rw [List.getElem?_set, if_pos rfl]
      by_cases hl : i < σ.length
      · rw [if_pos hl, List.getElem?_eq_getElem hl]
        rfl
      · rw [if_neg hl, List.getElem?_eq_none (Nat.le_of_not_lt hl)]
    · rw [List.getElem?_set_ne hij]
  · rw [if_neg hj, if_neg hj, List.getElem?_set_ne (fun q : i = j => hj (q ▸ h))]
theorem wipe_idem {σ : L2.St} {vs : List Nat} : wipe (wipe σ vs) vs = wipe σ vs := by
  apply List.ext_getElem?
  intro j
  rw [wipe_get, wipe_get]
  by_cases hj : j ∈ vs
  · rw [if_pos hj, if_pos hj]
    cases σ[j]? <;> rfl
  · rw [if_neg hj, if_neg hj]
section
variable {C : Cc} {K : PySem.W.Frag} {Γ : Gm} {pos : Pos} {a b c d : PyData} {i j k : Nat}
theorem gr_name : GR K (gName i) [i] d Γ (Γ.set i (some (sD d))) := fun G0 W G σ H v Q s p q => q _ (fun vs h => wipe_set (h i (List.mem_singleton.mpr rfl))) (s.put i (S := sD d) p)
theorem gr_tup2 : GR K (gTup K 2 (gCons (gName i) (gCons (gName j) gNil))) [i, j] (.tuple [a, b]) Γ ((Γ.set i (some (sD a))).set j (some (sD b))) := fun G0 W G σ H v Q s p q => by
  obtain ⟨l, xs, rfl, hq, r⟩ := dp_tup p
  cases r with
  | cons pa r =>
    cases r with
    | cons pb r =>
      cases r
      refine ⟨l, _, rfl, same_t s.fr.s hq, rfl, _, _, rfl, _, _, rfl, rfl, ?_⟩
      exact q _ (fun vs h => by rw [wipe_set (h j (by simp)), wipe_set (h i (by simp))]) ((s.put i (S := sD a) pa).put j (S := sD b) pb)
theorem gr_tup3 : GR K (gTup K 3 (gCons (gName i) (gCons (gName j) (gCons (gName k) gNil)))) [i, j, k] (.tuple [a, b, c]) Γ (((Γ.set i (some (sD a))).set j (some (sD b))).set k (some (sD c))) := fun G0 W G σ H v Q s p q => by
  obtain ⟨l, xs, rfl, hq, r⟩ := dp_tup p
  cases r with
  | cons pa r =>
    cases r with
    | cons pb r =>
      cases r with
      | cons pc r =>
        cases r
        refine ⟨l, _, rfl, same_t s.fr.s hq, rfl, _, _, rfl, _, _, rfl, _, _, rfl, rfl, ?_⟩
        exact q _ (fun vs h => by rw [wipe_set (h k (by simp)), wipe_set (h j (by simp)), wipe_set (h i (by simp))]) (((s.put i (S := sD a) pa).put j (S := sD b) pb).put k (S := sD c) pc)
/-- pad, (lead, turn) -/
theorem gr_nest : GR K (gTup K 2 (gCons (gName i) (gCons (gTup K 2 (gCons (gName j) (gCons (gName k) gNil))) gNil))) [i, j, k] (.tuple [a, .tuple [b, c]]) Γ (((Γ.set i (some (sD a))).set j (some (sD b))).set k (some (sD c))) := fun G0 W G σ H v Q s p q => by
  obtain ⟨l, xs, rfl, hq, r⟩ := dp_tup p
  cases r with
  | cons pa r =>
    cases r with
    | cons pt r =>
      cases r
      obtain ⟨l2, xs2, rfl, hq2, r2⟩ := dp_tup pt
      cases r2 with
      | cons pb r2 =>
        cases r2 with
        | cons pc r2 =>
          cases r2
          refine ⟨l, _, rfl, same_t s.fr.s hq, rfl, _, _, rfl, _, _, rfl, l2, _, rfl, same_t s.fr.s hq2, rfl, _, _, rfl, _, _, rfl, rfl, rfl, ?_⟩
          exact q _ (fun vs h => by rw [wipe_set (h k (by simp)), wipe_set (h j (by simp)), wipe_set (h i (by simp))]) (((s.put i (S := sD a) pa).put j (S := sD b) pb).put k (S := sD c) pc)
/-- where a name may be stored -/
structure Sto (C : Cc) (i : Nat) (x : Str) : Prop where
  nd : C.N.Nodup
  N : C.N[i]? = some x
  loc : Loc C.sc x
  fn : C.fn x = true ∨ C.sc.names.lookup x = some .local
theorem dg_name {x : Str} (h : Sto C i x) : DG C (.Name x pos) (gName i) := fun X ok => pg_name (by rw [ok.N]; exact h.nd) (by rw [ok.N]; exact h.N) (by rw [ok.sc]; exact h.loc) (by rw [ok.fn, ok.sc]; exact h.fn)
theorem dg_tup2 {x y : Str} {p q : Pos} {kk : Nat} (h : Sto C i x) (h2 : Sto C j y) : DG C (.Tuple [.Name x p, .Name y q] kk pos) (gTup C.E.K 2 (gCons (gName i) (gCons (gName j) gNil))) := fun X ok => by
  rw [← ok.K]
  exact pg_tup ok.calm (pgs_cons (dg_name h X ok) (pgs_cons (dg_name h2 X ok) pgs_nil))
theorem dg_tup3 {x y z : Str} {p q r : Pos} {kk : Nat} (h : Sto C i x) (h2 : Sto C j y) (h3 : Sto C k z) : DG C (.Tuple [.Name x p, .Name y q, .Name z r] kk pos) (gTup C.E.K 3 (gCons (gName i) (gCons (gName j) (gCons (gName k) gNil)))) := fun X ok => by
  rw [← ok.K]
  exact pg_tup ok.calm (pgs_cons (dg_name h X ok) (pgs_cons (dg_name h2 X ok) (pgs_cons (dg_name h3 X ok) pgs_nil)))
theorem dg_nest {x y z : Str} {p q r p1 : Pos} {kk kk2 : Nat} (h : Sto C i x) (h2 : Sto C j y) (h3 : Sto C k z) : DG C (.Tuple [.Name x p, .Tuple [.Name y q, .Name z r] kk2 p1] kk pos) (gTup C.E.K 2 (gCons (gName i) (gCons (gTup C.E.K 2 (gCons (gName j) (gCons (gName k) gNil))) gNil))) := fun X ok => by
  rw [← ok.K]
  exact pg_tup ok.calm (pgs_cons (dg_name h X ok) (pgs_cons (pg_tup ok.calm (pgs_cons (dg_name h2 X ok) (pgs_cons (dg_name h3 X ok) pgs_nil))) pgs_nil))
end
/-! ### what is walked -/
structure Wk (K : PySem.W.Frag) (G : Hp) (J : It) (ds : List PyData) : Prop where
  step : ∀ (i : Nat) (d : PyData) (Gc Hc : Hp), ds[i]? = some d → Same G Gc → Same Gc Hc → J.go i Hc ∧ ∀ x H2, J.yld i Hc x H2 → ∃ G2, Frm Gc Hc G2 H2 ∧ Dp K G2 x d
  stop : ∀ (Gc Hc : Hp), Same G Gc → Same Gc Hc → J.stop ds.length Hc
theorem Wk.mono {K : PySem.W.Frag} {G G' : Hp} {J : It} {ds : List PyData} (w : Wk K G J ds) (s : Same G G') : Wk K G' J ds :=
  ⟨fun i d Gc Hc h a b => w.step i d Gc Hc h (s.trans a) b, fun Gc Hc a b => w.stop Gc Hc (s.trans a) b⟩
/-- the expression is walked, with some data of F as its items -/
def DI (C : Cc) (tg e : Expr) (Γ : Gm) (F : List PyData → Prop) : Prop := ∀ X, XOk C X → ∃ wi, PI X tg e wi ∧ ∀ (G0 W G : Hp) (σ : L2.St) (H : Hp) (R : It → Hp → Prop), Sat C.E.K G0 W Γ G σ H →
  (∀ (ds : List PyData) (J : It) (G' H' : Hp), F ds → Frm G H G' H' → Wk C.E.K G' J ds → R J H') → wi σ H R
section
variable {C : Cc} {Γ : Gm} {T Ta Tb : Ty} {e a b c tg : Expr} {pos p : Pos} {i j : Int}
theorem wk_list {K : PySem.W.Frag} {G : Hp} {a : Addr} {xs : List V} {ds : List PyData} (h : SqL K G a xs) (r : DpAll K G xs ds) : Wk K G (Itl K a) ds :=
  ⟨fun i d Gc Hc hd s1 s2 => by
    obtain ⟨v, hv, pv⟩ := dpa_get r hd
    exact ⟨⟨xs, v, s2.seq (s1.seq h), hv⟩, fun x H2 ⟨e, q⟩ => by
      subst e
      have ev := (q xs (s2.seq (s1.seq h))).symm.trans hv
      cases Option.some.inj ev
      exact ⟨Gc, Frm.refl s2, dp_mono s1 pv⟩⟩,
  fun Gc Hc s1 s2 => ⟨xs, s2.seq (s1.seq h), by rw [dpa_len r]; exact Nat.le_refl _⟩⟩
theorem wk_tup {K : PySem.W.Frag} {G : Hp} {a : Addr} {xs : List V} {ds : List PyData} (h : SqT K G a xs) (r : DpAll K G xs ds) : Wk K G (Itt K a) ds :=
  ⟨fun i d Gc Hc hd s1 s2 => by
    obtain ⟨v, hv, pv⟩ := dpa_get r hd
    exact ⟨⟨xs, v, same_t s2 (same_t s1 h), hv⟩, fun x H2 ⟨e, q⟩ => by
      subst e
      have ev := (q xs (same_t s2 (same_t s1 h))).symm.trans hv
      cases Option.some.inj ev
      exact ⟨Gc, Frm.refl s2, dp_mono s1 pv⟩⟩,
  fun Gc Hc s1 s2 => ⟨xs, same_t s2 (same_t s1 h), by rw [dpa_len r]; exact Nat.le_refl _⟩⟩
theorem di_list {ds : List PyData} (h : DE C e Γ (tD (.list ds))) : DI C tg e Γ (· = ds) := fun X ok => ⟨_, pi_list pe_w, fun G0 W G σ H R s q => by
  refine h X ok G0 W G σ H _ s fun x G1 H1 f1 px => ?_
  obtain ⟨l, xs, rfl, hq, r⟩ := dp_lst px
  refine ⟨l, rfl, ⟨xs, by rw [ok.K]; exact f1.s.seq hq⟩, ?_⟩
  rw [ok.K]
  exact q ds _ G1 H1 rfl f1 (wk_list hq r)⟩
theorem di_tup {ds : List PyData} (h : DE C e Γ (tD (.tuple ds))) : DI C tg e Γ (· = ds) := fun X ok => ⟨_, pi_tup pe_w, fun G0 W G σ H R s q => by
  refine h X ok G0 W G σ H _ s fun x G1 H1 f1 px => ?_
  obtain ⟨l, xs, rfl, hq, r⟩ := dp_tup px
  refine ⟨l, rfl, ⟨xs, by rw [ok.K]; exact same_t f1.s hq⟩, ?_⟩
  rw [ok.K]
  exact q ds _ G1 H1 rfl f1 (wk_tup hq r)⟩
/-- lo, lo + 1, .. -/
def upD (lo : Int) (n : Nat) : List PyData := (List.range n).map fun k => .int (lo + (k : Nat))
theorem wk_range {K : PySem.W.Frag} {G : Hp} {lo : Int} {n : Nat} : Wk K G (Itr lo n) (upD lo n) :=
  ⟨fun i d Gc Hc hd s1 s2 => by
    have hl := (List.getElem?_eq_some_iff.mp hd).1
    have hn : i < n := by
      unfold upD at hl
      rw [List.length_map, List.length_range] at hl
      exact hl
    refine ⟨hn, fun x H2 ⟨e, q⟩ => ?_⟩
    subst e
    refine ⟨Gc, Frm.refl s2, ?_⟩
    unfold upD at hd
    rw [List.getElem?_map, List.getElem?_range hn] at hd
    cases Option.some.inj hd
    rw [q]
    exact .int _,
  fun Gc Hc s1 s2 => by
    show n ≤ _
    unfold upD
    rw [List.length_map, List.length_range]
    exact Nat.le_refl _⟩
theorem di_range1G {F : Int → Prop} (hx : IsB C "range") (ha : DE C e Γ (tEx F fun i => tD (.int i))) (hF : ∀ i, F i → -(2 ^ 62) ≤ i ∧ i < 2 ^ 62) (hs : ∀ env : Env, starEach [e] env = [(false, eval e env)] := by intro _; rfl) :
    DI C tg (.Call (.Name "range" p) [e] [] pos) Γ (fun ds => ∃ i, F i ∧ ds = upD 0 i.toNat) := fun X ok =>
  ⟨_, pi_range1 (by show X.env.scope.names.lookup _ = _; rw [ok.sc]; exact hx.g) (by rw [ok.mg]; exact hx.m) (pa_cons pe_w pa_nil (hs _)) (hs _), fun G0 W G σ H R s q => by
    refine ha X ok G0 W G σ H _ s fun x G1 H1 f1 ⟨i, fi, px⟩ => ?_
    cases dp_int px
    exact ⟨i, rfl, (hF i fi).1, (hF i fi).2, q _ _ G1 H1 ⟨i, fi, rfl⟩ f1 wk_range⟩⟩
theorem di_range1 (hx : IsB C "range") (ha : DE C e Γ (tD (.int i))) (h1 : -(2 ^ 62) ≤ i) (h2 : i < 2 ^ 62) (hs : ∀ env : Env, starEach [e] env = [(false, eval e env)] := by intro _; rfl) :
    DI C tg (.Call (.Name "range" p) [e] [] pos) Γ (· = upD 0 i.toNat) := fun X ok =>
  ⟨_, pi_range1 (by show X.env.scope.names.lookup _ = _; rw [ok.sc]; exact hx.g) (by rw [ok.mg]; exact hx.m) (pa_cons pe_w pa_nil (hs _)) (hs _), fun G0 W G σ H R s q => by
    refine ha X ok G0 W G σ H _ s fun x G1 H1 f1 px => ?_
    cases dp_int px
    exact ⟨i, rfl, h1, h2, q _ _ G1 H1 rfl f1 wk_range⟩⟩
theorem di_range2 (hx : IsB C "range") (ha : DE C a Γ (tD (.int i))) (hb : DE C b Γ (tD (.int j))) (h1 : -(2 ^ 62) ≤ i) (h2 : i < 2 ^ 62) (h3 : -(2 ^ 62) ≤ j) (h4 : j < 2 ^ 62) (hs : ∀ env : Env, starEach [a, b] env = [(false, eval a env), (false, eval b env)] := by intro _; rfl)
    (hs2 : ∀ env : Env, starEach [b] env = [(false, eval b env)] := by intro _; rfl) : DI C tg (.Call (.Name "range" p) [a, b] [] pos) Γ (· = upD i (j - i).toNat) := fun X ok =>
  ⟨_, pi_range2 (by show X.env.scope.names.lookup _ = _; rw [ok.sc]; exact hx.g) (by rw [ok.mg]; exact hx.m) (pa_cons pe_w (pa_cons pe_w pa_nil (hs2 _)) (by rw [hs]; show _ = _ :: starEach [b] _; rw [hs2])) (hs _) (hs2 _), fun G0 W G σ H R s q => by
    refine ha X ok G0 W G σ H _ s fun x G1 H1 f1 px => ?_
    refine hb X ok G0 W G1 σ H1 _ (s.step f1) fun y G2 H2 f2 py => ?_
    cases dp_int px
    cases dp_int py
    exact ⟨i, j, rfl, ⟨h1, h2, h3, h4⟩, q _ _ G2 H2 rfl (f1.trans f2) wk_range⟩⟩
/-- number and item -/
def enD (ds : List PyData) : List PyData := ds.mapIdx fun i d => .tuple [.int (i : Nat), d]
theorem enD_get {ds : List PyData} {i : Nat} {d : PyData} (h : (enD ds)[i]? = some d) : ∃ x, ds[i]? = some x ∧ d = .tuple [.int (i : Nat), x] := by
  unfold enD at h
  rw [List.getElem?_mapIdx] at h
  cases e : ds[i]? with
  | none =>
    rw [e] at h
    cases h
  | some x =>
    rw [e] at h
    exact ⟨x, rfl, (Option.some.inj h).symm⟩
theorem wk_enum {K : PySem.W.Frag} {G : Hp} {a : Addr} {xs : List V} {ds : List PyData} (h : SqL K G a xs) (r : DpAll K G xs ds) : Wk K G (Ite K a) (enD ds) :=
  ⟨fun i d Gc Hc hd s1 s2 => by
    obtain ⟨y, hy, rfl⟩ := enD_get hd
    obtain ⟨v, hv, pv⟩ := dpa_get r hy
    refine ⟨⟨xs, v, s2.seq (s1.seq h), hv⟩, fun x H2 ⟨T, u, e1, e2, e3, q⟩ => ?_⟩
    subst e1
    subst e3
    have ev := (q xs (s2.seq (s1.seq h))).symm.trans hv
    cases Option.some.inj ev
    obtain ⟨f, t⟩ := new_tup (ds := [.int (i : Nat), y]) s2 e2 (.cons (.int _) (.cons (dp_mono s1 pv) .nil))
    exact ⟨_, f, t⟩,
  fun Gc Hc s1 s2 => ⟨xs, s2.seq (s1.seq h), by
    unfold enD
    rw [List.length_mapIdx, dpa_len r]
    exact Nat.le_refl _⟩⟩
theorem di_enum {ds : List PyData} {elts : List Expr} {kk : Nat} {tpos : Pos} (hx : IsB C "enumerate") (ha : DE C e Γ (tD (.list ds))) (hs : ∀ env : Env, starEach [e] env = [(false, eval e env)] := by intro _; rfl) :
    DI C (.Tuple elts kk tpos) (.Call (.Name "enumerate" p) [e] [] pos) Γ (· = enD ds) := fun X ok =>
  ⟨_, pi_enum (by show X.env.scope.names.lookup _ = _; rw [ok.sc]; exact hx.g) (by rw [ok.mg]; exact hx.m) (pa_cons pe_w pa_nil (hs _)) (hs _), fun G0 W G σ H R s q => by
    refine ha X ok G0 W G σ H _ s fun x G1 H1 f1 px => ?_
    obtain ⟨l, xs, rfl, hq, r⟩ := dp_lst px
    refine ⟨l, xs, rfl, by rw [ok.K]; exact f1.s.seq hq, ?_⟩
    rw [ok.K]
    exact q _ _ G1 H1 rfl f1 (wk_enum hq r)⟩
end
/-! ### list comprehensions -/
/-- the slots' types within a comprehension -/
def wipeG (Γ : Gm) : List Nat → Gm
  | [] => Γ
  | v :: vs => (wipeG Γ vs).set v none
theorem wipeG_len (Γ : Gm) : ∀ vs : List Nat, (wipeG Γ vs).length = Γ.length
  | [] => rfl
  | v :: vs => by
    show ((wipeG Γ vs).set v none).length = _
    rw [List.length_set, wipeG_len Γ vs]
theorem wipeG_some {Γ : Gm} {i : Nat} {S : Sl} : ∀ {vs : List Nat}, (wipeG Γ vs)[i]? = some (some S) → Γ[i]? = some (some S) ∧ i ∉ vs
  | [], h => ⟨h, List.not_mem_nil⟩
  | v :: vs, h => by
    replace h : ((wipeG Γ vs).set v none)[i]? = some (some S) := h
    by_cases hv : v = i
    · subst hv
      rw [List.getElem?_set, if_pos rfl] at h
      split at h
      · cases h
      · cases h
    · rw [List.getElem?_set_ne hv] at h
      obtain ⟨a, b⟩ := wipeG_some h
      exact ⟨a, fun q => by
        rcases List.mem_cons.mp q with z | z
        · exact hv z.symm
        · exact b z⟩
theorem Sat.wipe {K : PySem.W.Frag} {G0 W G H : Hp} {Γ : Gm} {σ : L2.St} (s : Sat K G0 W Γ G σ H) (vs : List Nat) : Sat K G0 W (wipeG Γ vs) G (L2.wipe σ vs) H :=
  ⟨s.fr, by rw [wipe_length, wipeG_len, s.len], fun i S h => by
    obtain ⟨a, b⟩ := wipeG_some h
    obtain ⟨v, e, p⟩ := s.at_ i S a
    exact ⟨v, by rw [wipe_out b]; exact e, p⟩⟩
/-- a clause's tests -/
def DTs (C : Cc) (ifs : List Expr) (Γ : Gm) (b : Bool) : Prop := ∀ X, XOk C X → ∀ (G0 W G : Hp) (σ : L2.St) (H : Hp) (Q : Bool → Hp → Prop), Sat C.E.K G0 W Γ G σ H →
  (∀ (G' H' : Hp), Frm G H G' H' → Q b H') → ∀ (pins : List (Addr × Obj)) (s : Shared), Inv X pins σ H s →
    wpAny (model X.prog X.w) X.A (forIn ifs true fun c r => if r = true then do let ok ← isTrue c X.env (eval c X.env); pure (ForInStep.yield ok) else pure (ForInStep.yield r)) (TP X pins σ Q) X.xe s
theorem dts_nil {C : Cc} {Γ : Gm} : DTs C [] Γ true := fun X ok G0 W G σ H Q s q pins sh I => pts_nil.run pins sh σ H Q I (q G H (Frm.refl s.fr.s))
theorem dts_one {C : Cc} {Γ : Gm} {c : Expr} {k : Bool} (h : DT C c Γ k) : DTs C [c] Γ k := fun X ok G0 W G σ H Q s q pins sh I => (pts_one (pt_w (X := X) (e := c))).run pins sh σ H Q I (h X ok G0 W G σ H Q s q)
/-- what a comprehension of one clause asks, and what it makes. F: the items' data; Rel: what is made of the items gone through -/
structure LcD (C : Cc) (elt tg iter : Expr) (ifs : List Expr) (scope : Scope) (Γ : Gm) (F : List PyData → Prop) (Rel : List PyData → List PyData → Prop) : Prop where
  ex : ∃ (g : TG) (js : List Nat) (own : List (Str × Nat)), DI C tg iter Γ F ∧ C.N.Nodup ∧ blkC C.N C.sc scope own = true ∧ (∀ j ∈ js, j ∈ own.map (·.2)) ∧ DG (C.blk scope) tg g ∧ (∀ ds, F ds → ds.length ≤ 1000000) ∧ Rel [] [] ∧
    (∀ pre d post out, F (pre ++ d :: post) → Rel pre out → ∃ Γ' k, GR C.E.K g js d (wipeG Γ (own.map (·.2))) Γ' ∧ DTs (C.blk scope) ifs Γ' k ∧ (k = false → Rel (pre ++ [d]) out) ∧ (k = true → DE (C.blk scope) elt Γ' (tEx (fun y => Rel (pre ++ [d]) (out ++ [y])) tD))) ∧
    (∀ env x, foldedSetIterable iter env x = pure x)
/-- the reading of it -/
theorem LcD.run {C : Cc} {elt tg iter : Expr} {ifs : List Expr} {scope : Scope} {Γ : Gm} {F : List PyData → Prop} {Rel : List PyData → List PyData → Prop} (L : LcD C elt tg iter ifs scope Γ F Rel) {X : Cx} (ok : XOk C X) :
    ∃ wi g tt te, ∃ own : List (Str × Nat), PI X tg iter wi ∧ BlkOk X.N X.env.scope scope own ∧ X.N.Nodup ∧ (∀ (s : Shared) (H : Hp) (A : Addr) (cl : List (Str × Addr)) (fp : List Addr), PG (X.blk s H scope (compEnvC scope cl A X.env) fp) tg g) ∧
      (∀ (s : Shared) (H : Hp) (A : Addr) (cl : List (Str × Addr)) (fp : List Addr), PTs (X.blk s H scope (compEnvC scope cl A X.env) fp) ifs tt) ∧ (∀ (s : Shared) (H : Hp) (A : Addr) (cl : List (Str × Addr)) (fp : List Addr), PE (X.blk s H scope (compEnvC scope cl A X.env) fp) elt te) ∧
      (∀ x, foldedSetIterable iter X.env x = pure x) ∧
      ∀ (G0 W G : Hp) (σ : L2.St) (H : Hp) (Q : VK), Sat C.E.K G0 W Γ G σ H → (∀ (p : Addr) (xs : List V) (G' H' : Hp) (ds out : List PyData), F ds → Rel ds out → Frm G H G' H' → H p = none → G' p = none → H' p = some (.lst xs) → DpAll C.E.K G' xs out → Q (.ref p) H') →
        tLc wi g tt te (own.map (·.2)) σ H Q := by
  obtain ⟨g, js, own, di, nd, bk, hj, hg, hlen, h0, hs, hf⟩ := L.ex
  obtain ⟨wi, hpi, hwi⟩ := di X ok
  refine ⟨wi, g, fun σ H Q => ∀ (s : Shared) (H0 : Hp) (A : Addr) (cl : List (Str × Addr)) (fp : List Addr) (pins : List (Addr × Obj)) (sh : Shared), Inv (X.blk s H0 scope (compEnvC scope cl A X.env) fp) pins σ H sh →
      wpAny (model X.prog X.w) X.A (forIn ifs true fun c r => if r = true then do let ok ← isTrue c (compEnvC scope cl A X.env) (eval c (compEnvC scope cl A X.env)); pure (ForInStep.yield ok) else pure (ForInStep.yield r)) (TP (X.blk s H0 scope (compEnvC scope cl A X.env) fp) pins σ Q) (fun _ _ => False) sh,
    fun σ H Q => ∀ (s : Shared) (H0 : Hp) (A : Addr) (cl : List (Str × Addr)) (fp : List Addr), wE (X.blk s H0 scope (compEnvC scope cl A X.env) fp) elt σ H Q, own, hpi, ?_, by rw [ok.N]; exact nd, fun s H A cl fp => hg _ (ok.blk scope s H A cl fp),
    fun s H A cl fp => ⟨fun pins sh σ H' Q I h => h s H A cl fp pins sh I⟩, fun s H A cl fp => ⟨fun pins sh σ H' Q I h => h s H A cl fp pins sh I⟩, hf _, ?_⟩
  · rw [ok.N, ok.sc]
    exact blkOk_by bk
  intro G0 W G σ H Q s q
  refine hwi G0 W G σ H _ s fun ds J G1 H1 fds f1 wk => ?_
  intro D hD
  have sD : Frm G1 H1 G1 (upd H1 D (.lst [])) := Frm.own f1.s hD
  have hDW : W D = none := s.fr.h.free (f1.h.free hD)
  -- the invariant by the turn
  refine ⟨fun i m H2 => i + m = ds.length ∧ ∃ (G2 : Hp) (xs : List V) (out : List PyData), Frm G H G2 H2 ∧ Same G1 G2 ∧ G2 D = none ∧ H2 D = some (.lst xs) ∧ DpAll C.E.K G2 xs out ∧ Rel (ds.take i) out ∧ out.length ≤ i,
    ⟨ds.length, by omega, G1, [], [], f1.trans sD, Same.refl _, f1.s.free hD, upd_same, .nil, h0, Nat.le_refl _⟩, fun i m H2 ⟨em, G2, xs, out, f2, g2, gD, hD2, r, rel, hlo⟩ => ?_⟩
  by_cases hi : i < ds.length
  · obtain ⟨d, hd⟩ : ∃ d, ds[i]? = some d := ⟨_, List.getElem?_eq_getElem hi⟩
    have split : ds = ds.take i ++ d :: ds.drop (i + 1) := by
      have e1 := List.take_append_drop i ds
      have e2 : ds.drop i = d :: ds.drop (i + 1) := by
        rw [List.drop_eq_getElem_cons hi]
        rw [List.getElem?_eq_getElem hi] at hd
        rw [Option.some.inj hd]
      rw [e2] at e1
      exact e1.symm
    have tk : ds.take i ++ [d] = ds.take (i + 1) := by
      rw [List.take_add_one, hd]
      rfl
    obtain ⟨Γ', k, gr, dt, kf, kt⟩ := hs (ds.take i) d (ds.drop (i + 1)) out (split ▸ fds) rel
    rw [tk] at kf kt
    obtain ⟨go, yl⟩ := wk.step i d G2 H2 hd g2 f2.s
    refine .inr ⟨go, fun H3 => ∃ (G3 : Hp) (ys : List V) (out' : List PyData), Frm G H G3 H3 ∧ Same G1 G3 ∧ G3 D = none ∧ H3 D = some (.lst ys) ∧ DpAll C.E.K G3 ys out' ∧ Rel (ds.take (i + 1)) out' ∧ out'.length ≤ i + 1, fun H3 h3 => ⟨m - 1, by omega, by omega, h3⟩, fun x H3 hy => ?_⟩
    obtain ⟨G3, f3, px⟩ := yl x H3 hy
    have dne : H2 D ≠ none := by
      rw [hD2]
      intro z
      cases z
    refine gr G0 W G3 _ H3 x _ ((s.wipe (own.map (·.2))).step (f2.trans f3)) px fun σ2 hw s2 => ⟨?_, ?_⟩
    · rw [hw _ hj, wipe_idem]
    · intro sh H0 A cl fp
      refine dt _ (ok.blk scope sh H0 A cl fp) G0 W G3 σ2 H3 _ s2 fun G4 H4 f4 => ?_
      have gD4 : G4 D = none := f4.o D (fun z => dne (f3.h.free z)) (f3.o D dne gD)
      have hD4 : H4 D = some (.lst xs) := f4.h _ _ (f3.h _ _ hD2)
      cases k with
      | false => exact iteF ⟨G4, xs, out, f2.trans (f3.trans f4), g2.trans (f3.g.trans f4.g), gD4, hD4, dpa_mono (f3.g.trans f4.g) r, kf rfl, Nat.le_succ_of_le hlo⟩
      | true =>
        refine iteT ?_
        intro sh H0 A cl fp
        refine (kt rfl) _ (ok.blk scope sh H0 A cl fp) G0 W G4 σ2 H4 _ (s2.step f4) fun y G5 H5 f5 ⟨dy, hy, py⟩ => ?_
        have gD5 : G5 D = none := f5.o D (fun z => by rw [hD4] at z; cases z) gD4
        have hD5 : H5 D = some (.lst xs) := f5.h _ _ hD4
        have f : Frm G H G5 H5 := f2.trans (f3.trans (f4.trans f5))
        refine ⟨xs, hD5, small_lt ?_, G5, xs ++ [y], out ++ [dy], ⟨fun b o e => ?_, f.g, fun b o e => ?_, f.o⟩, g2.trans (f3.g.trans (f4.g.trans f5.g)), gD5, upd_same, dpa_app (dpa_mono (f3.g.trans (f4.g.trans f5.g)) r) (.cons py .nil), hy, ?_⟩
        · rw [dpa_len r]
          have := hlen ds fds
          omega
        · rw [upd_ne (fun z : b = D => by subst z; rw [f1.h.free hD] at e; cases e)]
          exact f.h _ _ e
        · rw [upd_ne (fun z : b = D => by subst z; rw [gD5] at e; cases e)]
          exact f.s _ _ e
        · rw [List.length_append]
          show out.length + 1 ≤ _
          omega
  · have ei : i = ds.length := by omega
    subst ei
    rw [List.take_length] at rel
    exact .inl ⟨wk.stop G2 H2 g2 f2.s, q D xs G2 H2 ds out fds rel f2 (f1.h.free hD) gD hD2 r⟩
/-- as a value, a new list -/
theorem dl_gen {C : Cc} {elt tg iter : Expr} {ifs : List Expr} {scope : Scope} {Γ : Gm} {F : List PyData → Prop} {Rel : List PyData → List PyData → Prop} {pos : Pos} (L : LcD C elt tg iter ifs scope Γ F Rel) :
    DE C (.ListComp elt [⟨tg, iter, ifs, 0⟩] scope pos) Γ (tEx (fun out => ∃ ds, F ds ∧ Rel ds out) tL) := by
  intro X ok G0 W G σ H Q s q
  obtain ⟨wi, g, tt, te, own, h1, h2, h3, h4, h5, h6, h7, h8⟩ := L.run ok
  refine w_pe (pe_lc ok.calm h3 h1 h2 h4 h5 h6 h7) (h8 G0 W G σ H Q s fun p xs G' H' ds out fd rel f hp hg hh r => ?_)
  refine q (.ref p) (upd G' p (.lst xs)) H' ⟨f.h, f.g.trans (same_new hg), fun b o e => ?_, fun b hb hg0 => ?_⟩ ⟨out, ⟨ds, fd, rel⟩, p, xs, rfl, upd_same, dpa_mono (same_new hg) r⟩
  · by_cases hbp : b = p
    · subst hbp
      rw [upd_same] at e
      cases e
      exact hh
    · rw [upd_ne hbp] at e
      exact f.s _ _ e
  · rw [upd_ne (fun (z : b = p) => hb (by rw [z]; exact hp))]
    exact f.o b hb hg0
/-- the usual: items ds of known data, each gives F' of it or nothing -/
structure LcF (C : Cc) (elt tg iter : Expr) (ifs : List Expr) (scope : Scope) (Γ : Gm) (ds : List PyData) (f : PyData → Option PyData) (g : TG) (js : List Nat) (own : List (Str × Nat)) : Prop where
  it : DI C tg iter Γ (· = ds)
  nd : C.N.Nodup
  bk : blkC C.N C.sc scope own = true
  js_ : ∀ j ∈ js, j ∈ own.map (·.2)
  tg_ : DG (C.blk scope) tg g
  len : ds.length ≤ 1000000
  st : ∀ d ∈ ds, ∃ Γ' k, GR C.E.K g js d (wipeG Γ (own.map (·.2))) Γ' ∧ DTs (C.blk scope) ifs Γ' k ∧ (k = false → f d = none) ∧ (k = true → ∃ y, f d = some y ∧ DE (C.blk scope) elt Γ' (tD y))
  fs : ∀ env x, foldedSetIterable iter env x = pure x
theorem LcF.lcd {C : Cc} {elt tg iter : Expr} {ifs : List Expr} {scope : Scope} {Γ : Gm} {ds : List PyData} {f : PyData → Option PyData} {g : TG} {js : List Nat} {own : List (Str × Nat)} (L : LcF C elt tg iter ifs scope Γ ds f g js own) :
    LcD C elt tg iter ifs scope Γ (· = ds) (fun pre out => out = pre.filterMap f) :=
  ⟨g, js, own, L.it, L.nd, L.bk, L.js_, L.tg_, fun _ e => e ▸ L.len, rfl, fun pre d post out e eo => by
    obtain ⟨Γ', k, gr, dt, kf, kt⟩ := L.st d (by rw [← e]; exact List.mem_append_right _ (List.mem_cons_self ..))
    refine ⟨Γ', k, gr, dt, fun h => ?_, fun h => ?_⟩
    · rw [eo, List.filterMap_append, List.filterMap_cons, kf h]
      simp
    · obtain ⟨y, hy, de⟩ := kt h
      refine de.le fun K H v p => ⟨y, ?_, p⟩
      rw [eo, List.filterMap_append, List.filterMap_cons, hy]
      simp, L.fs⟩
theorem dl_fun {C : Cc} {elt tg iter : Expr} {ifs : List Expr} {scope : Scope} {Γ : Gm} {ds : List PyData} {f : PyData → Option PyData} {g : TG} {js : List Nat} {own : List (Str × Nat)} {pos : Pos} (L : LcF C elt tg iter ifs scope Γ ds f g js own) :
    DE C (.ListComp elt [⟨tg, iter, ifs, 0⟩] scope pos) Γ (tL (ds.filterMap f)) :=
  (dl_gen L.lcd).le fun K H v ⟨out, ⟨ds', e1, e2⟩, p⟩ => by
    subst e1
    subst e2
    exact p
end DL
set_option Elab.async false
set_option linter.all false
set_option maxRecDepth 100000
set_option maxHeartbeats 1000000
namespace DL
open PySem PySem.Spec PyProof.Rows L2
/-! ### statements -/
/-- Γ' forgets some of Γ -/
def Gle : Gm → Gm → Prop
  | [], [] => True
  | none :: a, _ :: b => Gle a b
  | some S :: a, x :: b => x = some S ∧ Gle a b
  | _, _ => False
theorem Gle.len : ∀ {a b : Gm}, Gle a b → a.length = b.length
  | [], [], _ => rfl
  | none :: a, _ :: b, h => congrArg (· + 1) (Gle.len (a := a) (b := b) h)
  | some _ :: a, _ :: b, h => congrArg (· + 1) (Gle.len (a := a) (b := b) h.2)
theorem Gle.get : ∀ {a b : Gm} {i : Nat} {S : Sl}, Gle a b → a[i]? = some (some S) → b[i]? = some (some S)
  | none :: a, _ :: b, 0, S, _, e => by cases e
  | none :: a, _ :: b, i + 1, S, h, e => Gle.get (a := a) (b := b) (i := i) h e
  | some T :: a, x :: b, 0, S, h, e => by
    cases e
    rw [h.1]
    rfl
  | some _ :: a, _ :: b, i + 1, S, h, e => Gle.get (a := a) (b := b) (i := i) h.2 e
theorem Gle.refl : ∀ {a : Gm}, Gle a a
  | [] => trivial
  | none :: a => Gle.refl (a := a)
  | some S :: a => ⟨rfl, Gle.refl (a := a)⟩
theorem Sat.weak {K : PySem.W.Frag} {G0 W G H : Hp} {Γ Γ' : Gm} {σ : L2.St} (s : Sat K G0 W Γ G σ H) (g : Gle Γ' Γ) : Sat K G0 W Γ' G σ H := s.drop g.len fun i S h => g.get h
/-- another base: the settled part at some moment between -/
theorem Sat.base {K : PySem.W.Frag} {G0 W G H Gj : Hp} {Γ : Gm} {σ : L2.St} (s : Sat K G0 W Γ G σ H) (a : Same G0 Gj) (b : Same Gj G) : Sat K Gj W Γ G σ H :=
  ⟨⟨s.fr.h, b, s.fr.s, fun p hp hg => s.fr.o p hp (a.free hg)⟩, s.len, s.at_⟩
theorem Frm.unbase {G0 W Gj Hj G H : Hp} (f : Frm G0 W Gj Hj) (g : Frm Gj W G H) : Frm G0 W G H := ⟨g.h, f.g.trans g.g, g.s, fun p hp hg => g.o p hp (f.o p hp hg)⟩
theorem Sat.unbase {K : PySem.W.Frag} {G0 W G H Gj Hj : Hp} {Γ : Gm} {σ : L2.St} (f : Frm G0 W Gj Hj) (s : Sat K Gj W Γ G σ H) : Sat K G0 W Γ G σ H := ⟨f.unbase s.fr, s.len, s.at_⟩
theorem Fits.base {K : PySem.W.Frag} {G0 W Gj Hj : Hp} {R : Po} {D : Ends} (f : Frm G0 W Gj Hj) (h : Fits K G0 W R D) : Fits K Gj W R D :=
  ⟨fun Γ G σ H r s => h.nx Γ G σ H r (s.unbase f), fun T v G H r g p => h.rt T v G H r (f.unbase g) p, fun Γ G σ H r s => h.bk Γ G σ H r (s.unbase f), fun Γ G σ H r s => h.ct Γ G σ H r (s.unbase f), fun Γ T v G σ H r s p => h.rs Γ T v G σ H r (s.unbase f) p⟩
section
variable {C : Cc} {Γ : Gm} {T Ta Tb : Ty} {e a b c tg : Expr} {pos p : Pos} {i j : Int} {R : Po} {rest : List Stmt}
theorem ds_weak {sts : List Stmt} {Γ' : Gm} (g : Gle Γ' Γ) (h : DS C sts Γ' R) : DS C sts Γ R := fun X ok G0 W G σ H D s f => h X ok G0 W G σ H D (s.weak g) f
theorem ds_nil {Γ' : Gm} (h : R.nx Γ') (g : Gle Γ' Γ) : DS C [] Γ R := fun X ok G0 W G σ H D s f => w_ps pss_nil (f.nx Γ' G σ H h (s.weak g))
theorem ds_ret (he : DE C e Γ T) (h : R.rt T) : DS C (.Return (some e) pos :: rest) Γ R := fun X ok G0 W G σ H D s f => by
  refine w_ps (pss_cons (ps_ret pe_w) pss_never) ?_
  exact he X ok G0 W G σ H _ s fun v G' H' f1 p => f.rt T v G' H' h (s.fr.trans f1) p
theorem ds_retN (h : R.rt (tD .none)) : DS C (.Return none pos :: rest) Γ R := fun X ok G0 W G σ H D s f => by
  refine w_ps (pss_cons ps_retN pss_never) ?_
  exact f.rt _ _ G H h s.fr .non
/-- the list so made may be handed back settled -/
theorem ds_set {n : Nat} {x : Str} (he : DE C e Γ T) (st : Sto C n x) (hr : DS C rest (Γ.set n (some (sv T))) R) (hs : ∀ (env : Env) (l : Nat), env.scope = C.sc → swapsWith e (some (.Name x p)) l env = pure false := by intro _ _ _; rfl) : DS C (.Assign [.Name x p] e pos :: rest) Γ R := fun X ok G0 W G σ H D s f => by
  refine w_ps (pss_cons (ps_set (by rw [ok.N]; exact st.nd) (by rw [ok.N]; exact st.N) (by rw [ok.sc]; exact st.loc) pe_w (hs _ _ ok.sc) (by rw [ok.fn, ok.sc]; exact st.fn)) ps_w) ?_
  refine he X ok G0 W G σ H _ s fun v G' H' f1 pv => ?_
  exact hr X ok G0 W G' _ H' D ((s.step f1).put n (S := sv T) pv) f
theorem ds_setO {n : Nat} {x : Str} {ds : List PyData} (he : DEo C e Γ ds) (st : Sto C n x) (hr : DS C rest (Γ.set n (some (so ds))) R) (hs : ∀ (env : Env) (l : Nat), env.scope = C.sc → swapsWith e (some (.Name x p)) l env = pure false := by intro _ _ _; rfl) : DS C (.Assign [.Name x p] e pos :: rest) Γ R := fun X ok G0 W G σ H D s f => by
  refine w_ps (pss_cons (ps_set (by rw [ok.N]; exact st.nd) (by rw [ok.N]; exact st.N) (by rw [ok.sc]; exact st.loc) pe_w (hs _ _ ok.sc) (by rw [ok.fn, ok.sc]; exact st.fn)) ps_w) ?_
  refine he X ok G0 W G σ H _ s fun q xs G' H' f1 hq hg hh r => ?_
  exact hr X ok G0 W G' _ H' D ((s.step f1).put n (S := so ds) ⟨q, xs, rfl, s.fr.h.free hq, hg, hh, r⟩) f
/-- a slot of a union: one of its types -/
theorem ds_open {n : Nat} {α : Type} {F : α → Prop} {U : α → Ty} {sts : List Stmt} (hl : n < Γ.length) (h : ∀ z, F z → DS C sts (Γ.set n (some (sv (U z)))) R) : DS C sts (Γ.set n (some (sv (tEx F U)))) R := fun X ok G0 W G σ H D s f => by
  obtain ⟨v, ev, z, fz, pz⟩ := s.at_ n _ (List.getElem?_set_self hl)
  refine h z fz X ok G0 W G σ H D ⟨s.fr, by rw [s.len, List.length_set, List.length_set], fun m S hm => ?_⟩ f
  by_cases hmn : n = m
  · subst hmn
    rw [List.getElem?_set_self hl] at hm
    cases Option.some.inj (Option.some.inj hm)
    exact ⟨v, ev, pz⟩
  · rw [List.getElem?_set_ne hmn] at hm
    exact s.at_ m S (by rw [List.getElem?_set_ne hmn]; exact hm)
theorem ds_setLc {n : Nat} {y : Str} {py spos cpos : Pos} {elt iter : Expr} {ifs : List Expr} {scope : Scope} {F : List PyData → Prop} {Rel : List PyData → List PyData → Prop} (L : LcD C elt tg iter ifs scope Γ F Rel) (st : Sto C n y) (hk : C.sc.kind = .function)
    (hl : C.sc.names.lookup y = some .local) (hline : (py.line == cpos.line) = true) (ha : (scope.names.any fun (n, k) => n == y && (k == .local || k == .cell)) = false)
    (hr : ∀ ds out, F ds → Rel ds out → DS C rest (Γ.set n (some (sv (tL out)))) R) : DS C (.Assign [.Name y py] (.ListComp elt [⟨tg, iter, ifs, 0⟩] scope cpos) spos :: rest) Γ R := fun X ok G0 W G σ H D s f => by
  obtain ⟨wi, g, tt, te, own, h1, h2, h3, h4, h5, h6, h7, h8⟩ := L.run ok
  refine w_ps (pss_cons (ps_setLc ok.calm h3 (by rw [ok.N]; exact st.N) (by rw [ok.sc]; exact hl) (sw_true (by rw [ok.sc]; exact hk) (by rw [ok.sc]; exact hl) hline ha) h1 h2 h4 h5 h6 h7) ps_w) ?_
  show tLc wi g tt te (own.map (·.2)) σ H (fun x H1 => wS X rest D (σ.set n (some x)) H1)
  refine h8 G0 W G σ H _ s fun q xs G' H' ds out fd rel f1 hq hg hh r => ?_
  have f2 : Frm G H (upd G' q (.lst xs)) H' := ⟨f1.h, f1.g.trans (same_new hg), fun b o e => by
    by_cases hbp : b = q
    · subst hbp
      rw [upd_same] at e
      cases e
      exact hh
    · rw [upd_ne hbp] at e
      exact f1.s _ _ e, fun b hb hg0 => by
    rw [upd_ne (fun (z : b = q) => hb (by rw [z]; exact hq))]
    exact f1.o b hb hg0⟩
  exact hr ds out fd rel X ok G0 W _ _ H' D ((s.step f2).put n (S := sv (tL out)) ⟨q, xs, rfl, upd_same, dpa_mono (same_new hg) r⟩) f
theorem ds_setLcF {n : Nat} {y : Str} {py spos cpos : Pos} {elt iter : Expr} {ifs : List Expr} {scope : Scope} {ds : List PyData} {f : PyData → Option PyData} {g : TG} {js : List Nat} {own : List (Str × Nat)} (L : LcF C elt tg iter ifs scope Γ ds f g js own) (st : Sto C n y) (hk : C.sc.kind = .function)
    (hl : C.sc.names.lookup y = some .local) (hline : (py.line == cpos.line) = true) (ha : (scope.names.any fun (n, k) => n == y && (k == .local || k == .cell)) = false)
    (hr : DS C rest (Γ.set n (some (sv (tL (ds.filterMap f))))) R) : DS C (.Assign [.Name y py] (.ListComp elt [⟨tg, iter, ifs, 0⟩] scope cpos) spos :: rest) Γ R :=
  ds_setLc L.lcd st hk hl hline ha fun ds' out e1 e2 => by
    subst e1
    subst e2
    exact hr
theorem ds_expr (he : DE C e Γ T) (hr : DS C rest Γ R) (hs : ∀ (env : Env) (l : Nat), swapsWith e none l env = pure false := by intro _ _; rfl) : DS C (.Expr e pos :: rest) Γ R := fun X ok G0 W G σ H D s f => by
  refine w_ps (pss_cons (ps_expr pe_w (hs _ _)) ps_w) ?_
  exact he X ok G0 W G σ H _ s fun v G' H' f1 p => hr X ok G0 W G' σ H' D (s.step f1) f
/-- behind a part the rest -/
abbrev Po.thn (R : Po) (C : Cc) (rest : List Stmt) : Po := { R with nx := fun Γ' => DS C rest Γ' R }
theorem Fits.thn {K : PySem.W.Frag} {G0 W : Hp} {D : Ends} {X : Cx} (ok : XOk C X) (hK : K = C.E.K) (f : Fits K G0 W R D) : Fits K G0 W (R.thn C rest) { D with nx := fun σ H => wS X rest D σ H } := by
  subst hK
  exact ⟨fun Γ G σ H r s => r X ok G0 W G σ H D s f, f.rt, f.bk, f.ct, f.rs⟩
theorem ds_ifT {A B : List Stmt} (h : DT C c Γ true) (ha : DS C A Γ (R.thn C rest)) : DS C (.If c A B pos :: rest) Γ R := fun X ok G0 W G σ H D s f => by
  refine w_ps (pss_cons (ps_if pt_w ps_w (pss_never (sts := B))) ps_w) ?_
  exact h X ok G0 W G σ H _ s fun G' H' f1 => iteT (ha X ok G0 W G' σ H' _ (s.step f1) (f.thn ok rfl))
theorem ds_ifF {A B : List Stmt} (h : DT C c Γ false) (ha : DS C B Γ (R.thn C rest)) : DS C (.If c A B pos :: rest) Γ R := fun X ok G0 W G σ H D s f => by
  refine w_ps (pss_cons (ps_if pt_w (pss_never (sts := A)) ps_w) ps_w) ?_
  exact h X ok G0 W G σ H _ s fun G' H' f1 => iteF (ha X ok G0 W G' σ H' _ (s.step f1) (f.thn ok rfl))
theorem ds_if {A B : List Stmt} {k : Bool} (h : DT C c Γ k) (ha : k = true → DS C A Γ (R.thn C rest)) (hb : k = false → DS C B Γ (R.thn C rest)) : DS C (.If c A B pos :: rest) Γ R := by
  cases k with
  | true => exact ds_ifT h (ha rfl)
  | false => exact ds_ifF h (hb rfl)
/-- an if without else that is passed by -/
theorem ds_pass {A : List Stmt} (h : DT C c Γ false) (hr : DS C rest Γ R) : DS C (.If c A [] pos :: rest) Γ R := ds_ifF h (ds_nil (Γ' := Γ) hr Gle.refl)
theorem ds_unp {g : TG} {js : List Nat} {d : PyData} {Γ' : Gm} (he : DE C e Γ (tD d)) (hg : DG C tg g) (gr : GR C.E.K g js d Γ Γ') (hr : DS C rest Γ' R) (hs : ∀ (env : Env) (l : Nat), swapsWithSole [tg] e l env = pure false := by intro _ _; rfl) (hw : ∀ env : Env, swappedStores [tg] e env = pure none := by intro _; rfl)
    (h1 : ∀ env : Env, (assignEach [tg] env).map (·.2) = [assign tg env] := by intro _; rfl) : DS C (.Assign [tg] e pos :: rest) Γ R := fun X ok G0 W G σ H D s f => by
  refine w_ps (pss_cons (ps_asg pe_w (hg X ok) (hs _ _) (hw _) (h1 _)) ps_w) ?_
  refine he X ok G0 W G σ H _ s fun v G' H' f1 pv => ?_
  exact gr G0 W G' σ H' v _ (s.step f1) pv fun σ' _ s' => hr X ok G0 W G' σ' H' D s' f
/-! arguments that may be new lists -/
def DAS (C : Cc) (es : List Expr) (Γ : Gm) (Ss : List Sl) : Prop := ∀ X, XOk C X → ∀ (G0 W G : Hp) (σ : L2.St) (H : Hp) (Q : List V → Hp → Prop), Sat C.E.K G0 W Γ G σ H →
  (∀ (vs : List V) (G' H' : Hp), Frm G H G' H' → All2 (fun S v => S.P C.E.K W G' H' v) Ss vs → Q vs H') → wA X es σ H Q
theorem das_nil : DAS C [] Γ [] := fun X ok G0 W G σ H Q s q => w_pa pa_nil (q [] G H (Frm.refl s.fr.s) .nil)
theorem das_cons {es : List Expr} {Ss : List Sl} (h : DE C e Γ T) (hr : DAS C es Γ Ss) (hs : ∀ env : Env, starEach (e :: es) env = (false, eval e env) :: starEach es env := by intro _; rfl) : DAS C (e :: es) Γ (sv T :: Ss) := by
  intro X ok G0 W G σ H Q s q
  refine w_pa (pa_cons pe_w pa_w (hs _)) ?_
  refine h X ok G0 W G σ H _ s fun x G1 H1 f1 px => ?_
  exact hr X ok G0 W G1 σ H1 _ (s.step f1) fun vs G2 H2 f2 pv => q (x :: vs) G2 H2 (f1.trans f2) (.cons (T.mono f2.g px) pv)
theorem das_consO {es : List Expr} {Ss : List Sl} {ds : List PyData} (h : DEo C e Γ ds) (hr : DAS C es Γ Ss) (hs : ∀ env : Env, starEach (e :: es) env = (false, eval e env) :: starEach es env := by intro _; rfl) : DAS C (e :: es) Γ (so ds :: Ss) := by
  intro X ok G0 W G σ H Q s q
  refine w_pa (pa_cons pe_w pa_w (hs _)) ?_
  refine h X ok G0 W G σ H _ s fun l xs G1 H1 f1 hl hg hh r => ?_
  refine hr X ok G0 W G1 σ H1 _ (s.step f1) fun vs G2 H2 f2 pv => q (.ref l :: vs) G2 H2 (f1.trans f2) (.cons ?_ pv)
  exact (so ds).keep f2 ⟨l, xs, rfl, s.fr.h.free hl, hg, hh, r⟩
theorem ds_par2 {n m : Nat} {x y : Str} {px py pt : Pos} {kt k2 : Nat} {pt2 : Pos} {Sa Sb : Sl} (h : DAS C [a, b] Γ [Sa, Sb]) (st : Sto C n x) (st2 : Sto C m y) (hnm : n ≠ m) (hx : C.sc.names.lookup x = some .local) (hy : C.sc.names.lookup y = some .local)
    (hr : DS C rest ((Γ.set n (some Sa)).set m (some Sb)) R) (hw : ∀ env : Env, env.scope = C.sc → swappedStores [.Tuple [.Name x px, .Name y py] kt pt] (.Tuple [a, b] k2 pt2) env = pure (some [x, y])) :
    DS C (.Assign [.Tuple [.Name x px, .Name y py] kt pt] (.Tuple [a, b] k2 pt2) pos :: rest) Γ R := fun X ok G0 W G σ H D s f => by
  refine w_ps (pss_cons (ps_par (i := n) (j := m) ok.calm (by rw [ok.N]; exact st.nd) (by rw [ok.N]; exact st.N) (by rw [ok.N]; exact st2.N) hnm (by rw [ok.sc]; exact hx) (by rw [ok.sc]; exact hy) pa_w (hw _ ok.sc)) ps_w) ?_
  refine h X ok G0 W G σ H _ s fun vs G' H' f1 pv => ?_
  cases pv with
  | cons p1 pv =>
    cases pv with
    | cons p2 pv =>
      cases pv
      exact ⟨_, _, rfl, hr X ok G0 W G' _ H' D (((s.step f1).put n p1).put m p2) f⟩
theorem ds_par3 {n m l : Nat} {x y z : Str} {px py pz pt : Pos} {kt k2 : Nat} {pt2 : Pos} {Sa Sb Sc : Sl} (h : DAS C [a, b, c] Γ [Sa, Sb, Sc]) (st : Sto C n x) (st2 : Sto C m y) (st3 : Sto C l z) (hnm : n ≠ m) (hnl : n ≠ l) (hml : m ≠ l)
    (hx : C.sc.names.lookup x = some .local) (hy : C.sc.names.lookup y = some .local) (hz : C.sc.names.lookup z = some .local)
    (hr : DS C rest (((Γ.set n (some Sa)).set m (some Sb)).set l (some Sc)) R) (hw : ∀ env : Env, env.scope = C.sc → swappedStores [.Tuple [.Name x px, .Name y py, .Name z pz] kt pt] (.Tuple [a, b, c] k2 pt2) env = pure (some [x, y, z])) :
    DS C (.Assign [.Tuple [.Name x px, .Name y py, .Name z pz] kt pt] (.Tuple [a, b, c] k2 pt2) pos :: rest) Γ R := fun X ok G0 W G σ H D s f => by
  refine w_ps (pss_cons (ps_par3 (i := n) (j := m) (l := l) ok.calm (by rw [ok.N]; exact st.nd) (by rw [ok.N]; exact st.N) (by rw [ok.N]; exact st2.N) (by rw [ok.N]; exact st3.N) hnm hnl hml (by rw [ok.sc]; exact hx) (by rw [ok.sc]; exact hy) (by rw [ok.sc]; exact hz) pa_w (hw _ ok.sc)) ps_w) ?_
  refine h X ok G0 W G σ H _ s fun vs G' H' f1 pv => ?_
  cases pv with
  | cons p1 pv =>
    cases pv with
    | cons p2 pv =>
      cases pv with
      | cons p3 pv =>
        cases pv
        exact ⟨_, _, _, rfl, hr X ok G0 W G' _ H' D ((((s.step f1).put n p1).put m p2).put l p3) f⟩
/-- x op= e of ints -/
theorem ds_aug {n : Nat} {x : Str} {op : Operator} {r : L2.R2} {d d2 d3 : PyData} (hG : Γ[n]? = some (some (sD d))) (he : DE C e Γ (tD d2)) (ho : ∀ X : Cx, OpR X (inplaceOp op) r) (h : Op2 C (fun _ => r) (tD d) (tD d2) (tD d3)) (st : Sto C n x) (hr : DS C rest (Γ.set n (some (sD d3))) R) :
    DS C (.AugAssign (.Name x p) op e pos :: rest) Γ R := fun X ok G0 W G σ H D s f => by
  refine w_ps (pss_cons (ps_aug (ti := r) (by rw [ok.N]; exact st.nd) (by rw [ok.N]; exact st.N) (by rw [ok.sc]; exact st.loc) pe_w (ho X) (by rw [ok.fn, ok.sc]; exact st.fn)) ps_w) ?_
  obtain ⟨v, ev, pv⟩ := s.at_ n _ hG
  refine ⟨v, ev, ?_⟩
  refine he X ok G0 W G σ H _ s fun u G' H' f1 pu => ?_
  refine h G' H' v u _ f1.s ((tD d).mono f1.g pv) pu fun w' G2 H2 f2 pw => ?_
  exact hr X ok G0 W G2 _ H2 D (((s.step f1).step f2).put n (S := sD d3) pw) f
theorem ds_augAdd {n : Nat} {x : Str} (hG : Γ[n]? = some (some (sD (.int i)))) (he : DE C e Γ (tD (.int j))) (st : Sto C n x) (hr : DS C rest (Γ.set n (some (sD (.int (i + j))))) R) : DS C (.AugAssign (.Name x p) .Add e pos :: rest) Γ R :=
  ds_aug hG he (fun _ => iop_add) o_rI0 st hr
theorem ds_augMul {n : Nat} {x : Str} (hc : CMul i j) (hG : Γ[n]? = some (some (sD (.int i)))) (he : DE C e Γ (tD (.int j))) (st : Sto C n x) (hr : DS C rest (Γ.set n (some (sD (.int (i * j))))) R) : DS C (.AugAssign (.Name x p) .Mult e pos :: rest) Γ R :=
  ds_aug hG he (fun _ => iop_mul) (o_rI (c := CMul) hc) st hr
/-! ### own lists -/
/-- all slots but the n-th hold settled things -/
def pureBut (Γ : Gm) (n : Nat) : Bool := (List.range Γ.length).all fun m => m == n || match Γ[m]? with
  | some (some S) => S.pure
  | _ => true
theorem pureBut_ok {n m : Nat} {S : Sl} (h : pureBut Γ n = true) (hm : m ≠ n) (e : Γ[m]? = some (some S)) : S.pure = true := by
  unfold pureBut at h
  have := List.all_eq_true.mp h m (List.mem_range.mpr (List.getElem?_eq_some_iff.mp e).1)
  rw [e] at this
  simpa [hm] using this
/-- the own list at slot n is another one -/
theorem Sat.own {K : PySem.W.Frag} {G0 W G H : Hp} {σ : L2.St} {n : Nat} {q : Addr} {ds ds' : List PyData} {ys : List V} (s : Sat K G0 W Γ G σ H) (hG : Γ[n]? = some (some (so ds))) (hp : pureBut Γ n = true) (hv : σ[n]? = some (some (.ref q)))
    (hw : W q = none) (hg : G q = none) (r : DpAll K G ys ds') : Sat K G0 W (Γ.set n (some (so ds'))) G σ (upd H q (.lst ys)) := by
  have nw : ∀ b o, W b = some o → b ≠ q := fun b o e z => by
    rw [z, hw] at e
    cases e
  refine ⟨⟨fun b o e => ?_, s.fr.g, fun b o e => ?_, s.fr.o⟩, by rw [s.len, List.length_set], fun m S hm => ?_⟩
  · rw [upd_ne (nw b o e)]
    exact s.fr.h _ _ e
  · rw [upd_ne (fun z : b = q => by subst z; rw [hg] at e; cases e)]
    exact s.fr.s _ _ e
  · by_cases hmn : n = m
    · subst hmn
      rw [List.getElem?_set_self (List.getElem?_eq_some_iff.mp hG).1] at hm
      cases Option.some.inj (Option.some.inj hm)
      exact ⟨_, hv, q, ys, rfl, hw, hg, upd_same, r⟩
    · rw [List.getElem?_set_ne hmn] at hm
      obtain ⟨v, ev, pv⟩ := s.at_ m S hm
      exact ⟨v, ev, S.any (pureBut_ok hp (fun z => hmn z.symm) hm) pv⟩
theorem ds_appG {n : Nat} {x : Str} {p1 apos : Pos} {α : Type} {F : α → Prop} {dd : α → PyData} {ds : List PyData} (hG : Γ[n]? = some (some (so ds))) (hN : C.N[n]? = some x) (hv : Vis C.sc x) (he : DE C e Γ (tEx F fun z => tD (dd z))) (hp : pureBut Γ n = true) (hl : ds.length ≤ 1000000)
    (hr : ∀ z, F z → DS C rest (Γ.set n (some (so (ds ++ [dd z])))) R) (hs : ∀ env : Env, starEach [e] env = (false, eval e env) :: starEach [] env := by intro _; rfl) (hline : (apos.endLine == pos.line) = true := by rfl)
    (hd : (x == ("__debug__" : Str)) = false := by decide) (hcd : (x == ("__classdict__" : Str)) = false := by decide) : DS C (.Expr (.Call (.Attribute (.Name x p1) "append" apos) [e] [] pos) p :: rest) Γ R := fun X ok G0 W G σ H D s f => by
  refine w_ps (pss_cons (ps_expr (pe_bm PySem.F.plainAttrs_list PySem.F.slot_list_append PySem.F.type_list_append mt_append (pe_var (i := n) (by rw [ok.N]; exact hN) (by rw [ok.sc]; exact hv) hd hcd) (pa_cons pe_w pa_nil (hs _)) rfl (by rw [hs]; rfl) hline (hs _) rfl)) ps_w) ?_
  obtain ⟨v, ev, q, xs, rfl, hw, hg, hh, r⟩ := s.at_ n _ hG
  refine ⟨_, ev, .inl ⟨rfl, xs, SqL.of hh⟩, ?_⟩
  refine he X ok G0 W G σ H _ s fun u G' H' f1 ⟨z, fz, pu⟩ => ?_
  have hg' : G' q = none := f1.o q (by rw [hh]; intro z; cases z) hg
  have hh' : H' q = some (.lst xs) := f1.h _ _ hh
  refine ⟨q, xs, u, rfl, rfl, hh', small_lt (by rw [dpa_len r]; exact hl), ?_⟩
  exact hr z fz X ok G0 W G' σ _ D ((s.step f1).own hG hp ev hw hg' (dpa_app (dpa_mono f1.g r) (.cons pu .nil))) f
theorem ds_app {n : Nat} {x : Str} {p1 apos : Pos} {d : PyData} {ds : List PyData} (hG : Γ[n]? = some (some (so ds))) (hN : C.N[n]? = some x) (hv : Vis C.sc x) (he : DE C e Γ (tD d)) (hp : pureBut Γ n = true) (hl : ds.length ≤ 1000000)
    (hr : DS C rest (Γ.set n (some (so (ds ++ [d])))) R) (hs : ∀ env : Env, starEach [e] env = (false, eval e env) :: starEach [] env := by intro _; rfl) (hline : (apos.endLine == pos.line) = true := by rfl)
    (hd : (x == ("__debug__" : Str)) = false := by decide) (hcd : (x == ("__classdict__" : Str)) = false := by decide) : DS C (.Expr (.Call (.Attribute (.Name x p1) "append" apos) [e] [] pos) p :: rest) Γ R :=
  ds_appG (α := Unit) (F := fun _ => True) (dd := fun _ => d) hG hN hv (he.le fun K H v h => ⟨(), trivial, h⟩) hp hl (fun _ _ => hr) hs hline hd hcd
/-- xs[i] = e, xs an own list -/
theorem ds_put {n : Nat} {x : Str} {p1 p2 : Pos} {d : PyData} {ds : List PyData} {k : Nat} (hG : Γ[n]? = some (some (so ds))) (hN : C.N[n]? = some x) (hv : Vis C.sc x) (he : DE C e Γ (tD d)) (hi : DE C b Γ (tD (.int (k : Nat)))) (hk : k < ds.length) (hp : pureBut Γ n = true)
    (hr : DS C rest (Γ.set n (some (so (ds.set k d)))) R) (hs : ∀ (env : Env) (l : Nat), swapsWithSole [.Subscript (.Name x p1) b p2] e l env = pure false := by intro _ _; rfl) (hw : ∀ env : Env, swappedStores [.Subscript (.Name x p1) b p2] e env = pure none := by intro _; rfl)
    (h1 : ∀ env : Env, (assignEach [.Subscript (.Name x p1) b p2] env).map (·.2) = [assign (.Subscript (.Name x p1) b p2) env] := by intro _; rfl)
    (ha : ∀ (env : Env) v, assign (.Subscript (.Name x p1) b p2) env v = (do
      let ov ← holding [v] (eval (.Name x p1) env)
      let iv ← holding [v, ov] (eval b env)
      standAt p2
      holding [v, ov, iv] (setItem ov iv v)
      release [v, ov, iv] []) := by intro _ _; rfl)
    (hd : (x == ("__debug__" : Str)) = false := by decide) (hcd : (x == ("__classdict__" : Str)) = false := by decide) : DS C (.Assign [.Subscript (.Name x p1) b p2] e pos :: rest) Γ R := fun X ok G0 W G σ H D s f => by
  refine w_ps (pss_cons (ps_asg pe_w (pg_sub (pe_var (i := n) (by rw [ok.N]; exact hN) (by rw [ok.sc]; exact hv) hd hcd) pe_w set_list (ha _)) (hs _ _) (hw _) (h1 _)) ps_w) ?_
  obtain ⟨v, ev, q, xs, rfl, hw', hg, hh, r⟩ := s.at_ n _ hG
  refine he X ok G0 W G σ H _ s fun u G1 H1 f1 pu => ?_
  refine ⟨_, ev, ?_⟩
  refine hi X ok G0 W G1 σ H1 _ (s.step f1) fun y G2 H2 f2 py => ?_
  have f12 := f1.trans f2
  have hg' : G2 q = none := f12.o q (by rw [hh]; intro z; cases z) hg
  have hh' : H2 q = some (.lst xs) := f12.h _ _ hh
  have hlt : ((k : Nat) : Int) < (xs.length : Nat) := by rw [dpa_len r]; omega
  refine ⟨q, xs, k, k, rfl, dp_int py, hh', ?_, ?_⟩
  · unfold ixN
    rw [if_pos (Int.natCast_nonneg k), if_pos hlt]
    rfl
  · exact hr X ok G0 W G2 σ _ D ((s.step f12).own hG hp ev hw' hg' (dpa_set (dp_mono f2.g pu) k (dpa_mono f12.g r))) f
/-- an own list that is not changed any more -/
theorem ds_freeze {n : Nat} {ds : List PyData} {sts : List Stmt} (hG : Γ[n]? = some (some (so ds))) (hp : pureBut Γ n = true) (hr : DS C sts (Γ.set n (some (sv (tL ds)))) R) : DS C sts Γ R := fun X ok G0 W G σ H D s f => by
  obtain ⟨v, ev, q, xs, rfl, hw, hg, hh, r⟩ := s.at_ n _ hG
  refine hr X ok G0 W (upd G q (.lst xs)) σ H D ⟨⟨s.fr.h, s.fr.g.trans (same_new hg), fun b o e => ?_, fun b hb hb0 => ?_⟩, by rw [s.len, List.length_set], fun m S hm => ?_⟩ f
  · by_cases z : b = q
    · subst z
      rw [upd_same] at e
      cases e
      exact hh
    · rw [upd_ne z] at e
      exact s.fr.s _ _ e
  · rw [upd_ne (fun z : b = q => by subst z; exact hb hw)]
    exact s.fr.o b hb hb0
  · by_cases hmn : n = m
    · subst hmn
      rw [List.getElem?_set_self (List.getElem?_eq_some_iff.mp hG).1] at hm
      cases Option.some.inj (Option.some.inj hm)
      exact ⟨_, ev, q, xs, rfl, upd_same, dpa_mono (same_new hg) r⟩
    · rw [List.getElem?_set_ne hmn] at hm
      obtain ⟨u, eu, pu⟩ := s.at_ m S hm
      have pS := pureBut_ok hp (fun z => hmn z.symm) hm
      have e1 : S.P C.E.K G G G u := S.any pS pu
      exact ⟨u, eu, S.any pS (S.keep (Frm.new (o := .lst xs) (Same.refl G) hg) e1)⟩
/-! ### loops -/
/-- for: I holds behind the items gone through -/
theorem ds_forG {g : TG} {iter : Expr} {body : List Stmt} {F : List PyData → Prop} (di : DI C tg iter Γ F) (dg : DG C tg g) (I : List PyData → Nat → Gm → Prop) (h0 : ∀ ds, F ds → I ds 0 Γ)
    (hs : ∀ ds i d Γ1, F ds → ds[i]? = some d → I ds i Γ1 → ∃ js Γ2, GR C.E.K g js d Γ1 Γ2 ∧ DS C body Γ2 { nx := I ds (i + 1), ct := I ds (i + 1), bk := fun Γ' => DS C rest Γ' R, rt := R.rt })
    (hd : ∀ ds Γ1, F ds → I ds ds.length Γ1 → DS C rest Γ1 R) (hf : ∀ env x, foldedSetIterable iter env x = pure x := by intro _ _; rfl) : DS C (.For tg iter body [] pos :: rest) Γ R := fun X ok G0 W G σ H D s f => by
  obtain ⟨wi, hpi, hwi⟩ := di X ok
  refine w_ps (pss_cons (ps_for (by rw [ok.xe]; exact PassesOwn.never) ok.calm hpi (dg X ok) ps_w (hf _)) ps_w) ?_
  refine hwi G0 W G σ H _ s fun ds J Gj Hj fds fj wk => ?_
  have sj := s.step fj
  refine ⟨fun i m σ2 H2 => i + m = ds.length ∧ ∃ Γ1 G1, I ds i Γ1 ∧ Sat C.E.K Gj W Γ1 G1 σ2 H2, ⟨ds.length, by omega, Γ, Gj, h0 ds fds, sj.base sj.fr.g (Same.refl _)⟩, fun i m σ2 H2 ⟨em, Γ1, G1, hI, s1⟩ => ?_⟩
  by_cases hi : i < ds.length
  · obtain ⟨d, hd'⟩ : ∃ d, ds[i]? = some d := ⟨_, List.getElem?_eq_getElem hi⟩
    obtain ⟨go, yl⟩ := wk.step i d G1 H2 hd' s1.fr.g s1.fr.s
    obtain ⟨js, Γ2, gr, hb⟩ := hs ds i d Γ1 fds hd' hI
    refine .inr ⟨go, fun σ' H' => ∃ Γ1 G1, I ds (i + 1) Γ1 ∧ Sat C.E.K Gj W Γ1 G1 σ' H', fun σ' H' h => ⟨m - 1, by omega, by omega, h⟩, fun x H' hy => ?_⟩
    obtain ⟨G2, f2, px⟩ := yl x H' hy
    refine gr Gj W G2 σ2 H' x _ (s1.step f2) px fun σ3 _ s3 => ?_
    refine hb X ok Gj W G2 σ3 H' _ s3 ⟨fun Γ' G' σ' H' r s' => ⟨Γ', G', r, s'⟩, fun T v G' H' r f' p => f.rt T v G' H' r (sj.fr.unbase f') p, fun Γ' G' σ' H' r s' => ?_, fun Γ' G' σ' H' r s' => ⟨Γ', G', r, s'⟩, fun _ _ _ _ _ _ z => z.elim⟩
    exact r X ok G0 W G' σ' H' D (s'.unbase sj.fr) f
  · have ei : i = ds.length := by omega
    subst ei
    exact .inl ⟨wk.stop G1 H2 s1.fr.g s1.fr.s, hd ds Γ1 fds hI X ok G0 W G1 σ2 H2 D (s1.unbase sj.fr) f⟩
theorem ds_for {g : TG} {iter : Expr} {body : List Stmt} {ds : List PyData} (di : DI C tg iter Γ (· = ds)) (dg : DG C tg g) (I : Nat → Gm → Prop) (h0 : I 0 Γ)
    (hs : ∀ i d Γ1, ds[i]? = some d → I i Γ1 → ∃ js Γ2, GR C.E.K g js d Γ1 Γ2 ∧ DS C body Γ2 { nx := I (i + 1), ct := I (i + 1), bk := fun Γ' => DS C rest Γ' R, rt := R.rt })
    (hd : ∀ Γ1, I ds.length Γ1 → DS C rest Γ1 R) (hf : ∀ env x, foldedSetIterable iter env x = pure x := by intro _ _; rfl) : DS C (.For tg iter body [] pos :: rest) Γ R :=
  ds_forG di dg (fun _ => I) (fun _ _ => h0) (fun ds' i d Γ1 e => by subst e; exact hs i d Γ1) (fun ds' Γ1 e => by subst e; exact hd Γ1) hf
theorem ds_while {body : List Stmt} (I : Nat → Gm → Prop) (m0 : Nat) (h0 : I m0 Γ)
    (hs : ∀ m Γ1, I m Γ1 → ∃ k, DT C c Γ1 k ∧ (k = true → DS C body Γ1 { nx := fun Γ' => ∃ m', m' < m ∧ I m' Γ', ct := fun Γ' => ∃ m', m' < m ∧ I m' Γ', bk := fun Γ' => DS C rest Γ' R, rt := R.rt }) ∧ (k = false → DS C rest Γ1 R)) :
    DS C (.While c body [] pos :: rest) Γ R := fun X ok G0 W G σ H D s f => by
  refine w_ps (pss_cons (ps_while (by rw [ok.xe]; exact PassesOwn.never) pt_w ps_w) ps_w) ?_
  refine ⟨fun m σ2 H2 => ∃ Γ1 G1, I m Γ1 ∧ Sat C.E.K G0 W Γ1 G1 σ2 H2, ⟨m0, Γ, G, h0, s⟩, fun m σ2 H2 ⟨Γ1, G1, hI, s1⟩ => ?_⟩
  obtain ⟨k, dt, kt, kf⟩ := hs m Γ1 hI
  refine dt X ok G0 W G1 σ2 H2 _ s1 fun G2 H3 f2 => ?_
  cases k with
  | false => exact iteF (kf rfl X ok G0 W G2 σ2 H3 D (s1.step f2) f)
  | true =>
    refine iteT ⟨fun σ' H' => ∃ m', m' < m ∧ ∃ Γ1 G1, I m' Γ1 ∧ Sat C.E.K G0 W Γ1 G1 σ' H', fun σ' H' h => h, ?_⟩
    refine kt rfl X ok G0 W G2 σ2 H3 _ (s1.step f2) ⟨fun Γ' G' σ' H' ⟨m', lt, r⟩ s' => ⟨m', lt, Γ', G', r, s'⟩, f.rt, fun Γ' G' σ' H' r s' => ?_, fun Γ' G' σ' H' ⟨m', lt, r⟩ s' => ⟨m', lt, Γ', G', r, s'⟩, fun _ _ _ _ _ _ z => z.elim⟩
    exact r X ok G0 W G' σ' H' D s' f
end
/-! ### a def by its body -/
def startG (N : List Str) (Ts : List Ty) : Gm := Ts.map (fun T => some (sv T)) ++ List.replicate (N.length - Ts.length) none
abbrev defC (E : Ev) (N : List Str) (sc : Scope) (k : Nat) : Cc := ⟨E, N, sc, fun _ => true, k⟩
/-- what is wanted behind a def that is to give a T -/
abbrev retP (T : Ty) : Po := { nx := fun _ => (tD .none).le T, rt := fun T' => T'.le T }
theorem are_slot {K : PySem.W.Frag} {G : Hp} : ∀ {Ts : List Ty} {vs : List V} {i : Nat} {S : Sl} {n : Nat}, Are K G Ts vs → (Ts.map (fun T => some (sv T)) ++ List.replicate n none)[i]? = some (some S) → ∃ T v, S = sv T ∧ vs[i]? = some v ∧ T.P K G v
  | [], [], i, S, n, .nil, h => by
    rw [List.map_nil, List.nil_append, List.getElem?_replicate] at h
    split at h <;> cases h
  | T :: Ts, v :: vs, 0, S, n, .cons p r, h => by
    cases h
    exact ⟨T, v, rfl, rfl, p⟩
  | T :: Ts, v :: vs, i + 1, S, n, .cons p r, h => are_slot (i := i) r h
theorem sat_start {K : PySem.W.Frag} {G H : Hp} {N : List Str} {Ts : List Ty} {vs : List V} (s : Same G H) (r : Are K G Ts vs) (hl : Ts.length ≤ N.length) : Sat K G H (startG N Ts) G (L2.start N vs) H :=
  ⟨Frm.refl s, by
    unfold startG L2.start
    rw [List.length_append, List.length_append, List.length_map, List.length_map, List.length_replicate, List.length_replicate, r.length], fun i S h => by
    obtain ⟨T, v, rfl, hv, p⟩ := are_slot r h
    refine ⟨v, ?_, p⟩
    unfold L2.start
    have hl' := (List.getElem?_eq_some_iff.mp hv).1
    rw [List.getElem?_append_left (by rw [List.length_map]; exact hl'), List.getElem?_map, hv]
    rfl⟩
section
variable {P : Program} {w : World} {K : PySem.W.Frag} {mg : Str → Option Value} {base : Heap}
theorem def_ok {x qual : Str} {st : Stmt} {dvs : List V} {kws : List (Str × V)} {f : Addr} {fd : FuncData} {N ps : List Str} {k : Nat} {R : List Ty → Ty → Prop} (F : FunD K x qual (defArgs st) (defBody st) (defScope st) dvs kws f fd) (S : FnScope N ps (defScope st))
    (hlen : ∀ Ts T, R Ts T → Ts.length = ps.length) (hb : ∀ Ts T, R Ts T → DS (defC ⟨P, w, K, mg, base⟩ N (defScope st) k) (defBody st) (startG N Ts) (retP T)) : FnOk P w K mg base CX0 (k + 1) f fd ps (spT K R) := by
  refine F.ok S (fun vs H Q E h => ?_) (fun cdv A outer s H vs Q E hr h => ?_)
  · obtain ⟨G, Ts, T, _, r, hR, _⟩ := h
    rw [← r.length]
    exact hlen Ts T hR
  · obtain ⟨G, Ts, T, sG, r, hR, q⟩ := h
    refine ⟨_, PSs.nox ps_w, ?_⟩
    refine hb Ts T hR _ ⟨rfl, rfl, rfl, rfl, rfl, rfl, rfl, rfl, rfl, hr, rfl⟩ G H G (L2.start N vs) H _ (sat_start sG r ?_) ⟨fun Γ G' σ H' hn s' => q .non G' H' s'.fr (hn _ _ _ .non), fun T' v G' H' hn f' p => q v G' H' f' (hn _ _ _ p), fun _ _ _ _ z => z.elim, fun _ _ _ _ z => z.elim, fun _ _ _ _ _ _ z => z.elim⟩
    have e1 := hlen Ts T hR
    have e2 : (N.take ps.length).length = ps.length := by rw [S.pre]
    rw [List.length_take] at e2
    omega
end
end DL
set_option Elab.async false
set_option linter.all false
set_option maxRecDepth 100000
set_option maxHeartbeats 1000000
namespace DL
open PySem PySem.Spec PyProof.Rows L2
/-! ### short words -/
section
variable {C : Cc} {Γ : Gm} {T Ta Tb : Ty} {e a b c tg : Expr} {pos p : Pos} {i j : Int} {R : Po} {rest : List Stmt}
theorem dv (i : Nat) {x : Str} (hN : C.N[i]? = some x := by rfl) (hG : Γ[i]? = some (some (sv T)) := by rfl) (hv : Vis C.sc x := by first | exact Or.inl rfl | exact Or.inr (Or.inl rfl) | exact Or.inr (Or.inr rfl))
    (hd : (x == ("__debug__" : Str)) = false := by decide) (hcd : (x == ("__classdict__" : Str)) = false := by decide) : DE C (.Name x pos) Γ T := d_var hN hv hG hd hcd
theorem stn (i : Nat) {x : Str} (hN : C.N[i]? = some x := by rfl) (hl : Loc C.sc x := by first | exact Or.inl rfl | exact Or.inr rfl) (hf : C.fn x = true ∨ C.sc.names.lookup x = some .local := by first | exact Or.inl rfl | exact Or.inr rfl) (nd : C.N.Nodup := by assumption) : Sto C i x := ⟨nd, hN, hl, hf⟩
theorem isb {x : Str} (hm : C.E.mg x = none) (hg : C.sc.names.lookup x = some .globalImplicit := by rfl) : IsB C x := ⟨hg, hm⟩
theorem gl {x : Str} {i : Int} (hm : ∃ t, C.E.mg x = some (.int i t)) (hg : C.sc.names.lookup x = some .globalImplicit := by rfl) (hd : (x == ("__debug__" : Str)) = false := by decide) : DE C (.Name x pos) Γ (tD (.int i)) := d_glob hg hm hd
theorem lenT {ds : List PyData} (hm : C.E.mg ("len" : Str) = none) (ha : DE C e Γ (tD (.tuple ds))) (hg : C.sc.names.lookup ("len" : Str) = some .globalImplicit := by rfl) (he : ∀ env : Env, starEach [e] env = (false, eval e env) :: starEach [] env := by intro _; rfl) : DE C (.Call (.Name "len" p) [e] [] pos) Γ (tD (.int (ds.length : Int))) := d_lenT he ⟨hg, hm⟩ ha
theorem lenL {ds : List PyData} (hm : C.E.mg ("len" : Str) = none) (ha : DE C e Γ (tD (.list ds))) (hg : C.sc.names.lookup ("len" : Str) = some .globalImplicit := by rfl) (he : ∀ env : Env, starEach [e] env = (false, eval e env) :: starEach [] env := by intro _; rfl) : DE C (.Call (.Name "len" p) [e] [] pos) Γ (tD (.int (ds.length : Int))) := d_lenL he ⟨hg, hm⟩ ha
theorem cl1 {x : Str} {k : Nat} {R : List Ty → Ty → Prop} (F : Kn C.E k x R) (ha : DE C a Γ Ta) (hR : R [Ta] T) (hk : k ≤ C.k := by exact Nat.le_of_ble_eq_true rfl) (hg : C.sc.names.lookup x = some .globalImplicit := by rfl) (h1 : ∀ env : Env, starEach [a] env = (false, eval a env) :: starEach [] env := by intro _; rfl)
    (hdb : (x == ("__debug__" : Str)) = false := by decide) : DE C (.Call (.Name x p) [a] [] pos) Γ T := d_call F hk hg (da_cons ha da_nil h1) hR h1 (fun _ => rfl) hdb
theorem cl2 {x : Str} {k : Nat} {R : List Ty → Ty → Prop} (F : Kn C.E k x R) (ha : DE C a Γ Ta) (hb : DE C b Γ Tb) (hR : R [Ta, Tb] T) (hk : k ≤ C.k := by exact Nat.le_of_ble_eq_true rfl) (hg : C.sc.names.lookup x = some .globalImplicit := by rfl) (h1 : ∀ env : Env, starEach [a, b] env = (false, eval a env) :: starEach [b] env := by intro _; rfl)
    (h2 : ∀ env : Env, starEach [b] env = (false, eval b env) :: starEach [] env := by intro _; rfl) (hdb : (x == ("__debug__" : Str)) = false := by decide) : DE C (.Call (.Name x p) [a, b] [] pos) Γ T :=
  d_call F hk hg (da_cons ha (da_cons hb da_nil h2) h1) hR h1 (fun env => by rw [h2]; rfl) hdb
theorem cl3 {x : Str} {k : Nat} {R : List Ty → Ty → Prop} {Tc : Ty} (F : Kn C.E k x R) (ha : DE C a Γ Ta) (hb : DE C b Γ Tb) (hc : DE C c Γ Tc) (hR : R [Ta, Tb, Tc] T) (hk : k ≤ C.k := by exact Nat.le_of_ble_eq_true rfl) (hg : C.sc.names.lookup x = some .globalImplicit := by rfl)
    (h1 : ∀ env : Env, starEach [a, b, c] env = (false, eval a env) :: starEach [b, c] env := by intro _; rfl) (h2 : ∀ env : Env, starEach [b, c] env = (false, eval b env) :: starEach [c] env := by intro _; rfl) (h3 : ∀ env : Env, starEach [c] env = (false, eval c env) :: starEach [] env := by intro _; rfl)
    (hdb : (x == ("__debug__" : Str)) = false := by decide) : DE C (.Call (.Name x p) [a, b, c] [] pos) Γ T :=
  d_call F hk hg (da_cons ha (da_cons hb (da_cons hc da_nil h3) h2) h1) hR h1 (fun env => by rw [h2, h3]; rfl) hdb
theorem cl4 {x : Str} {k : Nat} {R : List Ty → Ty → Prop} {Tc Td : Ty} {d : Expr} (F : Kn C.E k x R) (ha : DE C a Γ Ta) (hb : DE C b Γ Tb) (hc : DE C c Γ Tc) (hd : DE C d Γ Td) (hR : R [Ta, Tb, Tc, Td] T) (hk : k ≤ C.k := by exact Nat.le_of_ble_eq_true rfl) (hg : C.sc.names.lookup x = some .globalImplicit := by rfl)
    (h1 : ∀ env : Env, starEach [a, b, c, d] env = (false, eval a env) :: starEach [b, c, d] env := by intro _; rfl) (h2 : ∀ env : Env, starEach [b, c, d] env = (false, eval b env) :: starEach [c, d] env := by intro _; rfl) (h3 : ∀ env : Env, starEach [c, d] env = (false, eval c env) :: starEach [d] env := by intro _; rfl)
    (h4 : ∀ env : Env, starEach [d] env = (false, eval d env) :: starEach [] env := by intro _; rfl) (hdb : (x == ("__debug__" : Str)) = false := by decide) : DE C (.Call (.Name x p) [a, b, c, d] [] pos) Γ T :=
  d_call F hk hg (da_cons ha (da_cons hb (da_cons hc (da_cons hd da_nil h4) h3) h2) h1) hR h1 (fun env => by rw [h2, h3, h4]; rfl) hdb
theorem me0 {m : Str} {apos : Pos} {k : Nat} {A : Addr} {R : List Ty → Ty → Prop} (F : KnM C.E k A m R) (ho : DE C a Γ Ta) (hi : InsOf Ta A m) (hR : R [Ta] T) (hk : k ≤ C.k := by exact Nat.le_of_ble_eq_true rfl)
    (ht : ∀ env : Env, ∃ pl : Sem Bool, eval (.Call (.Attribute a m apos) [] [] pos) env = (do
      let ov ← eval a env
      standAt apos.atName
      let (f, first) ← holding [ov] (getMethod ov m pl)
      callWith pos f first (backTo pos (starEach [] env)) (backToKw pos (keywordEach [] env))) := by intro _; exact ⟨_, rfl⟩) : DE C (.Call (.Attribute a m apos) [] [] pos) Γ T := d_meth0 F hk ho hi hR ht
theorem me1 {m : Str} {apos : Pos} {k : Nat} {A : Addr} {R : List Ty → Ty → Prop} (F : KnM C.E k A m R) (ho : DE C a Γ Ta) (hi : InsOf Ta A m) (hb : DE C b Γ Tb) (hR : R [Ta, Tb] T) (hk : k ≤ C.k := by exact Nat.le_of_ble_eq_true rfl)
    (h1 : ∀ env : Env, starEach [b] env = (false, eval b env) :: starEach [] env := by intro _; rfl)
    (ht : ∀ env : Env, ∃ pl : Sem Bool, eval (.Call (.Attribute a m apos) [b] [] pos) env = (do
      let ov ← eval a env
      standAt apos.atName
      let (f, first) ← holding [ov] (getMethod ov m pl)
      callWith pos f first (backTo pos (starEach [b] env)) (backToKw pos (keywordEach [] env))) := by intro _; exact ⟨_, rfl⟩) : DE C (.Call (.Attribute a m apos) [b] [] pos) Γ T := d_meth F hk ho hi (da_cons hb da_nil h1) hR h1 (fun _ => rfl) ht
theorem fld {f : Str} {A : Addr} (ho : DE C a Γ Ta) (hf : FldOf C.E Ta A f T) (hb : ∀ env : Env, attributeBase a f env (eval a env) = eval a env := by intro _; rfl) : DE C (.Attribute a f pos) Γ T := d_fld ho hf hb
/-- a comprehension over known items -/
theorem lcf {elt iter : Expr} {ifs : List Expr} {scope : Scope} {ds : List PyData} {f : PyData → Option PyData} {g : TG} {js : List Nat} (own : List (Str × Nat)) (it : DI C tg iter Γ (· = ds)) (nd : C.N.Nodup) (tg_ : DG (C.blk scope) tg g) (len : ds.length ≤ 1000000)
    (st : ∀ d ∈ ds, ∃ Γ' k, GR C.E.K g js d (wipeG Γ (own.map (·.2))) Γ' ∧ DTs (C.blk scope) ifs Γ' k ∧ (k = false → f d = none) ∧ (k = true → ∃ y, f d = some y ∧ DE (C.blk scope) elt Γ' (tD y)))
    (bk : blkC C.N C.sc scope own = true := by kernel_rfl) (js_ : ∀ j ∈ js, j ∈ own.map (·.2) := by decide) (fs : ∀ env x, foldedSetIterable iter env x = pure x := by intro _ _; rfl) : LcF C elt tg iter ifs scope Γ ds f g js own := ⟨it, nd, bk, js_, tg_, len, st, fs⟩
end
/-! ### comprehensions over items of a kind -/
section
variable {C : Cc} {Γ : Gm} {e tg elt iter : Expr} {ifs : List Expr} {scope : Scope} {pos : Pos} {g : TG} {js : List Nat} {α : Type}
theorem take_map {xs : List α} {enc : α → PyData} {pre post : List PyData} {d : PyData} (e : pre ++ d :: post = xs.map enc) : ∃ x, xs[pre.length]? = some x ∧ d = enc x ∧ pre = (xs.take pre.length).map enc := by
  have h1 : (pre ++ d :: post)[pre.length]? = some d := by
    rw [List.getElem?_append_right (Nat.le_refl _), Nat.sub_self]
    rfl
  rw [e, List.getElem?_map] at h1
  cases hx : xs[pre.length]? with
  | none =>
    rw [hx] at h1
    cases h1
  | some x =>
    rw [hx] at h1
    refine ⟨x, rfl, (Option.some.inj h1).symm, ?_⟩
    rw [List.map_take, ← e, List.take_left']
    rfl
/-- items enc x of the x in xs; h x tells what is made of it -/
theorem lcD (enc : α → PyData) (xs : List α) (h : α → Option PyData) (own : List (Str × Nat)) (it : DI C tg iter Γ (· = xs.map enc)) (nd : C.N.Nodup) (tg_ : DG (C.blk scope) tg g) (len : xs.length ≤ 1000000)
    (st : ∀ x ∈ xs, ∃ Γ' k, GR C.E.K g js (enc x) (wipeG Γ (own.map (·.2))) Γ' ∧ DTs (C.blk scope) ifs Γ' k ∧ (k = false → h x = none) ∧ (k = true → ∃ y, h x = some y ∧ DE (C.blk scope) elt Γ' (tD y)))
    (bk : blkC C.N C.sc scope own = true := by kernel_rfl) (js_ : ∀ j ∈ js, j ∈ own.map (·.2) := by decide) (fs : ∀ env x, foldedSetIterable iter env x = pure x := by intro _ _; rfl) :
    LcD C elt tg iter ifs scope Γ (· = xs.map enc) (fun pre out => out = (xs.take pre.length).filterMap h) :=
  ⟨g, js, own, it, nd, bk, js_, tg_, fun _ e => by rw [e, List.length_map]; exact len, by simp, fun pre d post out e eo => by
    obtain ⟨x, hx, rfl, ep⟩ := take_map e
    have hm : x ∈ xs := List.mem_of_getElem? hx
    have tk : xs.take (pre ++ [enc x]).length = xs.take pre.length ++ [x] := by
      rw [List.length_append]
      show xs.take (pre.length + 1) = _
      rw [List.take_add_one, hx]
      rfl
    obtain ⟨Γ', k, gr, dt, kf, kt⟩ := st x hm
    refine ⟨Γ', k, gr, dt, fun hk => ?_, fun hk => ?_⟩
    · rw [tk, List.filterMap_append, List.filterMap_cons, kf hk, eo]
      simp
    · obtain ⟨y, hy, de⟩ := kt hk
      refine de.le fun K H v p => ⟨y, ?_, p⟩
      rw [tk, List.filterMap_append, List.filterMap_cons, hy, eo]
      simp, fs⟩
theorem lc_end {enc : α → PyData} {xs : List α} {h : α → Option PyData} {F : List PyData → Prop} (L : LcD C elt tg iter ifs scope Γ (· = xs.map enc) (fun pre out => out = (xs.take pre.length).filterMap h)) :
    DE C (.ListComp elt [⟨tg, iter, ifs, 0⟩] scope pos) Γ (tL (xs.filterMap h)) := (dl_gen L).le fun K H v ⟨out, ⟨ds, e1, e2⟩, p⟩ => by
  subst e1
  rw [List.length_map, List.take_length] at e2
  subst e2
  exact p
/-- [.. for .. in ..] without a test, as a value -/
theorem lc_map (enc : α → PyData) (xs : List α) (h : α → PyData) (own : List (Str × Nat)) (it : DI C tg iter Γ (· = xs.map enc)) (nd : C.N.Nodup) (tg_ : DG (C.blk scope) tg g) (len : xs.length ≤ 1000000)
    (st : ∀ x ∈ xs, ∃ Γ', GR C.E.K g js (enc x) (wipeG Γ (own.map (·.2))) Γ' ∧ DE (C.blk scope) elt Γ' (tD (h x)))
    (bk : blkC C.N C.sc scope own = true := by kernel_rfl) (js_ : ∀ j ∈ js, j ∈ own.map (·.2) := by decide) (fs : ∀ env x, foldedSetIterable iter env x = pure x := by intro _ _; rfl) :
    DE C (.ListComp elt [⟨tg, iter, [], 0⟩] scope pos) Γ (tL (xs.map h)) := by
  have L := lcD (C := C) (Γ := Γ) (elt := elt) (ifs := []) (scope := scope) enc xs (fun x => some (h x)) own it nd tg_ len (fun x hx => by
    obtain ⟨Γ', gr, de⟩ := st x hx
    exact ⟨Γ', true, gr, dts_nil, (fun z => by cases z), fun _ => ⟨_, rfl, de⟩⟩) bk js_ fs
  have r := lc_end (pos := pos) (F := fun _ => True) L
  rw [List.filterMap_eq_map'] at r
  exact r
/-- [.. for .. in .. if ..] as a value -/
theorem lc_if (enc : α → PyData) (xs : List α) (q : α → Bool) (h : α → PyData) (own : List (Str × Nat)) {c : Expr} (it : DI C tg iter Γ (· = xs.map enc)) (nd : C.N.Nodup) (tg_ : DG (C.blk scope) tg g) (len : xs.length ≤ 1000000)
    (st : ∀ x ∈ xs, ∃ Γ', GR C.E.K g js (enc x) (wipeG Γ (own.map (·.2))) Γ' ∧ DT (C.blk scope) c Γ' (q x) ∧ (q x = true → DE (C.blk scope) elt Γ' (tD (h x))))
    (bk : blkC C.N C.sc scope own = true := by kernel_rfl) (js_ : ∀ j ∈ js, j ∈ own.map (·.2) := by decide) (fs : ∀ env x, foldedSetIterable iter env x = pure x := by intro _ _; rfl) :
    LcD C elt tg iter [c] scope Γ (· = xs.map enc) (fun pre out => out = (xs.take pre.length).filterMap fun x => if q x then some (h x) else none) :=
  lcD (C := C) (Γ := Γ) enc xs (fun x => if q x then some (h x) else none) own it nd tg_ len (fun x hx => by
    obtain ⟨Γ', gr, dt, de⟩ := st x hx
    refine ⟨Γ', q x, gr, dts_one dt, fun z => ?_, fun z => ⟨h x, ?_, de z⟩⟩
    · rw [z]
      rfl
    · rw [z]
      rfl) bk js_ fs
theorem fm_if (xs : List α) (q : α → Bool) (h : α → PyData) : (xs.filterMap fun x => if q x then some (h x) else none) = (xs.filter q).map h := by
  induction xs with
  | nil => rfl
  | cons x r ih =>
    rw [List.filterMap_cons, List.filter_cons]
    cases e : q x with
    | true =>
      rw [if_pos rfl, if_pos rfl, List.map_cons, ih]
    | false =>
      rw [if_neg (by simp), if_neg (by simp), ih]
/-- .. as a value, its list -/
theorem lc_ifE {enc : α → PyData} {xs : List α} {q : α → Bool} {h : α → PyData} (L : LcD C elt tg iter ifs scope Γ (· = xs.map enc) (fun pre out => out = (xs.take pre.length).filterMap fun x => if q x then some (h x) else none)) :
    DE C (.ListComp elt [⟨tg, iter, ifs, 0⟩] scope pos) Γ (tL ((xs.filter q).map h)) := by
  have r := lc_end (pos := pos) (F := fun _ => True) L
  rw [fm_if] at r
  exact r
end
end DL
set_option Elab.async false
set_option linter.all false
set_option maxRecDepth 100000
set_option maxHeartbeats 4000000
/-! enumerate over a tuple -/
namespace DLe
open PySem PyProof.Rows
theorem enum_new {v : Value} {o : Obj} {Hq : Heap → Prop} (B : Begins v o Hq) :
    Meets (Builtin.«enumerate.__new__» ⟨[.type "enumerate", v], []⟩) (fun _ R s => Hq s.heap ∧ R (.ok (.ret (.ref (s.heap.push o).objs.size)))
      { s with heap := (s.heap.push o).push { cls := .type "enumerate", data := .fields #[.none, .bool false, .ref s.heap.objs.size, rawInt 0, .none, .none] } }) :=
  .of_wp fun prog w A R s h => by
    obtain ⟨hp, gs, dr, tk, os⟩ := s
    obtain ⟨hq, h⟩ := h
    have isSub := sub_enumerate
    have it0 : ∀ {A' : Around} {E : Value → Shared → Prop} {Q : Value → Shared → Prop}, Q (.ref hp.objs.size) ⟨hp.push o, gs, dr, tk, os⟩ → wpAny (model prog w) A' (pyIter v) Q E ⟨hp, gs, dr, tk, os⟩ :=
      fun q => B.iter prog w _ _ ⟨hp, gs, dr, tk, os⟩ _ hq q
    wp_walk using it0
    refine wpAny_stack_any fun st => wpAny_pure ?_
    split
    · rename_i c _ _ _ _ _
      cases (c == Value.type "enumerate") <;> (wp_walk using it0; exact ⟨_, rfl, h⟩)
    · wp_walk using it0
      exact ⟨_, rfl, h⟩
section
variable {prog : Program} {w : World} {A : Around} {E : Value → Shared → Prop} {s : Shared}
/-- enumerate(v): an iterator of v at the heap's end, the enumerate object behind it -/
theorem enum_call {v : Value} {o : Obj} {Hq : Heap → Prop} {Q : Value → Shared → Prop} (B : Begins v o Hq) (hq : Hq s.heap)
    (h : ∀ h', IsEnum h' (s.heap.objs.size + 1) s.heap.objs.size 0 .none → h'.get? s.heap.objs.size = some o → (∀ b u, s.heap.get? b = some u → h'.get? b = some u) → Q (.ref (s.heap.objs.size + 1)) { s with heap := h' }) :
    wpAny (model prog w) A (call (.type "enumerate") [v]) Q E s := by
  have hz : (s.heap.push o).objs.size = s.heap.objs.size + 1 := by rw [Heap.size_push]
  have he : IsEnum ((s.heap.push o).push { cls := .type "enumerate", data := .fields #[.none, .bool false, .ref s.heap.objs.size, rawInt 0, .none, .none] }) (s.heap.objs.size + 1) s.heap.objs.size 0 .none :=
    hz ▸ Heap.get?_push_size (s.heap.push o) (o := { cls := .type "enumerate", data := .fields #[.none, .bool false, .ref s.heap.objs.size, rawInt 0, .none, .none] }) rfl
  refine callType_new F.called_enumerate (by decide) (F.typeCall_enumerate_1 _) (F.newCall_enumerate_1 _) (fun obj => F.args_object_init_2 obj _) F.entry_enumerate_new (enum_new B) ⟨hq, ?_⟩
  rw [hz]
  exact ⟨⟨_, he, rfl⟩, h _ he (Heap.get?_push_of_some _ (Heap.get?_push_size _ B.free)) fun b u x => Heap.get?_push_of_some _ (Heap.get?_push_of_some _ x)⟩
end
end DLe
namespace DL
open PySem PySem.Spec PyProof.Rows L2
/-- the tuple at a as it stands at each turn, each item in a new pair -/
def IteT (K : PySem.W.Frag) (a : Addr) : It where
  go := fun i H => ∃ (xs : List V) (x : V), SqT K H a xs ∧ xs[i]? = some x
  yld := fun i H v H' => ∃ T x, v = .ref T ∧ H T = none ∧ H' = upd H T (.tup [.int (i : Nat), x]) ∧ ∀ xs, SqT K H a xs → xs[i]? = some x
  stop := fun i H => ∃ xs : List V, SqT K H a xs ∧ xs.length = i
theorem turn_enumT {P : Program} {w : World} {K : PySem.W.Frag} {elts : List Expr} {kk : Nat} {tpos : Pos} (a e it : Addr) :
    Turn P w K (.Tuple elts kk tpos) (IteT K a) [e, it] e (fun i h => (∃ old, IsEnum h e it ((i : Nat) : Int) old) ∧ h.IsTupleIter it a i ∧ e ≠ it ∧ a ≠ it ∧ a ≠ e) where
  mem := List.mem_cons_self ..
  obj := fun i h st b hb => by
    obtain ⟨⟨old, he⟩, ⟨o, ho, hc, hd⟩, _⟩ := st
    rcases List.mem_cons.mp hb with z | hb
    · rw [z]
      exact ⟨_, he, fun v q => nomatch q⟩
    · cases List.mem_singleton.mp hb
      exact ⟨o, ho, fun v q => by rw [hd] at q; cases q⟩
  keep := fun i h h' st k => by
    obtain ⟨⟨old, he⟩, hi, hne⟩ := st
    exact ⟨⟨old, k e (List.mem_cons_self ..) _ he⟩, hi.at fun o q => k it (List.mem_cons_of_mem _ (List.mem_cons_self ..)) o q, hne⟩
  item := by
    intro X hP hw hK hc i pins s σ H E I hf st hg
    subst hP hw hK
    obtain ⟨⟨old, he⟩, hit, hne, ha, ha2⟩ := st
    obtain ⟨xs, x, hq, hx⟩ := hg
    obtain ⟨its, rv, p, hz⟩ := I.tuple hq
    obtain ⟨u, hu, ru⟩ := rv.get hx
    have hlt : i < its.toArray.size := by
      rw [List.size_toArray]
      exact (List.getElem?_eq_some_iff.mp hu).1
    have hel : e < s.heap.objs.size := Heap.lt_size he
    have hil : it < s.heap.objs.size := by
      obtain ⟨_, q, _⟩ := hit
      exact Heap.lt_size q
    refine wpAny_pyNext_enum_itemD (Draws.tuple (A := X.A.in1) (I.ok.hd hc) it a ha its.toArray) he ⟨hit, p⟩ hlt hne (fun z => by
      rcases List.mem_cons.mp z with z | z
      · exact hne z
      · exact ha2 (List.mem_singleton.mp z).symm) fun x' h' tk hx' ho st' hT hsz hk => ?_
    have ex' : x' = u := by
      rw [List.getElem?_toArray, hu] at hx'
      exact (Option.some.inj hx').symm
    subst ex'
    refine ⟨_, rfl, wpAny_letOwnedTupleGo_enum (s := { s with heap := h', toks := tk + 1 }) ho fun h'' he' sb => ?_⟩
    have hT2 : h''.get? s.heap.objs.size = some { cls := .type "tuple", data := .seq #[.int i tk, x'] } := (sb.2 _ (Nat.ne_of_gt hel)).trans hT
    have new : ObjOk X.prog X.w (upd H s.heap.objs.size (.tup [.int (i : Nat), x])) h'' s.heap.objs.size (.tup [.int (i : Nat), x]) :=
      ⟨by show 2 ≤ sizeLine; decide, [.int i tk, x'], .cons ⟨_, rfl⟩ (.cons ru .nil), ⟨_, hT2, rfl, _, rfl⟩⟩
    have I1 : Inv X pins σ (upd H s.heap.objs.size (.tup [.int (i : Nat), x])) { s with heap := h'', toks := tk + 1 } :=
      I.turnedNew (ch := [e, it]) (fun b ob hb q => (sb.2 b (fun z => hb (by rw [z]; exact List.mem_cons_self ..))).trans (hk b ob (fun z => hb (by rw [z]; exact List.mem_cons_self ..)) (fun z => hb (by rw [z]; exact List.mem_cons_of_mem _ (List.mem_cons_self ..))) q)) hf (Nat.le_refl _) new
    refine ⟨.ref s.heap.objs.size, _, I1, rfl, ⟨_, x, rfl, I.hok.fresh (Nat.le_refl _), rfl, fun ys hy => by rw [I.tuple_inj hy hq]; exact hx⟩, ⟨⟨x', ?_⟩, st'.1.at fun o q => (sb.2 it (Ne.symm hne)).trans q, hne, ha, ha2⟩, fun b hb => ?_⟩
    · rw [show ((i + 1 : Nat) : Int) = (i : Int) + 1 by omega]
      exact he'
    · have hb' : b < s.heap.objs.size := by
        rcases List.mem_cons.mp hb with z | hb
        · exact z ▸ hel
        · exact (List.mem_singleton.mp hb) ▸ hil
      rw [upd_ne (Nat.ne_of_lt hb')]
      exact (hf b hb).1
  done := by
    intro X hP hw hK hc i pins s σ H E I hf st hg
    subst hP hw hK
    obtain ⟨⟨old, he⟩, hit, hne, ha, ha2⟩ := st
    obtain ⟨xs, hq, hx⟩ := hg
    obtain ⟨its, rv, p, hz⟩ := I.tuple hq
    obtain ⟨f0, f1, f2, f3, f4, f5⟩ := hf it (List.mem_cons_of_mem _ (List.mem_cons_self ..))
    have el : its.toArray.size = i := by rw [List.size_toArray, ← rv.length, hx]
    exact wpAny_pyNext_enum_endD (Draws.tuple (A := X.A.in1) (I.ok.hd hc) it a ha its.toArray) he (by rw [el]; exact ⟨hit, p⟩) fun h' eb => ⟨rfl, I.turned (t' := s.toks) (fun b o hb q => eb b o hb q) f0 f1 f3 f4 f5⟩
  self := fun A i s Q E st h => by
    obtain ⟨⟨_, he⟩, _⟩ := st
    exact wpAny_pyIter_enum he h
def iEnumT (K : PySem.W.Frag) (ta : TA) : TI := fun σ H R => ta σ H fun vs H1 => ∃ a xs, vs = [.ref a] ∧ SqT K H1 a xs ∧ R (IteT K a) H1
theorem pi_enumT {X : Cx} {e : Expr} {ta : TA} {p pos tpos : Pos} {elts : List Expr} {kk : Nat} (hg : Gl X "enumerate") (hm : X.mg "enumerate" = none) (ha : PA X [e] ta) (hs : starEach [e] X.env = [(false, eval e X.env)]) :
    PI X (.Tuple elts kk tpos) (.Call (.Name "enumerate" p) [e] [] pos) (iEnumT X.K ta) := by
  refine ⟨fun pins s σ H R I h => ?_⟩
  refine Call_ (ld_blt I hg hm boot_enumerate (PyProof.Rows.callWith_type1 (thn (ha.run pos pins s σ H _ I h) fun us s1 ⟨vs, H1, I1, r1, q1⟩ => ?_) hs rfl))
  obtain ⟨a, xs, ex, hq, q⟩ := q1
  subst ex
  cases r1.ref1
  obtain ⟨its, rv, p', hz⟩ := I1.tuple hq
  have hal : a < s1.heap.objs.size := by
    obtain ⟨_, z, _⟩ := p'
    exact Heap.lt_size z
  refine DLe.enum_call (begins_tuple a its.toArray) p' fun h' he hit hk => wpAny_pyIter_enum he ?_
  have I2 : Inv X pins σ H1 { s1 with heap := h' } := I1.kept (t' := s1.toks) hk
  refine ⟨s1.heap.objs.size + 1, [s1.heap.objs.size + 1, s1.heap.objs.size], _, _, H1, rfl, I2, turn_enumT a (s1.heap.objs.size + 1) s1.heap.objs.size, ⟨⟨.none, he⟩, ⟨_, hit, rfl, rfl⟩, Nat.succ_ne_self _, Nat.ne_of_lt hal, Nat.ne_of_lt (Nat.lt_succ_of_lt hal)⟩, fun b hb => ?_, q⟩
  have hle : s1.heap.objs.size ≤ b := by
    rcases List.mem_cons.mp hb with z | hb
    · rw [z]
      exact Nat.le_succ _
    · exact Nat.le_of_eq (List.mem_singleton.mp hb).symm
  exact I1.fpOk hle (I1.hok.fresh hle)
theorem wk_enumT {K : PySem.W.Frag} {G : Hp} {a : Addr} {xs : List V} {ds : List PyData} (h : SqT K G a xs) (r : DpAll K G xs ds) : Wk K G (IteT K a) (enD ds) :=
  ⟨fun i d Gc Hc hd s1 s2 => by
    obtain ⟨y, hy, rfl⟩ := enD_get hd
    obtain ⟨v, hv, pv⟩ := dpa_get r hy
    refine ⟨⟨xs, v, same_t s2 (same_t s1 h), hv⟩, fun x H2 ⟨T, u, e1, e2, e3, q⟩ => ?_⟩
    subst e1
    subst e3
    have ev := (q xs (same_t s2 (same_t s1 h))).symm.trans hv
    cases Option.some.inj ev
    obtain ⟨f, t⟩ := new_tup (ds := [.int (i : Nat), y]) s2 e2 (.cons (.int _) (.cons (dp_mono s1 pv) .nil))
    exact ⟨_, f, t⟩,
  fun Gc Hc s1 s2 => ⟨xs, same_t s2 (same_t s1 h), by
    unfold enD
    rw [List.length_mapIdx, dpa_len r]⟩⟩
theorem di_enumT {C : Cc} {Γ : Gm} {e : Expr} {p pos : Pos} {ds : List PyData} {elts : List Expr} {kk : Nat} {tpos : Pos} (hx : IsB C "enumerate") (ha : DE C e Γ (tD (.tuple ds))) (hs : ∀ env : Env, starEach [e] env = [(false, eval e env)] := by intro _; rfl) :
    DI C (.Tuple elts kk tpos) (.Call (.Name "enumerate" p) [e] [] pos) Γ (· = enD ds) := fun X ok =>
  ⟨_, pi_enumT (by show X.env.scope.names.lookup _ = _; rw [ok.sc]; exact hx.g) (by rw [ok.mg]; exact hx.m) (pa_cons pe_w pa_nil (hs _)) (hs _), fun G0 W G σ H R s q => by
    refine ha X ok G0 W G σ H _ s fun x G1 H1 f1 px => ?_
    obtain ⟨l, xs, rfl, hq, r⟩ := dp_tup px
    refine ⟨l, xs, rfl, by rw [ok.K]; exact same_t f1.s hq, ?_⟩
    rw [ok.K]
    exact q _ _ G1 H1 rfl f1 (wk_enumT hq r)⟩
end DL
set_option Elab.async false
set_option linter.all false
set_option maxRecDepth 100000
set_option maxHeartbeats 1000000
namespace DL
open PySem PySem.Spec PyProof.Rows L2
/-! ### dicts from ints to ints -/
def hkv (kvs : List (Int × Int)) : List (Key × V) := kvs.map fun q => (Sum.inl q.1, V.int q.2)
def putI (kvs : List (Int × Int)) (k v : Int) : List (Int × Int) := if kvs.any (fun q => decide (q.1 = k)) = true then kvs.map (fun q => if q.1 = k then (q.1, v) else q) else kvs ++ [(k, v)]
def lookI (kvs : List (Int × Int)) (k : Int) : Option Int := (kvs.find? fun q => decide (q.1 = k)).map (·.2)
theorem key_dec (a b : Int) : decide ((Sum.inl a : Key) = Sum.inl b) = decide (a = b) := by
  by_cases h : a = b
  · subst h
    simp
  · have : ¬ (Sum.inl a : Key) = Sum.inl b := fun q => h (Sum.inl.inj q)
    simp [h]
theorem put_hkv (kvs : List (Int × Int)) (k v : Int) : putK (hkv kvs) (Sum.inl k) (V.int v) = hkv (putI kvs k v) := by
  have ha : ((hkv kvs).any fun kv => decide (kv.1 = (Sum.inl k : Key))) = kvs.any (fun q => decide (q.1 = k)) := by
    unfold hkv
    rw [List.any_map]
    apply List.any_congr rfl
    intro q
    exact key_dec q.1 k
  unfold putK putI
  rw [ha]
  by_cases h : kvs.any (fun q => decide (q.1 = k)) = true
  · rw [if_pos h, if_pos h]
    unfold hkv
    rw [List.map_map, List.map_map]
    apply List.map_congr_left
    intro q _
    by_cases hq : q.1 = k
    · have e : (Sum.inl q.1 : Key) = Sum.inl k := congrArg _ hq
      simp [hq]
    · have e : ¬ (Sum.inl q.1 : Key) = Sum.inl k := fun z => hq (Sum.inl.inj z)
      simp [hq]
  · rw [if_neg h, if_neg h]
    unfold hkv
    rw [List.map_append]
    rfl
theorem val_hkv (k : Int) : ∀ kvs : List (Int × Int), valV (hkv kvs) (Sum.inl k) = (lookI kvs k).map V.int
  | [] => rfl
  | q :: r => by
    have ih := val_hkv k r
    by_cases h : q.1 = k
    · have e1 : valV (hkv (q :: r)) (Sum.inl k) = some (V.int q.2) := valV_pos (p := ((Sum.inl q.1 : Key), V.int q.2)) (congrArg Sum.inl h)
      have e2 : lookI (q :: r) k = some q.2 := by
        unfold lookI
        rw [List.find?_cons, decide_eq_true h]
        rfl
      rw [e1, e2]
      rfl
    · have e1 : valV (hkv (q :: r)) (Sum.inl k) = valV (hkv r) (Sum.inl k) := valV_neg (p := ((Sum.inl q.1 : Key), V.int q.2)) (fun z => h (Sum.inl.inj z))
      have e2 : lookI (q :: r) k = lookI r k := by
        unfold lookI
        rw [List.find?_cons, decide_eq_false h]
      rw [e1, e2]
      exact ih
theorem put_len (kvs : List (Int × Int)) (k v : Int) : (putI kvs k v).length ≤ kvs.length + 1 := by
  unfold putI
  split
  · rw [List.length_map]
    exact Nat.le_succ _
  · rw [List.length_append]
    exact Nat.le_refl _
def tDi (kvs : List (Int × Int)) : Ty := ⟨fun _ H v => ∃ p : Addr, v = .ref p ∧ H p = some (.dK (hkv kvs)), fun e ⟨p, a, b⟩ => ⟨p, a, e _ _ b⟩⟩
def soD (kvs : List (Int × Int)) : Sl := ⟨fun _ W G H v => ∃ p : Addr, v = .ref p ∧ W p = none ∧ G p = none ∧ H p = some (.dK (hkv kvs)), false,
  fun f ⟨p, e, hw, hg, hh⟩ => ⟨p, e, hw, f.o p (by rw [hh]; intro q; cases q) hg, f.h _ _ hh⟩, fun h => by cases h⟩
section
variable {C : Cc} {Γ : Gm} {T Ta Tb : Ty} {e a b c : Expr} {pos p : Pos} {k v : Int} {R : Po} {rest : List Stmt} {kvs : List (Int × Int)}
theorem Room.hu {k : Nat} {A : Around} (hr : Room k A) : A.units + 1 < cLine := hu_of hr
theorem dt_din (ha : DE C a Γ (tD (.int k))) (hb : DE C b Γ (tDi kvs)) (hm : behindInMarks .In b = false := by rfl) : DT C (.Compare a [.In] [b] pos) Γ (lookI kvs k).isSome := by
  intro X ok G0 W G σ H Q s q
  refine w_pt (pt_cmp (pc_din (hu_of ok.room) pe_w pe_w) hm) ?_
  refine ha X ok G0 W G σ H _ s fun x G1 H1 f1 px => ?_
  refine hb X ok G0 W G1 σ H1 _ (s.step f1) fun y G2 H2 f2 ⟨d, ey, hd⟩ => ?_
  cases dp_int px
  refine ⟨d, _, ey, DGet.k (k := Sum.inl k) (f2.s _ _ hd), _, rfl, ?_⟩
  rw [val_hkv, Option.isSome_map]
  exact q G2 H2 (f1.trans f2)
theorem d_din (ha : DE C a Γ (tD (.int k))) (hb : DE C b Γ (tDi kvs)) (hm : behindInMarks .In b = false := by rfl) : DE C (.Compare a [.In] [b] pos) Γ (tD (.bool (lookI kvs k).isSome)) := by
  intro X ok G0 W G σ H Q s q
  refine w_pe (pe_cmp (pc_din (hu_of ok.room) pe_w pe_w) hm) ?_
  refine ha X ok G0 W G σ H _ s fun x G1 H1 f1 px => ?_
  refine hb X ok G0 W G1 σ H1 _ (s.step f1) fun y G2 H2 f2 ⟨d, ey, hd⟩ => ?_
  cases dp_int px
  refine ⟨d, _, ey, DGet.k (k := Sum.inl k) (f2.s _ _ hd), ?_⟩
  rw [val_hkv, Option.isSome_map]
  exact q _ G2 H2 (f1.trans f2) (.bl _)
theorem d_dget (hb : DE C b Γ (tDi kvs)) (ha : DE C a Γ (tD (.int k))) (h : lookI kvs k = some v) (hs : NoSl a := by intro _ _; rfl) : DE C (.Subscript b a pos) Γ (tD (.int v)) := by
  intro X ok G0 W G σ H Q s q
  refine w_pe (pe_dget (hu_of ok.room) pe_w pe_w hs) ?_
  refine hb X ok G0 W G σ H _ s fun y G1 H1 f1 ⟨d, ey, hd⟩ => ?_
  refine ha X ok G0 W G1 σ H1 _ (s.step f1) fun x G2 H2 f2 px => ?_
  cases dp_int px
  refine ⟨d, .int v, ey, ?_, q _ G2 H2 (f1.trans f2) (.int v)⟩
  have g := DGet.k (k := Sum.inl k) (f2.h _ _ (f1.s _ _ hd))
  rw [val_hkv, h] at g
  exact g
/-- x = {} -/
theorem ds_newD {n : Nat} {x : Str} (st : Sto C n x) (hr : DS C rest (Γ.set n (some (soD []))) R) : DS C (.Assign [.Name x p] (.Dict [] [] pos) c.pos :: rest) Γ R := fun X ok G0 W G σ H D s f => by
  refine w_ps (pss_cons (ps_set (by rw [ok.N]; exact st.nd) (by rw [ok.N]; exact st.N) (by rw [ok.sc]; exact st.loc) pe_dnewK rfl (by rw [ok.fn, ok.sc]; exact st.fn)) ps_w) ?_
  intro d hd
  exact hr X ok G0 W G _ _ D ((s.step (Frm.own (o := .dK []) s.fr.s hd)).put n (S := soD []) ⟨d, rfl, s.fr.h.free hd, s.fr.s.free hd, upd_same⟩) f
theorem Sat.ownD {K : PySem.W.Frag} {G0 W G H : Hp} {σ : L2.St} {n : Nat} {q : Addr} {kvs kvs' : List (Int × Int)} (s : Sat K G0 W Γ G σ H) (hG : Γ[n]? = some (some (soD kvs))) (hp : pureBut Γ n = true) (hv : σ[n]? = some (some (.ref q)))
    (hw : W q = none) (hg : G q = none) : Sat K G0 W (Γ.set n (some (soD kvs'))) G σ (upd H q (.dK (hkv kvs'))) := by
  refine ⟨⟨fun b o e => ?_, s.fr.g, fun b o e => ?_, s.fr.o⟩, by rw [s.len, List.length_set], fun m S hm => ?_⟩
  · rw [upd_ne (fun z : b = q => by subst z; rw [hw] at e; cases e)]
    exact s.fr.h _ _ e
  · rw [upd_ne (fun z : b = q => by subst z; rw [hg] at e; cases e)]
    exact s.fr.s _ _ e
  · by_cases hmn : n = m
    · subst hmn
      rw [List.getElem?_set_self (List.getElem?_eq_some_iff.mp hG).1] at hm
      cases Option.some.inj (Option.some.inj hm)
      exact ⟨_, hv, q, rfl, hw, hg, upd_same⟩
    · rw [List.getElem?_set_ne hmn] at hm
      obtain ⟨v, ev, pv⟩ := s.at_ m S hm
      exact ⟨v, ev, S.any (pureBut_ok hp (fun z => hmn z.symm) hm) pv⟩
/-- d[k] = v, d an own dict -/
theorem ds_dput {n : Nat} {x : Str} {p1 p2 : Pos} (hG : Γ[n]? = some (some (soD kvs))) (hN : C.N[n]? = some x) (hv : Vis C.sc x) (he : DE C e Γ (tD (.int v))) (hi : DE C b Γ (tD (.int k))) (hl : kvs.length ≤ 1000000) (hp : pureBut Γ n = true)
    (hr : DS C rest (Γ.set n (some (soD (putI kvs k v)))) R) (hs : ∀ (env : Env) (l : Nat), swapsWith e (some (.Subscript (.Name x p1) b p2)) l env = pure false := by intro _ _; rfl)
    (hd : (x == ("__debug__" : Str)) = false := by decide) (hcd : (x == ("__classdict__" : Str)) = false := by decide) : DS C (.Assign [.Subscript (.Name x p1) b p2] e pos :: rest) Γ R := fun X ok G0 W G σ H D s f => by
  refine w_ps (pss_cons (ps_dput (hu_of ok.room) (pe_var (i := n) (by rw [ok.N]; exact hN) (by rw [ok.sc]; exact hv) hd hcd) pe_w pe_w (hs _ _)) ps_w) ?_
  obtain ⟨u, ev, q, rfl, hw, hg, hh⟩ := s.at_ n _ hG
  refine he X ok G0 W G σ H _ s fun z G1 H1 f1 pz => ?_
  refine ⟨_, ev, ?_⟩
  refine hi X ok G0 W G1 σ H1 _ (s.step f1) fun y G2 H2 f2 py => ?_
  cases dp_int py
  cases dp_int pz
  have f12 := f1.trans f2
  have hh' := f12.h _ _ hh
  refine ⟨q, _, rfl, DPut.k (k := Sum.inl k) hh' (small_lt (by unfold hkv; rw [List.length_map]; exact hl)), ?_⟩
  rw [put_hkv]
  exact hr X ok G0 W G2 σ _ D ((s.step f12).ownD hG hp ev hw (f12.o q (by rw [hh]; intro z; cases z) hg)) f
theorem ds_freezeD {n : Nat} {sts : List Stmt} (hG : Γ[n]? = some (some (soD kvs))) (hp : pureBut Γ n = true) (hr : DS C sts (Γ.set n (some (sv (tDi kvs)))) R) : DS C sts Γ R := fun X ok G0 W G σ H D s f => by
  obtain ⟨v, ev, q, rfl, hw, hg, hh⟩ := s.at_ n _ hG
  refine hr X ok G0 W (upd G q (.dK (hkv kvs))) σ H D ⟨⟨s.fr.h, s.fr.g.trans (same_new hg), fun b o e => ?_, fun b hb hb0 => ?_⟩, by rw [s.len, List.length_set], fun m S hm => ?_⟩ f
  · by_cases z : b = q
    · subst z
      rw [upd_same] at e
      cases e
      exact hh
    · rw [upd_ne z] at e
      exact s.fr.s _ _ e
  · rw [upd_ne (fun z : b = q => by subst z; exact hb hw)]
    exact s.fr.o b hb hb0
  · by_cases hmn : n = m
    · subst hmn
      rw [List.getElem?_set_self (List.getElem?_eq_some_iff.mp hG).1] at hm
      cases Option.some.inj (Option.some.inj hm)
      exact ⟨_, ev, q, rfl, upd_same⟩
    · rw [List.getElem?_set_ne hmn] at hm
      obtain ⟨u, eu, pu⟩ := s.at_ m S hm
      have pS := pureBut_ok hp (fun z => hmn z.symm) hm
      have e1 : S.P C.E.K G G G u := S.any pS pu
      exact ⟨u, eu, S.any pS (S.keep (Frm.new (o := .dK (hkv kvs)) (Same.refl G) hg) e1)⟩
end
/-! ### {k: v for ..} -/
theorem ite_yes (A B : Prop) (h : A) : if true = true then A else B := by
  rw [if_pos rfl]
  exact h
theorem dc_val {C : Cc} {Γ : Gm} {kx vx tg iter : Expr} {scope : Scope} {pos : Pos} {g : TG} {js : List Nat} {α : Type} (enc : α → PyData) (xs : List α) (fk fv : α → Int) (own : List (Str × Nat)) (it : DI C tg iter Γ (· = xs.map enc)) (nd : C.N.Nodup) (tg_ : DG (C.blk scope) tg g) (len : xs.length ≤ 1000000)
    (st : ∀ x ∈ xs, ∃ Γ', GR C.E.K g js (enc x) (wipeG Γ (own.map (·.2))) Γ' ∧ DE (C.blk scope) kx Γ' (tD (.int (fk x))) ∧ DE (C.blk scope) vx Γ' (tD (.int (fv x))))
    (bk : blkC C.N C.sc scope own = true := by kernel_rfl) (js_ : ∀ j ∈ js, j ∈ own.map (·.2) := by decide) (fs : ∀ env x, foldedSetIterable iter env x = pure x := by intro _ _; rfl) :
    DE C (.DictComp kx vx [⟨tg, iter, [], 0⟩] scope pos) Γ (tDi (xs.foldl (fun m x => putI m (fk x) (fv x)) [])) := by
  intro X ok G0 W G σ H Q s q
  obtain ⟨wi, hpi, hwi⟩ := it X ok
  refine w_pe (pe_dc (own := own) (g := g) (tt := tYes) (tk := fun σ H Q => ∀ (s : Shared) (H0 : Hp) (A : Addr) (cl : List (Str × Addr)) (fp : List Addr), wE (X.blk s H0 scope (compEnvC scope cl A X.env) fp) kx σ H Q)
    (tv := fun σ H Q => ∀ (s : Shared) (H0 : Hp) (A : Addr) (cl : List (Str × Addr)) (fp : List Addr), wE (X.blk s H0 scope (compEnvC scope cl A X.env) fp) vx σ H Q) ok.calm (by rw [ok.N]; exact nd) hpi (by rw [ok.N, ok.sc]; exact blkOk_by bk)
    (fun s H A cl fp => tg_ _ (ok.blk scope s H A cl fp)) (fun _ _ _ _ _ => pts_nil) (fun s H A cl fp => ⟨fun pins sh σ H' Q I h => h s H A cl fp pins sh I⟩) (fun s H A cl fp => ⟨fun pins sh σ H' Q I h => h s H A cl fp pins sh I⟩) (fs _)) ?_
  refine hwi G0 W G σ H _ s fun ds J G1 H1 eds f1 wk => ?_
  subst eds
  intro D hD
  have sD : Frm G1 H1 G1 (upd H1 D (.dK [])) := Frm.own f1.s hD
  let acc : Nat → List (Int × Int) := fun i => (xs.take i).foldl (fun m x => putI m (fk x) (fv x)) []
  have alen : ∀ i, (acc i).length ≤ xs.length := fun i => by
    have gen : ∀ (l : List α) (m : List (Int × Int)), (l.foldl (fun m x => putI m (fk x) (fv x)) m).length ≤ m.length + l.length := fun l => by
      induction l with
      | nil => exact fun m => Nat.le_refl _
      | cons x r ih =>
        intro m
        have h1 := ih (putI m (fk x) (fv x))
        have h2 := put_len m (fk x) (fv x)
        rw [List.length_cons]
        show (List.foldl _ (putI m (fk x) (fv x)) r).length ≤ _
        omega
    have h3 := gen (xs.take i) []
    rw [List.length_take] at h3
    have : ([] : List (Int × Int)).length = 0 := rfl
    show ((xs.take i).foldl _ []).length ≤ _
    omega
  refine ⟨fun i m H2 => i + m = xs.length ∧ ∃ (G2 : Hp), Frm G H G2 H2 ∧ Same G1 G2 ∧ G2 D = none ∧ H2 D = some (.dK (hkv (acc i))),
    ⟨xs.length, by omega, G1, f1.trans sD, Same.refl _, f1.s.free hD, upd_same⟩, fun i m H2 ⟨em, G2, f2, g2, gD, hD2⟩ => ?_⟩
  by_cases hi : i < xs.length
  · obtain ⟨x, hx⟩ : ∃ x, xs[i]? = some x := ⟨_, List.getElem?_eq_getElem hi⟩
    have hd : (xs.map enc)[i]? = some (enc x) := by
      rw [List.getElem?_map, hx]
      rfl
    obtain ⟨Γ', gr, dk, dv'⟩ := st x (List.mem_of_getElem? hx)
    obtain ⟨go, yl⟩ := wk.step i _ G2 H2 hd g2 f2.s
    refine .inr ⟨go, fun H3 => ∃ (G3 : Hp), Frm G H G3 H3 ∧ Same G1 G3 ∧ G3 D = none ∧ H3 D = some (.dK (hkv (acc (i + 1)))), fun H3 h3 => ⟨m - 1, by omega, by omega, h3⟩, fun y H3 hy => ?_⟩
    obtain ⟨G3, f3, px⟩ := yl y H3 hy
    have dne : H2 D ≠ none := by
      rw [hD2]
      intro z
      cases z
    refine gr G0 W G3 _ H3 y _ ((s.wipe (own.map (·.2))).step (f2.trans f3)) px fun σ2 hw s2 => ⟨?_, ?_⟩
    · rw [hw _ js_, wipe_idem]
    · unfold tYes
      dsimp only
      rw [if_pos rfl]
      intro sh H0 A cl fp
      refine dk _ (ok.blk scope sh H0 A cl fp) G0 W G3 σ2 H3 _ s2 fun z G4 H4 f4 pz => ?_
      intro sh H0 A cl fp
      refine dv' _ (ok.blk scope sh H0 A cl fp) G0 W G4 σ2 H4 _ (s2.step f4) fun u G5 H5 f5 pu => ?_
      cases dp_int pz
      cases dp_int pu
      have f35 := f3.trans (f4.trans f5)
      have gD5 : G5 D = none := f35.o D dne gD
      have hD5 := f35.h _ _ hD2
      have f : Frm G H G5 H5 := f2.trans f35
      refine ⟨hkv (acc i), Sum.inl (fk x), rfl, hD5, small_lt ?_, G5, ⟨fun b o e => ?_, f.g, fun b o e => ?_, f.o⟩, g2.trans f35.g, gD5, ?_⟩
      · unfold hkv
        rw [List.length_map]
        exact Nat.le_trans (alen i) len
      · rw [upd_ne (fun z : b = D => by subst z; rw [f1.h.free hD] at e; cases e)]
        exact f.h _ _ e
      · rw [upd_ne (fun z : b = D => by subst z; rw [gD5] at e; cases e)]
        exact f.s _ _ e
      · rw [put_hkv, upd_same]
        show _ = some (HO.dK (hkv ((xs.take (i + 1)).foldl _ [])))
        rw [List.take_add_one, hx]
        show _ = some (HO.dK (hkv ((xs.take i ++ [x]).foldl _ [])))
        rw [List.foldl_append]
        rfl
  · have ei : i = xs.length := by omega
    subst ei
    have ea : acc xs.length = xs.foldl (fun m x => putI m (fk x) (fv x)) [] := by
      show (xs.take xs.length).foldl _ [] = _
      rw [List.take_length]
    rw [ea] at hD2
    refine .inl ⟨by have := wk.stop G2 H2 g2 f2.s; rw [List.length_map] at this; exact this, ?_⟩
    refine q (.ref D) (upd G2 D (.dK (hkv _))) H2 ⟨f2.h, f2.g.trans (same_new gD), fun b o e => ?_, fun b hb hg0 => ?_⟩ ⟨D, rfl, upd_same⟩
    · by_cases hbp : b = D
      · subst hbp
        rw [upd_same] at e
        cases e
        exact hD2
      · rw [upd_ne hbp] at e
        exact f2.s _ _ e
    · rw [upd_ne (fun (z : b = D) => hb (by rw [z]; exact f1.h.free hD))]
      exact f2.o b hb hg0
end DL
set_option Elab.async false
set_option linter.all false
set_option maxRecDepth 100000
set_option maxHeartbeats 1000000
namespace DL
open PySem PySem.Spec PyProof.Rows L2
section
variable {C : Cc} {Γ : Gm} {T Ta Tb : Ty} {e a b c tg : Expr} {pos p : Pos} {i j : Int} {R : Po} {rest : List Stmt}
/-- a bool as a test -/
theorem tv {k : Bool} (h : DE C e Γ (tD (.bool k))) (he : ∀ (env : Env) (whole : Sem Value), isTrue e env whole = (do let v ← whole; standAt e.pos; holding [v] (truthy v)) := by intro _ _; rfl) : DT C e Γ k := dt_val h he
/-- chains -/
theorem lele {k : Int} (ha : DE C a Γ (tD (.int i))) (hb : DE C b Γ (tD (.int j))) (hc : DE C c Γ (tD (.int k))) (hm : lastMarks [.LtE, .LtE] [b, c] = false := by with_unfolding_all rfl) : DE C (.Compare a [.LtE, .LtE] [b, c] pos) Γ (tD (.bool (decide (i ≤ j) && decide (j ≤ k)))) := d_lele ha hb hc hm
theorem lelt {k : Int} (ha : DE C a Γ (tD (.int i))) (hb : DE C b Γ (tD (.int j))) (hc : DE C c Γ (tD (.int k))) (hm : lastMarks [.LtE, .Lt] [b, c] = false := by with_unfolding_all rfl) : DE C (.Compare a [.LtE, .Lt] [b, c] pos) Γ (tD (.bool (decide (i ≤ j) && decide (j < k)))) := d_lelt ha hb hc hm
theorem dt_chain {op op' : CmpOp} {g g' : Int → Int → Bool} {k : Int} (ho : ∀ X : Cx, OpR X (compareOp op) (rI0 fun i j => .bl (g i j))) (ho' : ∀ X : Cx, OpR X (compareOp op') (rI0 fun i j => .bl (g' i j)))
    (ha : DE C a Γ (tD (.int i))) (hb : DE C b Γ (tD (.int j))) (hc : DE C c Γ (tD (.int k))) (hm : lastMarks [op, op'] [b, c] = false) : DT C (.Compare a [op, op'] [b, c] pos) Γ (g i j && g' j k) := by
  intro X ok G0 W G σ H Q s q
  refine w_pt (pt_chain (ho X) (ho' X) pe_w pe_w pe_w hm) ?_
  refine ha X ok G0 W G σ H _ s fun x G1 H1 f1 px => ?_
  refine hb X ok G0 W G1 σ H1 _ (s.step f1) fun y G2 H2 f2 py => ?_
  refine ⟨i, j, dp_int px, dp_int py, _, rfl, ?_⟩
  cases e : g i j with
  | false =>
    refine iteF ?_
    rw [e] at q
    exact ⟨false, rfl, q G2 H2 (f1.trans f2)⟩
  | true =>
    refine iteT ?_
    refine hc X ok G0 W G2 σ H2 _ ((s.step f1).step f2) fun z G3 H3 f3 pz => ?_
    rw [e] at q
    exact ⟨j, k, dp_int py, dp_int pz, _, rfl, q G3 H3 (f1.trans (f2.trans f3))⟩
theorem tlele {k : Int} (ha : DE C a Γ (tD (.int i))) (hb : DE C b Γ (tD (.int j))) (hc : DE C c Γ (tD (.int k))) (hm : lastMarks [.LtE, .LtE] [b, c] = false := by with_unfolding_all rfl) :
    DT C (.Compare a [.LtE, .LtE] [b, c] pos) Γ (decide (i ≤ j) && decide (j ≤ k)) := dt_chain (g := fun i j => decide (i ≤ j)) (g' := fun i j => decide (i ≤ j)) (fun _ => op_le) (fun _ => op_le) ha hb hc hm
theorem tlelt {k : Int} (ha : DE C a Γ (tD (.int i))) (hb : DE C b Γ (tD (.int j))) (hc : DE C c Γ (tD (.int k))) (hm : lastMarks [.LtE, .Lt] [b, c] = false := by with_unfolding_all rfl) :
    DT C (.Compare a [.LtE, .Lt] [b, c] pos) Γ (decide (i ≤ j) && decide (j < k)) := dt_chain (g := fun i j => decide (i ≤ j)) (g' := fun i j => decide (i < j)) (fun _ => op_le) (fun _ => op_lt) ha hb hc hm
theorem anyL {bs : List Bool} (hm : C.E.mg ("any" : Str) = none) (ha : DE C e Γ (tL (bs.map .bool))) (hg : C.sc.names.lookup ("any" : Str) = some .globalImplicit := by rfl) (he : ∀ env : Env, starEach [e] env = (false, eval e env) :: starEach [] env := by intro _; rfl) : DE C (.Call (.Name "any" p) [e] [] pos) Γ (tD (.bool (bs.any id))) := d_any he ⟨hg, hm⟩ (ha.le tL_le)
theorem allL {bs : List Bool} (hm : C.E.mg ("all" : Str) = none) (ha : DE C e Γ (tL (bs.map .bool))) (hg : C.sc.names.lookup ("all" : Str) = some .globalImplicit := by rfl) (he : ∀ env : Env, starEach [e] env = (false, eval e env) :: starEach [] env := by intro _; rfl) : DE C (.Call (.Name "all" p) [e] [] pos) Γ (tD (.bool (bs.all id))) := d_all he ⟨hg, hm⟩ (ha.le tL_le)
theorem inL {ns : List Int} (ha : DE C a Γ (tD (.int i))) (hb : DE C b Γ (tL (ns.map .int))) (hm : behindInMarks .In b = false := by with_unfolding_all rfl) : DE C (.Compare a [.In] [b] pos) Γ (tD (.bool (decide (i ∈ ns)))) := d_inL ha (hb.le tL_le) hm
theorem DE.w {ds : List PyData} (h : DE C e Γ (tL ds)) : DE C e Γ (tD (.list ds)) := h.le tL_le
theorem DE.isL {ds ds' : List PyData} (h : DE C e Γ (tL ds)) (l : ds = ds') : DE C e Γ (tL ds') := l ▸ h
end
/-- a def at f keeps R, over the whole E -/
abbrev Ok (E : Ev) (k : Nat) (f : Addr) (fd : FuncData) (ps : List Str) (R : List Ty → Ty → Prop) : Prop := FnOk E.P E.w E.K E.mg E.base CX0 k f fd ps (spT E.K R)
theorem defOk {E : Ev} {x qual : Str} {st : Stmt} {dvs : List V} {kws : List (Str × V)} {f : Addr} {fd : FuncData} {N ps : List Str} {k : Nat} {R : List Ty → Ty → Prop} (F : FunD E.K x qual (defArgs st) (defBody st) (defScope st) dvs kws f fd) (S : FnScope N ps (defScope st))
    (hlen : ∀ Ts T, R Ts T → Ts.length = ps.length) (hb : ∀ Ts T, R Ts T → DS (defC E N (defScope st) k) (defBody st) (startG N Ts) (retP T)) : Ok E (k + 1) f fd ps R := def_ok F S hlen hb
end DL
set_option Elab.async false
set_option linter.all false
set_option maxRecDepth 100000
set_option maxHeartbeats 1000000
namespace DL
open PySem PySem.Spec PyProof.Rows L2
/-! ### instances: own ones, settled ones -/
structure Fd where
  s : Sl
  stb : ∀ {K : PySem.W.Frag} {W G H : Hp} {a C dx : Addr} {fs : List (Str × V)} {o : HO} {v : V}, H a = some (.ins C dx fs) → s.P K W G H v → s.P K W G (upd H a o) v
  wk : ∀ {K : PySem.W.Frag} {W W' G H : Hp} {v : V}, Same W' W → s.P K W G H v → s.P K W' G H v
def fv (T : Ty) : Fd := ⟨sv T, fun _ h => h, fun _ h => h⟩
def fo (ds : List PyData) : Fd := ⟨so ds, fun {K W G H a C dx fs o v} e ⟨p, xs, ev, hw, hg, hh, r⟩ => ⟨p, xs, ev, hw, hg, by
  rw [upd_ne (fun z : p = a => by rw [z, e] at hh; cases hh)]
  exact hh, r⟩, fun e ⟨p, xs, ev, hw, hg, hh, r⟩ => ⟨p, xs, ev, e.free hw, hg, hh, r⟩⟩
def Flds (K : PySem.W.Frag) (W G H : Hp) (fts : List (Str × Fd)) (fs : List (Str × V)) : Prop := All2 (fun t v => t.1 = v.1 ∧ t.2.s.P K W G H v.2) fts fs
def soI (w : Addr → Prop) (A : Addr) (fts : List (Str × Fd)) : Sl := ⟨fun K W G H v => ∃ (p dx : Addr) (fs : List (Str × V)), (v = .ref p ∧ w p) ∧ W p = none ∧ G p = none ∧ H p = some (.ins A dx fs) ∧ Flds K W G H fts fs, false,
  fun f ⟨p, dx, fs, e, hw, hg, hh, r⟩ => ⟨p, dx, fs, e, hw, f.o p (by rw [hh]; intro q; cases q) hg, f.h _ _ hh, All2.imp (fun t v q => ⟨q.1, t.2.s.keep f q.2⟩) r⟩, fun h => by cases h⟩
theorem soI_wk {w : Addr → Prop} {A : Addr} {fts : List (Str × Fd)} {K : PySem.W.Frag} {W W' G H : Hp} {v : V} (e : Same W' W) (h : (soI w A fts).P K W G H v) : (soI w A fts).P K W' G H v := by
  obtain ⟨p, dx, fs, ev, hw, hg, hh, r⟩ := h
  exact ⟨p, dx, fs, ev, e.free hw, hg, hh, All2.imp (fun t v q => ⟨q.1, t.2.wk e q.2⟩) r⟩
def putT (f : Str) (S : Fd) : List (Str × Fd) → List (Str × Fd)
  | [] => [(f, S)]
  | (g, x) :: r => if g = f then (g, S) :: r else (g, x) :: putT f S r
theorem flds_put {K : PySem.W.Frag} {W G H : Hp} {f : Str} {S : Fd} {v : V} (h : S.s.P K W G H v) : ∀ {fts : List (Str × Fd)} {fs : List (Str × V)}, Flds K W G H fts fs → Flds K W G H (putT f S fts) (putF f v fs)
  | _, _, .nil => .cons ⟨rfl, h⟩ .nil
  | (g, x) :: r, (g', y) :: r', .cons a q => by
    obtain ⟨e, p⟩ := a
    replace e : g = g' := e
    subst e
    by_cases z : g = f
    · have e1 : putT f S ((g, x) :: r) = (g, S) :: r := if_pos z
      have e2 : putF f v ((g, y) :: r') = (g, v) :: r' := if_pos z
      rw [e1, e2]
      exact .cons ⟨rfl, h⟩ q
    · have e1 : putT f S ((g, x) :: r) = (g, x) :: putT f S r := if_neg z
      have e2 : putF f v ((g, y) :: r') = (g, y) :: putF f v r' := if_neg z
      rw [e1, e2]
      exact .cons ⟨rfl, p⟩ (flds_put h q)
theorem flds_look {K : PySem.W.Frag} {W G H : Hp} {f : Str} {S : Fd} : ∀ {fts : List (Str × Fd)} {fs : List (Str × V)}, Flds K W G H fts fs → fts.lookup f = some S → ∃ v, fs.lookup f = some v ∧ S.s.P K W G H v
  | _, _, .nil, h => by cases h
  | (g, x) :: r, (g', y) :: r', .cons a q, h => by
    obtain ⟨e, p⟩ := a
    replace e : g = g' := e
    subst e
    rw [List.lookup_cons] at h ⊢
    cases z : (f == g) with
    | true =>
      rw [z] at h
      cases h
      exact ⟨y, rfl, p⟩
    | false =>
      rw [z] at h
      exact flds_look q h
theorem flds_none {K : PySem.W.Frag} {W G H : Hp} {f : Str} : ∀ {fts : List (Str × Fd)} {fs : List (Str × V)}, Flds K W G H fts fs → fts.lookup f = none → fs.lookup f = none
  | _, _, .nil, h => rfl
  | (g, x) :: r, (g', y) :: r', .cons a q, h => by
    obtain ⟨e, p⟩ := a
    replace e : g = g' := e
    subst e
    rw [List.lookup_cons] at h ⊢
    cases z : (f == g) with
    | true =>
      rw [z] at h
      cases h
    | false =>
      rw [z] at h
      exact flds_none q h
theorem flds_len {K : PySem.W.Frag} {W G H : Hp} {fts : List (Str × Fd)} {fs : List (Str × V)} (h : Flds K W G H fts fs) : fts.length = fs.length := h.length
/-- a settled instance: its attributes' names, the types of some -/
def tI (A : Addr) (names : List Str) (tys : List (Str × Ty)) : Ty := ⟨fun K H v => ∃ (p dx : Addr) (fs : List (Str × V)), v = .ref p ∧ H p = some (.ins A dx fs) ∧ (∀ m, names.contains m = false → fs.lookup m = none) ∧ ∀ f T, tys.lookup f = some T → ∃ u, fs.lookup f = some u ∧ T.P K H u,
  fun e ⟨p, dx, fs, ev, hh, hn, r⟩ => ⟨p, dx, fs, ev, e _ _ hh, hn, fun f T h => by
    obtain ⟨u, a, b⟩ := r f T h
    exact ⟨u, a, T.mono e b⟩⟩⟩
theorem insI {A : Addr} {names : List Str} {tys : List (Str × Ty)} {m : Str} (h : names.contains m = false := by decide +kernel) : InsOf (tI A names tys) A m := fun K H v ⟨p, dx, fs, ev, hh, hn, r⟩ => ⟨p, dx, fs, ev, hh, hn m h⟩
theorem fldI {E : Ev} {A : Addr} {names : List Str} {tys : List (Str × Ty)} {f : Str} {T : Ty} (c : Cls E.K A) (n : NoAttr E.K A f) (h : tys.lookup f = some T) : FldOf E (tI A names tys) A f T := ⟨c, n, fun H v ⟨p, dx, fs, ev, hh, hn, r⟩ => by
  obtain ⟨u, a, b⟩ := r f T h
  exact ⟨p, dx, fs, u, ev, hh, a, b⟩⟩
/-- what settled fields are -/
def TysOf (fts : List (Str × Fd)) (tys : List (Str × Ty)) : Prop := ∀ f T, tys.lookup f = some T → fts.lookup f = some (fv T)
theorem tysOf_nil {fts : List (Str × Fd)} : TysOf fts [] := fun f T h => by cases h
theorem tysOf_cons {fts : List (Str × Fd)} {tys : List (Str × Ty)} {g : Str} {U : Ty} (h : fts.lookup g = some (fv U)) (r : TysOf fts tys) : TysOf fts ((g, U) :: tys) := fun f T e => by
  rw [List.lookup_cons] at e
  cases z : (f == g) with
  | true =>
    rw [z] at e
    cases e
    rw [beq_iff_eq.mp z]
    exact h
  | false =>
    rw [z] at e
    exact r f T e
def namesOk (fts : List (Str × Fd)) (names : List Str) : Prop := ∀ m, names.contains m = false → fts.lookup m = none
theorem namesOk_map {fts : List (Str × Fd)} : namesOk fts (fts.map (·.1)) := fun m h => by
  induction fts with
  | nil => rfl
  | cons t r ih =>
    rw [List.map_cons, List.contains_cons] at h
    rw [List.lookup_cons]
    cases z : (m == t.1) with
    | true =>
      rw [z] at h
      cases h
    | false =>
      rw [z] at h
      exact ih h
/-- an own instance is settled -/
theorem soI_freeze {w : Addr → Prop} {K : PySem.W.Frag} {A : Addr} {fts : List (Str × Fd)} {tys : List (Str × Ty)} {names : List Str} {W G H : Hp} {v : V} (hn : namesOk fts names) (ht : TysOf fts tys) (s : Same G H) (h : (soI w A fts).P K W G H v) :
    ∃ (p dx : Addr) (fs : List (Str × V)), (v = .ref p ∧ w p) ∧ W p = none ∧ G p = none ∧ H p = some (.ins A dx fs) ∧ Same G (upd G p (.ins A dx fs)) ∧ Same (upd G p (.ins A dx fs)) H ∧ (tI A names tys).P K (upd G p (.ins A dx fs)) v := by
  obtain ⟨p, dx, fs, ev, hw, hg, hh, r⟩ := h
  refine ⟨p, dx, fs, ev, hw, hg, hh, same_new hg, fun b o e => ?_, p, dx, fs, ev.1, upd_same, fun m hm => flds_none r (hn m hm), fun f T hf => ?_⟩
  · by_cases hbp : b = p
    · subst hbp
      rw [upd_same] at e
      cases e
      exact hh
    · rw [upd_ne hbp] at e
      exact s _ _ e
  · obtain ⟨u, a, b⟩ := flds_look r (ht f T hf)
    exact ⟨u, a, T.mono (same_new hg) b⟩
/-! targets: e.f -/
def gFld (K : PySem.W.Frag) (ta : TE) (f : Str) : TG := fun y σ H Q => ta σ H fun x H2 => ∃ a C dx fs, x = .ref a ∧ H2 a = some (.ins C dx fs) ∧ Cls K C ∧ NoAttr K C f ∧ fs.length < 1000 ∧ Q σ (upd H2 a (.ins C dx (putF f y fs)))
theorem pg_fld {X : Cx} {o : Expr} {f : Str} {pos : Pos} {ta : TE} (ho : PE X o ta) (ha : ∀ v, assign (.Attribute o f pos) X.env v = (do
      let ov ← holding [v] (eval o X.env)
      standAt pos.atName
      holding [v, ov] (setAttr ov f v)
      release [v, ov] []) := by intro _; rfl) : PG X (.Attribute o f pos) (gFld X.K ta f) := by
  refine ⟨fun pins s σ H v u Q I r h => ?_⟩
  rw [ha]
  refine wpAny_bind (wpAny_holding (thn (ho.run pins s σ H _ I h) fun ov s1 ⟨x, H2, I2, rx, a, C, dx, fs, ex, ea, c, n, l, q2⟩ => ?_))
  subst ex
  obtain rfl : ov = Value.ref a := rx
  refine wpAny_bind (wpAny_standAt (wpAny_bind (wpAny_holding ?_)))
  exact setattr_ok I2 ea c n l r fun s3 I3 => wpAny_release ⟨σ, _, I3, q2⟩
section
variable {C : Cc} {Γ : Gm} {T Ta Tb : Ty} {e a b c tg : Expr} {pos p p1 p2 : Pos} {R : Po} {rest : List Stmt} {w : Addr → Prop} {A : Addr} {fts : List (Str × Fd)} {n : Nat} {x f : Str}
theorem ds_retS (he : DE C e Γ T) (h : R.rs Γ T) : DS C (.Return (some e) pos :: rest) Γ R := fun X ok G0 W G σ H D s f => by
  refine w_ps (pss_cons (ps_ret pe_w) pss_never) ?_
  exact he X ok G0 W G σ H _ s fun v G' H' f1 p => f.rs Γ T v G' σ H' h (s.step f1) p
theorem pe_n {X : Cx} (ok : XOk C X) (hN : C.N[n]? = some x) (hv : Vis C.sc x) (hd : (x == ("__debug__" : Str)) = false) (hcd : (x == ("__classdict__" : Str)) = false) : PE X (.Name x pos) (tVar n) := pe_var (i := n) (by rw [ok.N]; exact hN) (by rw [ok.sc]; exact hv) hd hcd
/-- self.f of an own instance -/
theorem d_fldO (n : Nat) {T : Ty} (hc : Cls C.E.K A) (hn : NoAttr C.E.K A f) (hG : Γ[n]? = some (some (soI w A fts)) := by rfl) (hf : fts.lookup f = some (fv T) := by rfl) (hN : C.N[n]? = some x := by rfl) (hv : Vis C.sc x := by first | exact Or.inl rfl | exact Or.inr (Or.inl rfl) | exact Or.inr (Or.inr rfl))
    (hd : (x == ("__debug__" : Str)) = false := by decide) (hcd : (x == ("__classdict__" : Str)) = false := by decide) (hb : ∀ env : Env, attributeBase (.Name x p1) f env (eval (.Name x p1) env) = eval (.Name x p1) env := by intro _; rfl) : DE C (.Attribute (.Name x p1) f pos) Γ T := by
  intro X ok G0 W G σ H Q s q
  refine w_pe (pe_fld (pe_n ok hN hv hd hcd) (hb _)) ?_
  obtain ⟨v, ev, p, dx, fs, ⟨rfl, hwp⟩, hw, hg, hh, r⟩ := s.at_ n _ hG
  obtain ⟨u, hu, pu⟩ := flds_look r hf
  exact ⟨_, ev, p, A, dx, fs, u, rfl, hh, by rw [ok.K]; exact hc, by rw [ok.K]; exact hn, hu, q u G H (Frm.refl s.fr.s) pu⟩
/-- an own instance with other attributes -/
theorem Sat.ins {K : PySem.W.Frag} {G0 W G H : Hp} {σ : L2.St} {q dx : Addr} {fts' : List (Str × Fd)} {fs fs' : List (Str × V)} (s : Sat K G0 W Γ G σ H) (hG : Γ[n]? = some (some (soI w A fts))) (hp : pureBut Γ n = true) (hv : σ[n]? = some (some (.ref q))) (hwp : w q)
    (hw : W q = none) (hg : G q = none) (hh : H q = some (.ins A dx fs)) (r : Flds K W G H fts' fs') : Sat K G0 W (Γ.set n (some (soI w A fts'))) G σ (upd H q (.ins A dx fs')) := by
  refine ⟨⟨fun b o e => ?_, s.fr.g, fun b o e => ?_, s.fr.o⟩, by rw [s.len, List.length_set], fun m S hm => ?_⟩
  · rw [upd_ne (fun z : b = q => by subst z; rw [hw] at e; cases e)]
    exact s.fr.h _ _ e
  · rw [upd_ne (fun z : b = q => by subst z; rw [hg] at e; cases e)]
    exact s.fr.s _ _ e
  · by_cases hmn : n = m
    · subst hmn
      rw [List.getElem?_set_self (List.getElem?_eq_some_iff.mp hG).1] at hm
      cases Option.some.inj (Option.some.inj hm)
      exact ⟨_, hv, q, dx, fs', ⟨rfl, hwp⟩, hw, hg, upd_same, All2.imp (fun t v z => ⟨z.1, t.2.stb hh z.2⟩) r⟩
    · rw [List.getElem?_set_ne hmn] at hm
      obtain ⟨v, ev, pv⟩ := s.at_ m S hm
      exact ⟨v, ev, S.any (pureBut_ok hp (fun z => hmn z.symm) hm) pv⟩
/-- self.f = e -/
theorem ds_fset (n : Nat) (he : DE C e Γ T) (hc : Cls C.E.K A) (hn : NoAttr C.E.K A f) (hr : DS C rest (Γ.set n (some (soI w A (putT f (fv T) fts)))) R) (hG : Γ[n]? = some (some (soI w A fts)) := by rfl) (hl : fts.length < 1000 := by exact Nat.le_of_ble_eq_true rfl) (hp : pureBut Γ n = true := by rfl) (hN : C.N[n]? = some x := by rfl)
    (hv : Vis C.sc x := by first | exact Or.inl rfl | exact Or.inr (Or.inl rfl) | exact Or.inr (Or.inr rfl)) (hd : (x == ("__debug__" : Str)) = false := by decide) (hcd : (x == ("__classdict__" : Str)) = false := by decide)
    (hs : ∀ (env : Env) (l : Nat), swapsWith e (some (.Attribute (.Name x p1) f p2)) l env = pure false := by intro _ _; rfl) : DS C (.Assign [.Attribute (.Name x p1) f p2] e pos :: rest) Γ R := fun X ok G0 W G σ H D s fi => by
  refine w_ps (pss_cons (ps_fld (pe_n ok hN hv hd hcd) pe_w (hs _ _)) ps_w) ?_
  refine he X ok G0 W G σ H _ s fun y G1 H1 f1 py => ?_
  have s1 := s.step f1
  obtain ⟨v, ev, q, dx, fs, ⟨rfl, hwp⟩, hw, hg, hh, r⟩ := s1.at_ n _ hG
  refine ⟨_, ev, q, A, dx, fs, rfl, hh, by rw [ok.K]; exact hc, by rw [ok.K]; exact hn, by rw [← flds_len r]; exact hl, ?_⟩
  exact hr X ok G0 W G1 σ _ D (s1.ins hG hp ev hwp hw hg hh (flds_put (S := fv T) py r)) fi
/-- self.f = e, a new list that is own -/
theorem ds_fsetO (n : Nat) {ds : List PyData} (he : DEo C e Γ ds) (hc : Cls C.E.K A) (hn : NoAttr C.E.K A f) (hr : DS C rest (Γ.set n (some (soI w A (putT f (fo ds) fts)))) R) (hG : Γ[n]? = some (some (soI w A fts)) := by rfl) (hl : fts.length < 1000 := by exact Nat.le_of_ble_eq_true rfl) (hp : pureBut Γ n = true := by rfl) (hN : C.N[n]? = some x := by rfl)
    (hv : Vis C.sc x := by first | exact Or.inl rfl | exact Or.inr (Or.inl rfl) | exact Or.inr (Or.inr rfl)) (hd : (x == ("__debug__" : Str)) = false := by decide) (hcd : (x == ("__classdict__" : Str)) = false := by decide)
    (hs : ∀ (env : Env) (l : Nat), swapsWith e (some (.Attribute (.Name x p1) f p2)) l env = pure false := by intro _ _; rfl) : DS C (.Assign [.Attribute (.Name x p1) f p2] e pos :: rest) Γ R := fun X ok G0 W G σ H D s fi => by
  refine w_ps (pss_cons (ps_fld (pe_n ok hN hv hd hcd) pe_w (hs _ _)) ps_w) ?_
  refine he X ok G0 W G σ H _ s fun l xs G1 H1 f1 hl0 hlg hlh rl => ?_
  have s1 := s.step f1
  obtain ⟨v, ev, q, dx, fs, ⟨rfl, hwp⟩, hw, hg, hh, r⟩ := s1.at_ n _ hG
  refine ⟨_, ev, q, A, dx, fs, rfl, hh, by rw [ok.K]; exact hc, by rw [ok.K]; exact hn, by rw [← flds_len r]; exact hl, ?_⟩
  exact hr X ok G0 W G1 σ _ D (s1.ins hG hp ev hwp hw hg hh (flds_put (S := fo ds) ⟨l, xs, rfl, s.fr.h.free hl0, hlg, hlh, rl⟩ r)) fi
/-- self.f, self.g, self.h = (.., .., ..) -/
theorem ds_fset3 (n : Nat) {g h : Str} {da db dc : PyData} {p3 p4 p5 p6 pt : Pos} {kt : Nat} (he : DE C e Γ (tD (.tuple [da, db, dc]))) (hc : Cls C.E.K A) (hn : NoAttr C.E.K A f) (hn2 : NoAttr C.E.K A g) (hn3 : NoAttr C.E.K A h)
    (hr : DS C rest (Γ.set n (some (soI w A (putT h (fv (tD dc)) (putT g (fv (tD db)) (putT f (fv (tD da)) fts)))))) R) (hG : Γ[n]? = some (some (soI w A fts)) := by rfl) (hl : fts.length < 900 := by exact Nat.le_of_ble_eq_true rfl) (hp : pureBut Γ n = true := by rfl) (hN : C.N[n]? = some x := by rfl)
    (hv : Vis C.sc x := by first | exact Or.inl rfl | exact Or.inr (Or.inl rfl) | exact Or.inr (Or.inr rfl)) (hd : (x == ("__debug__" : Str)) = false := by decide) (hcd : (x == ("__classdict__" : Str)) = false := by decide)
    (hs : ∀ (env : Env) (l : Nat), swapsWithSole [.Tuple [.Attribute (.Name x p1) f p2, .Attribute (.Name x p3) g p4, .Attribute (.Name x p5) h p6] kt pt] e l env = pure false := by intro _ _; rfl)
    (hw : ∀ env : Env, env.scope = C.sc → swappedStores [.Tuple [.Attribute (.Name x p1) f p2, .Attribute (.Name x p3) g p4, .Attribute (.Name x p5) h p6] kt pt] e env = pure none) :
    DS C (.Assign [.Tuple [.Attribute (.Name x p1) f p2, .Attribute (.Name x p3) g p4, .Attribute (.Name x p5) h p6] kt pt] e pos :: rest) Γ R := fun X ok G0 W G σ H D s fi => by
  refine w_ps (pss_cons (ps_asg pe_w (pg_tup ok.calm (pgs_cons (pg_fld (pe_n ok hN hv hd hcd)) (pgs_cons (pg_fld (pe_n ok hN hv hd hcd)) (pgs_cons (pg_fld (pe_n ok hN hv hd hcd)) pgs_nil)))) (hs _ _) (hw _ ok.sc)) ps_w) ?_
  refine he X ok G0 W G σ H _ s fun y G1 H1 f1 py => ?_
  have s1 := s.step f1
  obtain ⟨l, xs, rfl, hq, r0⟩ := dp_tup py
  cases r0 with
  | cons pa r0 =>
    cases r0 with
    | cons pb r0 =>
      cases r0 with
      | cons pc r0 =>
        cases r0
        obtain ⟨v, ev, q, dx, fs, ⟨rfl, hwp⟩, hw', hg, hh, r⟩ := s1.at_ n _ hG
        have r1 := flds_put (f := f) (S := fv (tD da)) pa r
        have r2 := flds_put (f := g) (S := fv (tD db)) pb r1
        have r3 := flds_put (f := h) (S := fv (tD dc)) pc r2
        have l0 : fs.length < 900 := by rw [← flds_len r]; exact hl
        have l1 := length_putF f ‹V› fs
        refine ⟨l, _, rfl, by rw [ok.K]; exact same_t f1.s hq, rfl, _, _, rfl, _, ev, q, A, dx, fs, rfl, hh, by rw [ok.K]; exact hc, by rw [ok.K]; exact hn, by omega, ?_⟩
        refine ⟨_, _, rfl, _, ev, q, A, dx, _, rfl, upd_same, by rw [ok.K]; exact hc, by rw [ok.K]; exact hn2, Nat.lt_of_le_of_lt (length_putF ..) (by omega), ?_⟩
        refine ⟨_, _, rfl, _, ev, q, A, dx, _, rfl, upd_same, by rw [ok.K]; exact hc, by rw [ok.K]; exact hn3, Nat.lt_of_le_of_lt (length_putF ..) (Nat.lt_of_le_of_lt (Nat.succ_le_succ (length_putF ..)) (by omega)), rfl, ?_⟩
        have uu : ∀ (o o' o'' : HO), upd (upd (upd H1 q o) q o') q o'' = upd H1 q o'' := fun o o' o'' => by
          funext z
          by_cases hz : z = q
          · subst hz
            rw [upd_same, upd_same]
          · rw [upd_ne hz, upd_ne hz, upd_ne hz, upd_ne hz]
        rw [uu]
        exact hr X ok G0 W G1 σ _ D (s1.ins hG hp ev hwp hw' hg hh r3) fi
/-- an own instance is not changed any more -/
theorem ds_freezeI {sts : List Stmt} {names : List Str} {tys : List (Str × Ty)} (hG : Γ[n]? = some (some (soI w A fts))) (hp : pureBut Γ n = true) (hn : namesOk fts names) (ht : TysOf fts tys) (hr : DS C sts (Γ.set n (some (sv (tI A names tys)))) R) : DS C sts Γ R := fun X ok G0 W G σ H D s f => by
  obtain ⟨v, ev, pv⟩ := s.at_ n _ hG
  obtain ⟨q, dx, fs, e, hw, hg, hh, a1, a2, a3⟩ := soI_freeze hn ht s.fr.s pv
  refine hr X ok G0 W (upd G q (.ins A dx fs)) σ H D ⟨⟨s.fr.h, s.fr.g.trans a1, a2, fun b hb hb0 => ?_⟩, by rw [s.len, List.length_set], fun m S hm => ?_⟩ f
  · rw [upd_ne (fun z : b = q => by subst z; exact hb hw)]
    exact s.fr.o b hb hb0
  · by_cases hmn : n = m
    · subst hmn
      rw [List.getElem?_set_self (List.getElem?_eq_some_iff.mp hG).1] at hm
      cases Option.some.inj (Option.some.inj hm)
      exact ⟨_, ev, a3⟩
    · rw [List.getElem?_set_ne hmn] at hm
      obtain ⟨u, eu, pu⟩ := s.at_ m S hm
      have pS := pureBut_ok hp (fun z => hmn z.symm) hm
      have e1 : S.P C.E.K G G G u := S.any pS pu
      exact ⟨u, eu, S.any pS (S.keep (Frm.new (o := .ins A dx fs) (Same.refl G) hg) e1)⟩
end
/-! ### defs whose first parameter is changed -/
abbrev RO := List (Str × Fd) → List Ty → List (Str × Fd) → Ty → Prop
def spO (K : PySem.W.Frag) (A : Addr) (R : RO) : Sp := fun vs H Q _ => ∃ (W G : Hp) (fts : List (Str × Fd)) (Ts : List Ty) (fts' : List (Str × Fd)) (T : Ty) (p : Addr) (rest : List V), vs = .ref p :: rest ∧ Same W H ∧ Same G H ∧ (soI (· = p) A fts).P K W G H (.ref p) ∧ Are K G Ts rest ∧ R fts Ts fts' T ∧
  ∀ (v : V) (G' H' : Hp), Frm G W G' H' → T.P K G' v → (soI (· = p) A fts').P K W G' H' (.ref p) → Q v H'
def startO (N : List Str) (S : Sl) (Ts : List Ty) : Gm := some S :: (Ts.map (fun T => some (sv T)) ++ List.replicate (N.length - (Ts.length + 1)) none)
abbrev retO (S' : Sl) (T : Ty) : Po := { nx := fun Γ => Γ[0]? = some (some S') ∧ (tD .none).le T, rt := fun _ => False, rs := fun Γ T' => Γ[0]? = some (some S') ∧ T'.le T }
theorem sat_startO {K : PySem.W.Frag} {G W H : Hp} {N : List Str} {S : Sl} {Ts : List Ty} {x : V} {vs : List V} (sw : Same W H) (s : Same G H) (p : S.P K W G H x) (r : Are K G Ts vs) (hl : Ts.length + 1 ≤ N.length) : Sat K G W (startO N S Ts) G (L2.start N (x :: vs)) H :=
  ⟨⟨sw, Same.refl _, s, fun _ _ h => h⟩, by
    unfold startO L2.start
    simp only [List.length_append, List.length_map, List.length_cons, List.length_replicate]
    have := r.length
    omega, fun i S' h => by
    unfold startO at h
    unfold L2.start
    cases i with
    | zero =>
      cases h
      exact ⟨x, rfl, p⟩
    | succ i =>
      obtain ⟨T, v, rfl, hv, pv⟩ := are_slot (i := i) r h
      refine ⟨v, ?_, pv⟩
      have hl' := (List.getElem?_eq_some_iff.mp hv).1
      show (List.map some vs ++ _)[i]? = _
      rw [List.getElem?_append_left (by rw [List.length_map]; exact hl'), List.getElem?_map, hv]
      rfl⟩
theorem soI_at {w : Addr → Prop} {K : PySem.W.Frag} {A : Addr} {fts : List (Str × Fd)} {W G H : Hp} {p : Addr} (hw : w p) (h : (soI (· = p) A fts).P K W G H (.ref p)) : (soI w A fts).P K W G H (.ref p) := by
  obtain ⟨q, dx, fs, ⟨e, e2⟩, r⟩ := h
  subst e2
  exact ⟨q, dx, fs, ⟨rfl, hw⟩, r⟩
theorem soI_to {w : Addr → Prop} {K : PySem.W.Frag} {A : Addr} {fts : List (Str × Fd)} {W G H : Hp} {v : V} (h : (soI w A fts).P K W G H v) : ∃ p, v = .ref p ∧ w p ∧ (soI (· = p) A fts).P K W G H (.ref p) := by
  obtain ⟨q, dx, fs, ⟨e, e2⟩, r⟩ := h
  exact ⟨q, e, e2, q, dx, fs, ⟨rfl, rfl⟩, r⟩
section
variable {P : Program} {w : World} {K : PySem.W.Frag} {mg : Str → Option Value} {base : Heap}
theorem def_okO {A : Addr} {x qual : Str} {st : Stmt} {dvs : List V} {kws : List (Str × V)} {f : Addr} {fd : FuncData} {N ps : List Str} {k : Nat} {R : RO} (F : FunD K x qual (defArgs st) (defBody st) (defScope st) dvs kws f fd) (S : FnScope N ps (defScope st))
    (hlen : ∀ fts Ts fts' T, R fts Ts fts' T → Ts.length + 1 = ps.length) (hb : ∀ p fts Ts fts' T, R fts Ts fts' T → DS (defC ⟨P, w, K, mg, base⟩ N (defScope st) k) (defBody st) (startO N (soI (· = p) A fts) Ts) (retO (soI (· = p) A fts') T)) : FnOk P w K mg base CX0 (k + 1) f fd ps (spO K A R) := by
  refine F.ok S (fun vs H Q E h => ?_) (fun cdv Ar outer s H vs Q E hr h => ?_)
  · obtain ⟨W, G, fts, Ts, fts', T, p, rest, rfl, _, _, _, r, hR, _⟩ := h
    rw [List.length_cons, ← r.length]
    exact hlen fts Ts fts' T hR
  · obtain ⟨W, G, fts, Ts, fts', T, p, rest, rfl, sW, sG, pS, r, hR, q⟩ := h
    refine ⟨_, PSs.nox ps_w, ?_⟩
    refine hb p fts Ts fts' T hR _ ⟨rfl, rfl, rfl, rfl, rfl, rfl, rfl, rfl, rfl, hr, rfl⟩ G W G (L2.start N (.ref p :: rest)) H _ (sat_startO sW sG pS r ?_) ⟨fun Γ G' σ H' hn s' => ?_, fun _ _ _ _ z => z.elim, fun _ _ _ _ z => z.elim, fun _ _ _ _ z => z.elim, fun Γ T' v G' σ H' hn s' pv' => ?_⟩
    · have e1 := hlen fts Ts fts' T hR
      have e2 : (N.take ps.length).length = ps.length := by rw [S.pre]
      rw [List.length_take] at e2
      omega
    · obtain ⟨v, ev, z⟩ := s'.at_ 0 _ hn.1
      obtain ⟨p', e1, e2, e3⟩ := soI_to z
      subst e2
      exact q .non G' H' s'.fr (hn.2 _ _ _ .non) e3
    · obtain ⟨v, ev, z⟩ := s'.at_ 0 _ hn.1
      obtain ⟨p', e1, e2, e3⟩ := soI_to z
      subst e2
      exact q _ G' H' s'.fr (hn.2 _ _ _ pv') e3
end
/-- the expression changes the own instance at slot n -/
def DEU (C : Cc) (e : Expr) (Γ : Gm) (n : Nat) (S' : Sl) (T : Ty) : Prop := ∀ X, XOk C X → ∀ (G0 W G : Hp) (σ : L2.St) (H : Hp) (Q : VK), Sat C.E.K G0 W Γ G σ H →
  (∀ (v : V) (G' H' : Hp), Sat C.E.K G0 W (Γ.set n (some S')) G' σ H' → T.P C.E.K G' v → Q v H') → wE X e σ H Q
/-- a method that changes its object; dv: its defaults' types -/
structure KnU (E : Ev) (k : Nat) (A : Addr) (m : Str) (dv : List Ty) (R : RO) : Prop where
  cl : Cls E.K A
  ex : ∃ (f : Addr) (fd : FuncData) (ps : List Str) (ds : List Value) (dvs : List V), FnOk E.P E.w E.K E.mg E.base CX0 k f fd ps (spO E.K A R) ∧ Meth E.K A m f ∧ Binds E.K fd ps ds ∧ Vals dvs ds ∧ ∀ G, Are E.K G dv dvs
theorem are_app {K : PySem.W.Frag} {G : Hp} : ∀ {Ts Us : List Ty} {vs us : List V}, Are K G Ts vs → Are K G Us us → Are K G (Ts ++ Us) (vs ++ us)
  | _, _, _, _, .nil, h => h
  | _, _, _, _, .cons a r, h => .cons a (are_app r h)
section
variable {C : Cc} {Γ : Gm} {T Ta Tb : Ty} {e a b c tg : Expr} {pos p p1 p2 : Pos} {R : Po} {rest : List Stmt} {w : Addr → Prop} {A : Addr} {fts fts' : List (Str × Fd)} {n : Nat} {x f : Str}
theorem Sat.ret {K : PySem.W.Frag} {G0 W G H G' H' : Hp} {σ : L2.St} {S S' : Sl} {v : V} (s : Sat K G0 W Γ G σ H) (hG : Γ[n]? = some (some S)) (hp : pureBut Γ n = true) (hv : σ[n]? = some (some v)) (f : Frm G W G' H') (h : S'.P K W G' H' v) : Sat K G0 W (Γ.set n (some S')) G' σ H' := by
  refine ⟨s.fr.unbase f, by rw [s.len, List.length_set], fun m S hm => ?_⟩
  by_cases hmn : n = m
  · subst hmn
    rw [List.getElem?_set_self (List.getElem?_eq_some_iff.mp hG).1] at hm
    cases Option.some.inj (Option.some.inj hm)
    exact ⟨_, hv, h⟩
  · rw [List.getElem?_set_ne hmn] at hm
    obtain ⟨u, eu, pu⟩ := s.at_ m S hm
    have pS := pureBut_ok hp (fun z => hmn z.symm) hm
    have e1 : S.P K G G G u := S.any pS pu
    exact ⟨u, eu, S.any pS (S.keep (⟨f.g, f.g, Same.refl _, fun p hp hg => absurd hg hp⟩ : Frm G G G' G') e1)⟩
theorem d_methU1 {m : Str} {apos : Pos} {k : Nat} {dvT : List Ty} {R : RO} (F : KnU C.E k A m dvT R) (n : Nat) (ha : DE C e Γ Ta) (hR : R fts (Ta :: dvT) fts' T) (hk : k ≤ C.k := by exact Nat.le_of_ble_eq_true rfl) (hG : Γ[n]? = some (some (soI w A fts)) := by rfl) (hm0 : fts.lookup m = none := by rfl) (hp : pureBut Γ n = true := by rfl)
    (hN : C.N[n]? = some x := by rfl) (hv : Vis C.sc x := by first | exact Or.inl rfl | exact Or.inr (Or.inl rfl) | exact Or.inr (Or.inr rfl)) (hd : (x == ("__debug__" : Str)) = false := by decide) (hcd : (x == ("__classdict__" : Str)) = false := by decide)
    (he : ∀ env : Env, starEach [e] env = (false, eval e env) :: starEach [] env := by intro _; rfl)
    (ht : ∀ env : Env, ∃ pl : Sem Bool, eval (.Call (.Attribute (.Name x p1) m apos) [e] [] pos) env = (do
      let ov ← eval (.Name x p1) env
      standAt apos.atName
      let (f, first) ← holding [ov] (getMethod ov m pl)
      callWith pos f first (backTo pos (starEach [e] env)) (backToKw pos (keywordEach [] env))) := by intro _; exact ⟨_, rfl⟩) : DEU C (.Call (.Attribute (.Name x p1) m apos) [e] [] pos) Γ n (soI w A fts') T := by
  intro X ok G0 W G σ H Q s q
  obtain ⟨f, fd, ps, ds, dvs, F', hm, b, hdv, har⟩ := F.ex
  have cl := F.cl
  rw [← ok.p, ← ok.w, ← ok.K, ← ok.mg, ← ok.base] at F'
  rw [← ok.K] at cl hm b
  obtain ⟨pl, ht⟩ := ht X.env
  refine w_pe (pe_meth (pe_n ok hN hv hd hcd) cl hm F' (ok.room.mono hk) b hdv pass0 pa_w (he _) rfl ht) ?_
  obtain ⟨v, ev, pv⟩ := s.at_ n _ hG
  obtain ⟨pp, rfl, hwp, pv2⟩ := soI_to pv
  have ⟨q0, dx, fs, ⟨e1, e2⟩, hw, hg, hh, r⟩ := pv2
  subst e2
  refine ⟨_, ev, q0, dx, fs, rfl, hh, flds_none r hm0, ?_⟩
  refine (da_cons ha da_nil he) X ok G0 W G σ H _ s fun vs G2 H2 f2 pvs => ?_
  have s2 := s.step f2
  refine ⟨W, G2, fts, _, fts', T, q0, _, rfl, s2.fr.h, s2.fr.s, by rw [ok.K]; exact (soI _ A fts).keep f2 pv2, ?_, hR, fun u G3 H3 f3 pu pS => ?_⟩
  · rw [ok.K]
    exact are_app pvs (har G2)
  · rw [ok.K] at pS pu
    exact q u G3 H3 (s2.ret hG hp ev f3 (soI_at hwp pS)) pu
theorem d_methU0 {m : Str} {apos : Pos} {k : Nat} {dvT : List Ty} {R : RO} (F : KnU C.E k A m dvT R) (n : Nat) (hR : R fts dvT fts' T) (hk : k ≤ C.k := by exact Nat.le_of_ble_eq_true rfl) (hG : Γ[n]? = some (some (soI w A fts)) := by rfl) (hm0 : fts.lookup m = none := by rfl) (hp : pureBut Γ n = true := by rfl)
    (hN : C.N[n]? = some x := by rfl) (hv : Vis C.sc x := by first | exact Or.inl rfl | exact Or.inr (Or.inl rfl) | exact Or.inr (Or.inr rfl)) (hd : (x == ("__debug__" : Str)) = false := by decide) (hcd : (x == ("__classdict__" : Str)) = false := by decide)
    (ht : ∀ env : Env, ∃ pl : Sem Bool, eval (.Call (.Attribute (.Name x p1) m apos) [] [] pos) env = (do
      let ov ← eval (.Name x p1) env
      standAt apos.atName
      let (f, first) ← holding [ov] (getMethod ov m pl)
      callWith pos f first (backTo pos (starEach [] env)) (backToKw pos (keywordEach [] env))) := by intro _; exact ⟨_, rfl⟩) : DEU C (.Call (.Attribute (.Name x p1) m apos) [] [] pos) Γ n (soI w A fts') T := by
  intro X ok G0 W G σ H Q s q
  obtain ⟨f, fd, ps, ds, dvs, F', hm, b, hdv, har⟩ := F.ex
  have cl := F.cl
  rw [← ok.p, ← ok.w, ← ok.K, ← ok.mg, ← ok.base] at F'
  rw [← ok.K] at cl hm b
  obtain ⟨pl, ht⟩ := ht X.env
  refine w_pe (pe_meth0 (pe_n ok hN hv hd hcd) cl hm F' (ok.room.mono hk) b hdv pass0 ht) ?_
  obtain ⟨v, ev, pv⟩ := s.at_ n _ hG
  obtain ⟨pp, rfl, hwp, pv2⟩ := soI_to pv
  have ⟨q0, dx, fs, ⟨e1, e2⟩, hw, hg, hh, r⟩ := pv2
  subst e2
  refine ⟨_, ev, q0, dx, fs, rfl, hh, flds_none r hm0, ?_⟩
  refine ⟨W, G, fts, _, fts', T, q0, _, rfl, s.fr.h, s.fr.s, by rw [ok.K]; exact pv2, ?_, hR, fun u G3 H3 f3 pu pS => ?_⟩
  · rw [ok.K]
    exact har G
  · rw [ok.K] at pS pu
    exact q u G3 H3 (s.ret hG hp ev f3 (soI_at hwp pS)) pu
theorem ds_exprU {S' : Sl} (he : DEU C e Γ n S' T) (hr : DS C rest (Γ.set n (some S')) R) (hs : ∀ (env : Env) (l : Nat), swapsWith e none l env = pure false := by intro _ _; rfl) : DS C (.Expr e pos :: rest) Γ R := fun X ok G0 W G σ H D s f => by
  refine w_ps (pss_cons (ps_expr pe_w (hs _ _)) ps_w) ?_
  exact he X ok G0 W G σ H _ s fun v G' H' s' p => hr X ok G0 W G' σ H' D s' f
theorem ds_setU {S' : Sl} {m : Nat} {y : Str} (he : DEU C e Γ n S' T) (st : Sto C m y) (hr : DS C rest ((Γ.set n (some S')).set m (some (sv T))) R) (hs : ∀ (env : Env) (l : Nat), env.scope = C.sc → swapsWith e (some (.Name y p)) l env = pure false := by intro _ _ _; rfl) : DS C (.Assign [.Name y p] e pos :: rest) Γ R := fun X ok G0 W G σ H D s f => by
  refine w_ps (pss_cons (ps_set (by rw [ok.N]; exact st.nd) (by rw [ok.N]; exact st.N) (by rw [ok.sc]; exact st.loc) pe_w (hs _ _ ok.sc) (by rw [ok.fn, ok.sc]; exact st.fn)) ps_w) ?_
  exact he X ok G0 W G σ H _ s fun v G' H' s' pv => hr X ok G0 W G' _ H' D (s'.put m (S := sv T) pv) f
/-! self.f.append(e), the list own too -/
theorem all2_split {α β : Type} {F : α → β → Prop} : ∀ {as : List α} {a : α} {cs : List α} {bs : List β}, All2 F (as ++ a :: cs) bs → ∃ b1 b b2, bs = b1 ++ b :: b2 ∧ All2 F as b1 ∧ F a b ∧ All2 F cs b2
  | [], a, cs, _ :: _, .cons h r => ⟨[], _, _, rfl, .nil, h, r⟩
  | x :: as, a, cs, _ :: _, .cons h r => by
    obtain ⟨b1, b, b2, e, h1, h2, h3⟩ := all2_split (as := as) r
    exact ⟨_ :: b1, b, b2, by rw [e]; rfl, .cons h h1, h2, h3⟩
theorem all2_join {α β : Type} {F : α → β → Prop} : ∀ {as : List α} {bs : List β} {as' : List α} {bs' : List β}, All2 F as bs → All2 F as' bs' → All2 F (as ++ as') (bs ++ bs')
  | _, _, _, _, .nil, h => h
  | _, _, _, _, .cons a r, h => .cons a (all2_join r h)
def allPure (fts : List (Str × Fd)) : Bool := fts.all fun t => t.2.s.pure
theorem flds_any {K : PySem.W.Frag} {W G H H' : Hp} : ∀ {fts : List (Str × Fd)} {fs : List (Str × V)}, allPure fts = true → Flds K W G H fts fs → Flds K W G H' fts fs
  | _, _, _, .nil => .nil
  | t :: r, _ :: _, h, .cons a q => by
    have h' : (t.2.s.pure && allPure r) = true := h
    rw [Bool.and_eq_true] at h'
    exact .cons ⟨a.1, t.2.s.any h'.1 a.2⟩ (flds_any h'.2 q)
theorem ds_appF (n : Nat) {d : PyData} {ds : List PyData} {FA FB : List (Str × Fd)} {apos apos2 : Pos} (he : DE C e Γ (tD d)) (hc : Cls C.E.K A) (hn : NoAttr C.E.K A f) (hr : DS C rest (Γ.set n (some (soI w A (FA ++ (f, fo (ds ++ [d])) :: FB)))) R) (hpa : allPure FA = true) (hpb : allPure FB = true) (hnf : FA.lookup f = none)
    (hl : ds.length ≤ 1000000) (hG : Γ[n]? = some (some (soI w A (FA ++ (f, fo ds) :: FB)))) (hp : pureBut Γ n = true) (hN : C.N[n]? = some x) (hv : Vis C.sc x)
    (hs : ∀ env : Env, starEach [e] env = (false, eval e env) :: starEach [] env := by intro _; rfl) (hline : (apos.endLine == pos.line) = true := by rfl)
    (hd : (x == ("__debug__" : Str)) = false := by decide) (hcd : (x == ("__classdict__" : Str)) = false := by decide) (hb : ∀ env : Env, attributeBase (.Name x p1) f env (eval (.Name x p1) env) = eval (.Name x p1) env := by intro _; rfl)
    (hb2 : ∀ env : Env, attributeBase (.Attribute (.Name x p1) f apos2) "append" env (eval (.Attribute (.Name x p1) f apos2) env) = eval (.Attribute (.Name x p1) f apos2) env := by intro _; rfl)
    (hsw : ∀ (env : Env) (l : Nat), swapsWith (.Call (.Attribute (.Attribute (.Name x p1) f apos2) "append" apos) [e] [] pos) none l env = pure false := by intro _ _; rfl) :
    DS C (.Expr (.Call (.Attribute (.Attribute (.Name x p1) f apos2) "append" apos) [e] [] pos) p :: rest) Γ R := fun X ok G0 W G σ H D s fi => by
  refine w_ps (pss_cons (ps_expr (pe_bm PySem.F.plainAttrs_list PySem.F.slot_list_append PySem.F.type_list_append mt_append (pe_fld (pe_n ok hN hv hd hcd) (hb _)) (pa_cons pe_w pa_nil (hs _)) (hb2 _) (by rw [hs]; rfl) hline (hs _) rfl) (hsw _ _)) ps_w) ?_
  obtain ⟨v, ev, q, dx, fs, ⟨rfl, hwp⟩, hw, hg, hh, r⟩ := s.at_ n _ hG
  obtain ⟨b1, b, b2, rfl, r1, ⟨eb, l, xs, el, lw, lg, lh, rl⟩, r2⟩ := all2_split r
  have hlook : (b1 ++ b :: b2).lookup f = some (.ref l) := by
    have h1 : b1.lookup f = none := flds_none r1 hnf
    rw [List.lookup_append, h1, List.lookup_cons, ← eb, beq_self_eq_true, el]
    rfl
  refine ⟨_, ev, q, A, dx, _, .ref l, rfl, hh, by rw [ok.K]; exact hc, by rw [ok.K]; exact hn, hlook, ?_⟩
  refine ⟨.inl ⟨rfl, xs, SqL.of lh⟩, ?_⟩
  refine he X ok G0 W G σ H _ s fun u G1 H1 f1 pu => ?_
  have lh1 := f1.h _ _ lh
  have lg1 : G1 l = none := f1.o l (by rw [lh]; intro z; cases z) lg
  refine ⟨l, xs, u, rfl, rfl, lh1, small_lt (by rw [dpa_len rl]; exact hl), ?_⟩
  have s1 := s.step f1
  have hg1 : G1 q = none := f1.o q (by rw [hh]; intro z; cases z) hg
  have hh1 := f1.h _ _ hh
  have nql : q ≠ l := fun z => by
    rw [z, lh1] at hh1
    cases hh1
  refine hr X ok G0 W G1 σ _ D ⟨⟨fun b o e => ?_, s1.fr.g, fun b o e => ?_, s1.fr.o⟩, by rw [s1.len, List.length_set], fun m S hm => ?_⟩ fi
  · rw [upd_ne (fun z : b = l => by subst z; rw [lw] at e; cases e)]
    exact s1.fr.h _ _ e
  · rw [upd_ne (fun z : b = l => by subst z; rw [lg1] at e; cases e)]
    exact s1.fr.s _ _ e
  · by_cases hmn : n = m
    · subst hmn
      rw [List.getElem?_set_self (List.getElem?_eq_some_iff.mp hG).1] at hm
      cases Option.some.inj (Option.some.inj hm)
      refine ⟨_, ev, q, dx, _, ⟨rfl, hwp⟩, hw, hg1, by rw [upd_ne nql]; exact hh1, ?_⟩
      have k1 : Flds C.E.K W G1 H1 FA b1 := All2.imp (fun t v z => ⟨z.1, t.2.s.keep f1 z.2⟩) r1
      have k2 : Flds C.E.K W G1 H1 FB b2 := All2.imp (fun t v z => ⟨z.1, t.2.s.keep f1 z.2⟩) r2
      exact all2_join (flds_any hpa k1) (.cons ⟨eb, l, _, el, lw, lg1, upd_same, dpa_app (dpa_mono f1.g rl) (.cons pu .nil)⟩ (flds_any hpb k2))
    · rw [List.getElem?_set_ne hmn] at hm
      obtain ⟨u, eu, pu⟩ := s1.at_ m S hm
      exact ⟨u, eu, S.any (pureBut_ok hp (fun z => hmn z.symm) hm) pu⟩
/-! ### C(e, kw = e2) -/
structure KnI (E : Ev) (k : Nat) (x : Str) (A : Addr) (kw : Str) (R : RO) : Prop where
  ex : ∃ (f : Addr) (fd : FuncData) (ps : List Str) (g : List Value → List Value → List Value), Mk E.K A f ∧ FnOk E.P E.w E.K E.mg E.base CX0 k f fd ps (spO E.K A R) ∧ E.mg x = some (.ref A) ∧ KBn E.K fd ps 2 [kw] g (fun vs zs => vs ++ zs)
/-- the expression makes an own instance -/
def DEs (C : Cc) (e : Expr) (Γ : Gm) (S : Sl) : Prop := ∀ X, XOk C X → ∀ (G0 W G : Hp) (σ : L2.St) (H : Hp) (Q : VK), Sat C.E.K G0 W Γ G σ H →
  (∀ (v : V) (G' H' : Hp), Frm G H G' H' → S.P C.E.K H G' H' v → Q v H') → wE X e σ H Q
theorem ds_mkI {k : Nat} {kw : Str} {kpos : Pos} {R : RO} (F : KnI C.E k x A kw R) (ha : DE C a Γ Ta) (hb : DE C b Γ Tb) (hR : R [] [Ta, Tb] fts (tD .none)) (hk : k + 1 ≤ C.k := by exact Nat.le_of_ble_eq_true rfl) (hg : C.sc.names.lookup x = some .globalImplicit := by rfl)
    (h1 : ∀ env : Env, starEach [a] env = (false, eval a env) :: starEach [] env := by intro _; rfl) (hkw : ∀ env : Env, (backToKw pos (keywordEach [⟨some kw, b, kpos⟩] env)).all (·.1.isSome) = true := by intro _; rfl) (hks : ∀ env : Env, (backToKw pos (keywordEach [⟨some kw, b, kpos⟩] env)).filterMap (·.1) = [kw] := by intro _; rfl)
    (hpl : ∀ env : Env, ((backTo pos (starEach [a] env)).any (·.1) || (backToKw pos (keywordEach [⟨some kw, b, kpos⟩] env)).any (·.1.isNone)) = false := by intro _; rfl)
    (hkc : ∀ X : Cx, ∀ te, PE X b te → PK X [⟨some kw, b, kpos⟩] (tCons te tNil) := by intro X te h; exact pk_cons h pk_nil) (hdb : (x == ("__debug__" : Str)) = false := by decide) : DEs C (.Call (.Name x p) [a] [⟨some kw, b, kpos⟩] pos) Γ (soI (fun _ => True) A fts) := by
  intro X ok G0 W G σ H Q s q
  obtain ⟨f, fd, ps, g, M, F', hm, bn⟩ := F.ex
  rw [← ok.p, ← ok.w, ← ok.K, ← ok.mg, ← ok.base] at F'
  rw [← ok.K] at M bn
  refine w_pe (pe_makeK (n := 1) (ks := [kw]) M F' (ok.room.mono hk) (by show X.env.scope.names.lookup x = _; rw [ok.sc]; exact hg) (by rw [ok.mg]; exact hm) bn pass0 (pa_cons pe_w pa_nil (h1 _)) (hkc X _ pe_w) (hkw _) (hks _) hdb (h1 _) (hpl _)) ?_
  refine ha X ok G0 W G σ H _ s fun v1 G1 H1 f1 p1 => ?_
  refine hb X ok G0 W G1 σ H1 _ (s.step f1) fun v2 G2 H2 f2 p2 => ?_
  refine ⟨rfl, rfl, fun xa dx hx hdx hne => ?_⟩
  have gx := f2.s.free hx
  refine ⟨H2, G2, [], [Ta, Tb], fts, tD .none, xa, [v1, v2], rfl, (same_new hdx).trans (same_new (by rw [upd_ne (Ne.symm hne)]; exact hx)), f2.s.trans ((same_new hdx).trans (same_new (by rw [upd_ne (Ne.symm hne)]; exact hx))), ⟨xa, dx, [], ⟨rfl, rfl⟩, hx, gx, upd_same, .nil⟩, ?_, hR, fun u G3 H3 f3 pu pS => ?_⟩
  · rw [ok.K]
    exact .cons (Ta.mono f2.g p1) (.cons p2 .nil)
  · rw [ok.K] at pS pu
    refine ⟨by cases pu; rfl, q _ G3 H3 (f1.trans (f2.trans f3)) (soI_wk (f1.h.trans f2.h) (soI_at trivial pS))⟩
theorem d_mkI {S : List (Str × Fd)} {names : List Str} {tys : List (Str × Ty)} (h : DEs C e Γ (soI (fun _ => True) A S)) (hn : namesOk S names) (ht : TysOf S tys) : DE C e Γ (tI A names tys) := fun X ok G0 W G σ H Q s q => h X ok G0 W G σ H Q s fun v G' H' f pS => by
  obtain ⟨p, dx, fs, e, hw, hg, hh, a1, a2, a3⟩ := soI_freeze hn ht f.s pS
  refine q v (upd G' p (.ins A dx fs)) H' ⟨f.h, f.g.trans a1, a2, fun b hb hb0 => ?_⟩ a3
  rw [upd_ne (fun z : b = p => by subst z; exact hb hw)]
  exact f.o b hb hb0
theorem ds_setI {m : Nat} {y : Str} (he : DEs C e Γ (soI (fun _ => True) A fts)) (st : Sto C m y) (hr : DS C rest (Γ.set m (some (soI (fun _ => True) A fts))) R) (hs : ∀ (env : Env) (l : Nat), env.scope = C.sc → swapsWith e (some (.Name y p)) l env = pure false := by intro _ _ _; rfl) : DS C (.Assign [.Name y p] e pos :: rest) Γ R := fun X ok G0 W G σ H D s f => by
  refine w_ps (pss_cons (ps_set (by rw [ok.N]; exact st.nd) (by rw [ok.N]; exact st.N) (by rw [ok.sc]; exact st.loc) pe_w (hs _ _ ok.sc) (by rw [ok.fn, ok.sc]; exact st.fn)) ps_w) ?_
  exact he X ok G0 W G σ H _ s fun v G' H' f1 pv => hr X ok G0 W G' _ H' D ((s.step f1).put m (S := soI _ A fts) (soI_wk s.fr.h pv)) f
end
end DL
set_option Elab.async false
set_option linter.all false
set_option maxRecDepth 100000
set_option maxHeartbeats 1000000
/-! sorted: lists of lists of ints; lists of tuples of ints, the empty one first -/
namespace DLs
open PySem PySem.Calls PyProof.Rows PySem.W NtL
def IsTup (h : Heap) (v : Value) (p : Array Value × List Int) : Prop := ∃ a, v = .ref a ∧ h.IsTuple a p.1 ∧ IntsAre p.1.toList p.2
theorem IsTup.keeps {h h' : Heap} {v : Value} {p : Array Value × List Int} (x : IsTup h v p) (k : ∀ b o, h.get? b = some o → o.cls = .type "tuple" → h'.get? b = some o) : IsTup h' v p := by
  obtain ⟨a, e, ⟨o, ho, hc, hd⟩, i⟩ := x
  exact ⟨a, e, ⟨o, k a o ho hc, hc, hd⟩, i⟩
section
variable {prog : Program} {w : World} {A : Around} {E : Value → Shared → Prop} {s : Shared}
theorem IsTup.type {M : Model} {h : Heap} {v : Value} {p : Array Value × List Int} (x : IsTup h v p) : Looks M h (typeOf v) (.type "tuple") := by
  obtain ⟨a, rfl, ⟨o, ho, hc, n, hd⟩, i⟩ := x
  rw [← hc]
  exact (Looks.ld ho).andThen .now
theorem mapM_each {α β : Type} {M : Model} {f : α → Sem β} {g : α → β} : ∀ (l : List α) {Q : List β → Shared → Prop}, (∀ v ∈ l, ∀ (Q' : β → Shared → Prop) (E : Value → Shared → Prop), Q' (g v) s → wpAny M A (f v) Q' E s) → Q (l.map g) s → wpAny M A (l.mapM f) Q E s
  | [], _, _, h => by rw [List.mapM_nil]; exact wpAny_pure h
  | x :: l, Q, hf, h => by
    rw [List.mapM_cons]
    exact wpAny_bind (hf x (.head _) _ _ (wpAny_bind (mapM_each l (Q := fun bs s' => wpAny M A (pure (g x :: bs)) Q E s') (fun v hv => hf v (.tail _ hv)) (wpAny_pure h))))
theorem tup_kind {vs : List Value} {F : Value → Array Value × List Int} {Q : SortKind → Shared → Prop} (h2 : 2 ≤ vs.length) (hv : ∀ v ∈ vs, IsTup s.heap v (F v)) (h0 : ∀ v, vs.head? = some v → (F v).1 = #[]) (h : Q oneType' s) : wpAny (model prog w) A (keyKind' vs.toArray) Q E s := by
  obtain ⟨v₁, v₂, rest, rfl⟩ : ∃ v₁ v₂ rest, vs = v₁ :: v₂ :: rest := by
    match vs, h2 with
    | [], h2 => simp at h2
    | [_], h2 => simp at h2
    | v₁ :: v₂ :: rest, _ => exact ⟨v₁, v₂, rest, rfl⟩
  have e0 : (F v₁).1[0]? = none := by rw [h0 v₁ rfl]; rfl
  rw [kat_kind_eq, List.mapM_toArray, map_eq_pure_bind]
  refine wpAny_bind (wpAny_bind (mapM_each (g := fun v => (F v).1[0]?) _ (fun v hm Q' E' hq => ?_) (wpAny_pure ?_)))
  · rw [kas_first_eq]
    refine wpAny_bind ((hv v hm).type.here ?_)
    rw [if_neg (by decide +kernel)]
    obtain ⟨a, e, ⟨o, ho, hc, n, hd⟩, i⟩ := hv v hm
    rw [e]
    exact wpAny_bind (listItems_at ho hd (wpAny_pure hq))
  · rw [if_neg (by simp [e0])]
    have e1 : ((List.map (fun v => (F v).1[0]?) (v₁ :: v₂ :: rest)).toArray[0]?.bind id).isSome = false := by simp [e0]
    rw [e1, if_neg (by simp)]
    rw [oneTypeOnly'_eq, List.mapM_toArray, map_eq_pure_bind]
    refine wpAny_bind (wpAny_bind (wpAny_bind (kas_mapM (r := Value.type "tuple") _ (fun v hm Q' hq => (hv v hm).type.here hq) (wpAny_pure ?_))))
    have hall : ((List.map (fun _ => Value.type "tuple") (v₁ :: v₂ :: rest)).toArray.all fun x => x == Value.type "tuple") = true := by
      simp only [List.all_toArray, List.all_map, List.all_eq_true]
      intro _ _
      exact beq_self_eq_true _
    have h0' : (List.map (fun _ => Value.type "tuple") (v₁ :: v₂ :: rest)).toArray[0]? = some (Value.type "tuple") := by simp
    rw [h0']
    simp only [hall, if_true]
    exact wpAny_pure (wpAny_pure h)
theorem tup_lt {v u : Value} {p q : Array Value × List Int} {Q : Bool → Shared → Prop} (hu : A.units < cLine) (hv : IsTup s.heap v p) (hw : IsTup s.heap u q) (h : Q (HT.lexLt p.2 q.2) s) : wpAny (model prog w) A (keyLt' oneType' v u) Q E s := by
  have iu : ∀ M : Model, Looks M s.heap (isInstance u (.type "tuple")) true := fun M => (hw.type (M := M)).andThen (Looks.of_pure isSubtype_tuple_tuple)
  obtain ⟨a, rfl, ⟨⟨cls, dd, data, sl⟩, ho, hc, n, hd⟩, ia⟩ := hv
  obtain ⟨b, rfl, ⟨⟨cls2, dd2, data2, sl2⟩, ho2, hc2, n2, hd2⟩, ib⟩ := hw
  simp only at hc hd hc2 hd2
  subst hc hd hc2 hd2
  rw [keyLt'_oneType, oneLt'_eq]
  simp only [if_true]
  refine wpAny_bind (wpAny_cRoomFor hu ?_)
  refine wpAny_bind (wpAny_callSpecialIfBound?_slot (T := "tuple") ⟨_, ho, rfl⟩ PySem.F.slot_tuple_lt (call_meets PySem.F.slot_tuple_lt ⟨_, ho, rfl⟩ PySem.F.entry_tuple_lt (PySem.F.args_tuple_lt_2 _ _) (nt_lt_ints a b (.type "tuple") (.type "tuple") p.1 q.1 n n2 dd dd2 sl sl2 p.2 q.2 ia ib) ⟨ho, ho2, iu, ?_⟩))
  exact wpAny_truthy_bool h
theorem tup_sortable {a : Addr} {vs : List Value} {F : Value → Array Value × List Int} (h2 : 2 ≤ vs.length) (hu : A.units < cLine) (hv : ∀ v ∈ vs, IsTup s.heap v (F v)) (h0 : ∀ v, vs.head? = some v → (F v).1 = #[]) (ha : ∀ o, s.heap.get? a = some o → o.cls ≠ .type "tuple") :
    SrtO.SortableO prog w A s a vs fun v u => HT.lexLt (F v).2 (F u).2 := by
  intro h' keep
  have hv' : ∀ v ∈ vs, IsTup h' v (F v) := fun v hm => (hv v hm).keeps fun b o e c => keep b o (fun z => by subst z; exact ha o e c) e
  refine ⟨oneType', fun Q E hq => tup_kind (s := { s with heap := h' }) h2 hv' h0 hq, fun p q hp hq => ?_⟩
  exact tup_lt (s := { s with heap := h' }) (Q := fun r s' => s' = _ ∧ r = HT.lexLt (F p.1).2 (F q.1).2) (E := fun _ _ => False) hu (hv' p.1 hp) (hv' q.1 hq) ⟨rfl, rfl⟩
end
end DLs
namespace DL
open PySem PySem.Spec PyProof.Rows L2
theorem dpa_perm {K : PySem.W.Frag} {H : Hp} {α : Type} (enc : α → PyData) {xs ys : List V} (p : ys.Perm xs) : ∀ {ls : List α}, DpAll K H xs (ls.map enc) → ∃ ls' : List α, ls'.Perm ls ∧ DpAll K H ys (ls'.map enc) := by
  induction p with
  | nil => exact fun {ls} h => ⟨ls, .refl _, h⟩
  | cons x p ih =>
    intro ls h
    cases ls with
    | nil => cases h
    | cons l ls =>
      cases h with
      | cons a r =>
        obtain ⟨ls', p', r'⟩ := ih r
        exact ⟨l :: ls', p'.cons l, .cons a r'⟩
  | swap x y zs =>
    intro ls h
    match ls, h with
    | a :: b :: ls, .cons p1 (.cons p2 r) => exact ⟨b :: a :: ls, .swap .., .cons p2 (.cons p1 r)⟩
  | trans p q ih1 ih2 =>
    intro ls h
    obtain ⟨ls2, p2, h2⟩ := ih2 h
    obtain ⟨ls1, p1, h1⟩ := ih1 h2
    exact ⟨ls1, p1.trans p2, h1⟩
def rSortedR (enc : List Int → PyData) (ok : List (List Int) → Prop) (K : PySem.W.Frag) : List V → Hp → VK → Prop := fun vs H Q => ∃ (a : Addr) (xs : List V) (ls : List (List Int)), vs = [V.ref a] ∧ SqL K H a xs ∧ DpAll K H xs (ls.map enc) ∧ ok ls ∧
  ∀ ys p, ys.Perm xs → H p = none → Q (.ref p) (upd H p (.lst ys))
abbrev lI (l : List Int) : PyData := .list (l.map .int)
abbrev tIs (l : List Int) : PyData := .tuple (l.map .int)
theorem each_zip {K : PySem.W.Frag} {H : Hp} (enc : List Int → PyData) : ∀ {xs : List V} {its : List Value} {ls : List (List Int)}, Vals xs its → DpAll K H xs (ls.map enc) → PySem.W.EachIs (fun v (b : V × List Int) => RelV b.1 v ∧ Dp K H b.1 (enc b.2)) its (xs.zip ls)
  | _, _, [], .nil, .nil => .nil
  | _, _, l :: ls, .cons r t, .cons a q => .cons ⟨r, a⟩ (each_zip enc t q)
theorem vals_fst : ∀ {out : List Value} {bs : List (V × List Int)}, PySem.W.EachIs (fun v (b : V × List Int) => RelV b.1 v) out bs → Vals (bs.map (·.1)) out
  | _, _, .nil => .nil
  | _, _, .cons a r => .cons a (vals_fst r)
theorem zip_fst {α β : Type} : ∀ {xs : List α} {ls : List β}, xs.length = ls.length → (xs.zip ls).map (·.1) = xs
  | [], [], _ => rfl
  | x :: xs, l :: ls, h => by
    rw [List.zip_cons_cons, List.map_cons, zip_fst (Nat.succ.inj h)]
section
variable {X : Cx}
theorem cr_sortedLL (hr : X.A.units + 64 < cLine) : CallR X (.builtin "sorted") (rSortedR lI (fun _ => True) X.K) := by
  intro pins s σ H vs us Q I r h
  obtain ⟨a, xs, ls, rfl, hs, hd, _, q⟩ := h
  obtain ⟨its, rv, hl, hz⟩ := I.list hs
  rw [Vals.ref1 r]
  have el : xs.length = ls.length := by rw [dpa_len hd, List.length_map]
  have e0 := each_zip lI rv hd
  have hdep : ∀ b : V × List Int, (lI b.2).depth ≤ 2 := fun b => by
    show PyData.depth (.list (b.2.map .int)) ≤ 2
    have := PySem.W.depth_ints b.2
    simp [PyData.depth, this]
  refine PySem.W.sorted_data (vs := its) (bs := xs.zip ls) (enc := fun b => lI b.2) (R := fun v b => RelV b.1 v) hl.isList (e0.mono fun _ _ z => z.1) (e0.mono fun v b z => Dp.reads I _ _ _ z.2 z.1) (PySem.W.AllAlike.of fun b b' => ?_) (PySem.W.Sortable.others fun b => ⟨by simp, by simp⟩) ?_ (fun b _ => ?_) fun out ho eo => ?_
  · show PySem.W.alike (.list _) (.list _) = true
    simp only [PySem.W.alike]
    exact PySem.W.alike_ints _ _
  · rw [List.length_zip, ← el, Nat.min_self]
    exact hz
  · have := hdep b
    omega
  · have rvo := vals_fst eo
    have hp : ((List.mergeSort (xs.zip ls) (PySem.W.dataLe false fun b => lI b.2)).map (·.1)).Perm xs := by
      have z := (List.mergeSort_perm (xs.zip ls) (PySem.W.dataLe false fun b => lI b.2)).map (·.1)
      rw [zip_fst el] at z
      exact z
    obtain ⟨ep, he'⟩ := PyProof.Rows.sortedAll_at s.heap its out.toArray
    exact ⟨.ref _, upd H (s.heap.objs.size + 1) (.lst _), I.laid (t' := s.toks) (fun _ _ => PyProof.Rows.sortedAll_old) (Nat.le_succ _) ⟨by rw [hp.length_eq]; exact hz, out, ep, rvo, he'⟩, rfl, q _ _ hp (I.hok.fresh (Nat.le_succ _))⟩
theorem tup_of {pins : List (Addr × Obj)} {σ : L2.St} {H : Hp} {s : Shared} (I : Inv X pins σ H s) : ∀ {xs : List V} {its : List Value} {ls : List (List Int)}, Vals xs its → DpAll X.K H xs (ls.map tIs) → (∀ v ∈ its, ∃ p, DLs.IsTup s.heap v p) ∧ (ls.head? = some [] → ∀ v, its.head? = some v → ∀ p, DLs.IsTup s.heap v p → p.1 = #[])
  | _, _, [], .nil, .nil => ⟨(fun v h => by cases h), (fun h => by cases h)⟩
  | _, _, l :: ls, .cons r t, .cons d q => by
    obtain ⟨a, ys, rfl, hq, rd⟩ := dp_tup d
    have ed := dpa_ints rd
    subst ed
    obtain ⟨ts, rt, ht, _⟩ := I.tuple hq
    cases r
    refine ⟨fun v hv => ?_, fun h0 v hv p hp => ?_⟩
    · rcases List.mem_cons.mp hv with e | hv
      · subst e
        exact ⟨(ts.toArray, l), a, rfl, ht, by simpa using rt.ints⟩
      · exact (tup_of I t q).1 v hv
    · cases hv
      have e0 : l = [] := Option.some.inj h0
      subst e0
      cases rt
      obtain ⟨b, eb, ⟨o, ho, hc, n, hd⟩, i⟩ := hp
      cases eb
      obtain ⟨o', ho', hc', n', hd'⟩ := ht
      rw [ho] at ho'
      cases Option.some.inj ho'
      rw [hd] at hd'
      injection hd' with z1 z2
theorem cr_sortedTT (hr : X.A.units + 64 < cLine) : CallR X (.builtin "sorted") (rSortedR tIs (fun ls => ls.head? = some []) X.K) := by
  intro pins s σ H vs us Q I r h
  obtain ⟨a, xs, ls, rfl, hs, hd, h0, q⟩ := h
  obtain ⟨its, rv, hl, hz⟩ := I.list hs
  rw [Vals.ref1 r]
  obtain ⟨t1, t2⟩ := tup_of I rv hd
  classical
  let F : Value → Array Value × List Int := fun v => if z : ∃ p, DLs.IsTup s.heap v p then z.choose else (#[], [])
  have hF : ∀ v ∈ its, DLs.IsTup s.heap v (F v) := fun v hv => by
    have z := t1 v hv
    show DLs.IsTup s.heap v (if z : ∃ p, DLs.IsTup s.heap v p then z.choose else (#[], []))
    rw [dif_pos z]
    exact z.choose_spec
  have hF0 : ∀ v, its.head? = some v → (F v).1 = #[] := fun v hv => t2 h0 v hv (F v) (hF v (List.mem_of_head? hv))
  refine SrtO.sorted_ord (ltv := fun v u => HT.lexLt (F v).2 (F u).2) (NtL.swo_lexL fun v => (F v).2) hl.isList (by rw [← rv.length]; exact hz) (fun h2 h₁ a' ha kk => ?_) fun out h1 h2 => ?_
  · refine DLs.tup_sortable (s := { s with heap := h₁ }) h2 (by show X.A.units + 1 + 1 < _; omega) (fun v hv => (hF v hv).keeps fun b o e _ => (kk b o e).2) hF0 fun o e => ?_
    have e' : some o = some (seqObj "list" its.toArray 0) := e.symm.trans ha
    cases e'
    intro c
    exact absurd (Value.type.inj c) (by decide)
  · have hx : ∀ x ∈ xs, ∃ a, x = V.ref a := by
      have gen : ∀ {xs : List V} {ls : List (List Int)}, DpAll X.K H xs (ls.map tIs) → ∀ x ∈ xs, ∃ a, x = V.ref a := fun {xs} => by
        induction xs with
        | nil => exact fun _ x hx => by cases hx
        | cons y ys ih =>
          intro ls h x hx
          cases ls with
          | nil => cases h
          | cons l ls =>
            cases h with
            | cons d r =>
              rcases List.mem_cons.mp hx with e | hx
              · subst e
                obtain ⟨a, _, e, _⟩ := dp_tup d
                exact ⟨a, e⟩
              · exact ih r x hx
      exact gen hd
    obtain ⟨e1, e2⟩ := refs_back rv hx
    have rvo : Vals (out.map backV) out := vals_back fun u hu => e2 u (h2.perm.mem_iff.mp hu)
    have hp : (out.map backV).Perm xs := by
      rw [e1]
      exact h2.perm.map backV
    obtain ⟨ep, he'⟩ := PyProof.Rows.sortedAll_at s.heap its out.toArray
    exact ⟨.ref _, upd H (s.heap.objs.size + 1) (.lst _), I.laid (t' := s.toks) (fun _ _ => PyProof.Rows.sortedAll_old) (Nat.le_succ _) ⟨by rw [hp.length_eq]; exact hz, out, ep, rvo, he'⟩, rfl, q _ _ hp (I.hok.fresh (Nat.le_succ _))⟩
end
section
variable {C : Cc} {Γ : Gm} {T Ta Tb : Ty} {e a b c : Expr} {pos p : Pos}
theorem d_sortedR {enc : List Int → PyData} {ok : List (List Int) → Prop} (hc : ∀ X : Cx, X.A.units + 64 < cLine → CallR X (.builtin "sorted") (rSortedR enc ok X.K)) {ls : List (List Int)} (hk : ok ls) (hx : IsB C "sorted") (ha : DE C e Γ (tD (.list (ls.map enc)))) (he : ∀ env : Env, starEach [e] env = (false, eval e env) :: starEach [] env) :
    DE C (.Call (.Name "sorted" p) [e] [] pos) Γ (tEx (fun ls' : List (List Int) => ls'.Perm ls) fun ls' => tL (ls'.map enc)) :=
  d_callB (r := rSortedR enc ok) (fun X _ rm => hc X rm.units) hx (by decide +kernel) (da_cons ha da_nil he) (fun G H vs Q s pv q => by
    obtain ⟨v, rfl, h⟩ := are1 pv
    obtain ⟨l, xs, rfl, hq, r⟩ := dp_lst h
    refine ⟨l, xs, ls, rfl, s.seq hq, dpa_mono s r, hk, fun ys m hp hm => ?_⟩
    obtain ⟨ls', p', r'⟩ := dpa_perm enc hp r
    obtain ⟨f, t⟩ := new_tL s hm r'
    exact q _ _ _ f ⟨ls', p', t⟩) he (fun _ => rfl)
theorem d_sortedI {ns : List Int} (hx : IsB C "sorted") (ha : DE C e Γ (tD (.list (ns.map .int)))) (he : ∀ env : Env, starEach [e] env = (false, eval e env) :: starEach [] env) :
    DE C (.Call (.Name "sorted" p) [e] [] pos) Γ (tEx (fun ns' : List Int => ns'.Perm ns) fun ns' => tL (ns'.map .int)) :=
  d_callB (r := rSortedI) (fun X _ rm => cr_sortedI) hx (by decide +kernel) (da_cons ha da_nil he) (fun G H vs Q s pv q => by
    obtain ⟨v, rfl, h⟩ := are1 pv
    obtain ⟨l, xs, rfl, hq, r⟩ := dp_lst h
    have ed := dpa_ints r
    subst ed
    refine ⟨l, ns, rfl, s.seq hq, fun ns' m hp _ hm => ?_⟩
    obtain ⟨f, t⟩ := new_tL s hm (ints_dpa ns')
    exact q _ _ _ f ⟨ns', hp, t⟩) he (fun _ => rfl)
end
end DL
set_option Elab.async false
set_option linter.all false
set_option maxRecDepth 100000
set_option maxHeartbeats 1000000
namespace DL
open PySem PySem.Spec PyProof.Rows L2
/-! ### [y for x in e for y in x] -/
theorem take_flat {α : Type} {ls : List (List α)} {i : Nat} {li : List α} (h : ls[i]? = some li) : (ls.take (i + 1)).flatten = (ls.take i).flatten ++ li := by
  rw [List.take_add_one, h]
  simp
theorem d_flat {C : Cc} {Γ : Gm} {e : Expr} {pos p1 p2 p3 p4 : Pos} {scope : Scope} {x1 x2 : Str} {ls : List (List PyData)} (n1 n2 : Nat) (ha : DE C e Γ (tD (.list (ls.map .list)))) (nd : C.N.Nodup) (hlen : ls.flatten.length ≤ 1000000)
    (s1 : Sto (C.blk scope) n1 x1) (s2 : Sto (C.blk scope) n2 x2) (hv1 : Vis (C.blk scope).sc x1) (hv2 : Vis (C.blk scope).sc x2) (hl1 : n1 < Γ.length) (hl2 : n2 < Γ.length) (h12 : n1 ≠ n2) (bk : blkC C.N C.sc scope [(x1, n1), (x2, n2)] = true := by kernel_rfl)
    (hd1 : (x1 == ("__debug__" : Str)) = false := by decide) (hcd1 : (x1 == ("__classdict__" : Str)) = false := by decide) (hd2 : (x2 == ("__debug__" : Str)) = false := by decide) (hcd2 : (x2 == ("__classdict__" : Str)) = false := by decide)
    (fs : ∀ env x, foldedSetIterable e env x = pure x := by intro _ _; rfl) :
    DE C (.ListComp (.Name x2 p4) [⟨.Name x1 p1, e, [], 0⟩, ⟨.Name x2 p2, .Name x1 p3, [], 0⟩] scope pos) Γ (tL ls.flatten) := by
  intro X ok G0 W G σ H Q s q
  have K1 : ∀ (s : Shared) (H : Hp) (A : Addr) (cl : List (Str × Addr)) (fp : List Addr), PI (X.blk s H scope (compEnvC scope cl A X.env) fp) (.Name x2 p2) (.Name x1 p3) (iList C.E.K (tVar n1)) := fun s H A cl fp => by
    have z := pi_list (tg := .Name x2 p2) (pe_n (pos := p3) (ok.blk scope s H A cl fp) s1.N hv1 hd1 hcd1)
    rw [(ok.blk scope s H A cl fp).K] at z
    exact z
  refine w_pe (pe_lc2 (own := [(x1, n1), (x2, n2)]) (vs1 := [n2]) (wi1 := iList C.E.K (tVar n1)) (g := gName n1) (g1 := gName n2) (tt := tYes) (tt1 := tYes) (te := tVar n2) ok.calm (by rw [ok.N]; exact nd) (pi_list pe_w) (by rw [ok.N, ok.sc]; exact blkOk_by bk) (by simp)
    (fun s H A cl fp => dg_name s1 _ (ok.blk scope s H A cl fp)) (fun _ _ _ _ _ => pts_nil) K1 (fun s H A cl fp => dg_name s2 _ (ok.blk scope s H A cl fp)) (fun _ _ _ _ _ => pts_nil) (fun s H A cl fp => pe_n (ok.blk scope s H A cl fp) s2.N hv2 hd2 hcd2) (fs _)) ?_
  refine ha X ok G0 W G σ H _ s fun x G1 H1 f1 px => ?_
  obtain ⟨l, xs, rfl, hq, r⟩ := dp_lst px
  refine ⟨l, rfl, ⟨xs, by rw [ok.K]; exact f1.s.seq hq⟩, ?_⟩
  rw [ok.K]
  have wk := wk_list hq r
  intro D hD
  have sD : Frm G1 H1 G1 (upd H1 D (.lst [])) := Frm.own f1.s hD
  refine ⟨fun i m H2 => i + m = ls.length ∧ ∃ (G2 : Hp) (ys : List V), Frm G H G2 H2 ∧ Same G1 G2 ∧ G2 D = none ∧ H2 D = some (.lst ys) ∧ DpAll C.E.K G2 ys (ls.take i).flatten,
    ⟨ls.length, by omega, G1, [], f1.trans sD, Same.refl _, f1.s.free hD, upd_same, .nil⟩, fun i m H2 ⟨em, G2, ys, f2, g2, gD, hD2, ry⟩ => ?_⟩
  have tot : ∀ (i : Nat) (li : List PyData) (j : Nat), ls[i]? = some li → ((ls.take i).flatten ++ li.take j).length ≤ 1000000 := fun i li j h => by
    have e1 := take_flat h
    have e2 : ls.flatten = (ls.take (i + 1)).flatten ++ (ls.drop (i + 1)).flatten := by
      rw [← List.flatten_append, List.take_append_drop]
    rw [e2, e1] at hlen
    simp only [List.length_append, List.length_take] at hlen ⊢
    omega
  by_cases hi : i < ls.length
  · obtain ⟨li, hli⟩ : ∃ li, ls[i]? = some li := ⟨_, List.getElem?_eq_getElem hi⟩
    have hd : (ls.map PyData.list)[i]? = some (.list li) := by
      rw [List.getElem?_map, hli]
      rfl
    obtain ⟨go, yl⟩ := wk.step i _ G2 H2 hd g2 f2.s
    refine .inr ⟨go, fun H3 => ∃ (G3 : Hp) (ys : List V), Frm G H G3 H3 ∧ Same G1 G3 ∧ G3 D = none ∧ H3 D = some (.lst ys) ∧ DpAll C.E.K G3 ys (ls.take (i + 1)).flatten, fun H3 h3 => ⟨m - 1, by omega, by omega, h3⟩, fun x H3 hy => ?_⟩
    obtain ⟨G3, f3, px⟩ := yl x H3 hy
    obtain ⟨l2, xs2, rfl, hq2, r2⟩ := dp_lst px
    have wk2 := wk_list hq2 r2
    have dne : H2 D ≠ none := by
      rw [hD2]
      intro z
      cases z
    have gl : n1 < (wipe σ (List.map (·.2) [(x1, n1), (x2, n2)])).length := by
      rw [wipe_length, s.len]
      exact hl1
    refine ⟨by rw [wipe_set (by simp), wipe_idem], ?_⟩
    unfold tYes
    dsimp only
    rw [if_pos rfl]
    refine ⟨_, List.getElem?_set_self gl, l2, rfl, ⟨xs2, f3.s.seq hq2⟩, ?_⟩
    refine ⟨fun j k H4 => j + k = li.length ∧ ∃ (G4 : Hp) (ys : List V), Frm G H G4 H4 ∧ Same G3 G4 ∧ G4 D = none ∧ H4 D = some (.lst ys) ∧ DpAll C.E.K G4 ys ((ls.take i).flatten ++ li.take j),
      ⟨li.length, by omega, G3, ys, f2.trans f3, Same.refl _, f3.o D dne gD, f3.h _ _ hD2, by rw [List.take_zero, List.append_nil]; exact dpa_mono f3.g ry⟩, fun j k H4 ⟨ek, G4, zs, f4, g4, gD4, hD4, rz⟩ => ?_⟩
    by_cases hj : j < li.length
    · obtain ⟨d, hd4⟩ : ∃ d, li[j]? = some d := ⟨_, List.getElem?_eq_getElem hj⟩
      obtain ⟨go2, yl2⟩ := wk2.step j _ G4 H4 hd4 g4 f4.s
      refine .inr ⟨go2, fun H5 => ∃ (G5 : Hp) (ys : List V), Frm G H G5 H5 ∧ Same G3 G5 ∧ G5 D = none ∧ H5 D = some (.lst ys) ∧ DpAll C.E.K G5 ys ((ls.take i).flatten ++ li.take (j + 1)), fun H5 h5 => ⟨k - 1, by omega, by omega, h5⟩, fun y H5 hy2 => ?_⟩
      obtain ⟨G5, f5, py⟩ := yl2 y H5 hy2
      have hD5 := f5.h _ _ hD4
      have gD5 : G5 D = none := f5.o D (by rw [hD4]; intro z; cases z) gD4
      have f : Frm G H G5 H5 := f4.trans f5
      refine ⟨by rw [wipe_set (by simp), wipe_idem], ?_⟩
      dsimp only
      rw [if_pos rfl]
      refine ⟨y, List.getElem?_set_self ?_, zs, hD5, small_lt ?_, G5, zs ++ [y], ⟨fun b o e => ?_, f.g, fun b o e => ?_, f.o⟩, g4.trans f5.g, gD5, upd_same, ?_⟩
      · rw [wipe_length, List.length_set, wipe_length, s.len]
        exact hl2
      · rw [dpa_len rz]
        exact tot i li j hli
      · rw [upd_ne (fun z : b = D => by subst z; rw [f1.h.free hD] at e; cases e)]
        exact f.h _ _ e
      · rw [upd_ne (fun z : b = D => by subst z; rw [gD5] at e; cases e)]
        exact f.s _ _ e
      · have e1 : li.take (j + 1) = li.take j ++ [d] := by
          rw [List.take_add_one, hd4]
          rfl
        rw [e1, ← List.append_assoc]
        exact dpa_app (dpa_mono f5.g rz) (.cons py .nil)
    · have ej : j = li.length := by omega
      subst ej
      refine .inl ⟨wk2.stop G4 H4 g4 f4.s, G4, zs, f4, g2.trans (f3.g.trans g4), gD4, hD4, ?_⟩
      rw [take_flat hli]
      rw [List.take_length] at rz
      exact rz
  · have ei : i = ls.length := by omega
    subst ei
    rw [List.take_length] at ry
    refine .inl ⟨by have := wk.stop G2 H2 g2 f2.s; rw [List.length_map] at this; exact this, ?_⟩
    refine q (.ref D) (upd G2 D (.lst ys)) H2 ⟨f2.h, f2.g.trans (same_new gD), fun b o e => ?_, fun b hb hg0 => ?_⟩ ⟨D, ys, rfl, upd_same, dpa_mono (same_new gD) ry⟩
    · by_cases hbp : b = D
      · subst hbp
        rw [upd_same] at e
        cases e
        exact hD2
      · rw [upd_ne hbp] at e
        exact f2.s _ _ e
    · rw [upd_ne (fun (z : b = D) => hb (by rw [z]; exact f1.h.free hD))]
      exact f2.o b hb hg0
/-! ### y = [.. for ..], y a plain local -/
section
variable {C : Cc} {Γ : Gm} {e tg elt iter : Expr} {ifs : List Expr} {scope : Scope} {g : TG} {js : List Nat} {α : Type} {R : Po} {rest : List Stmt} {y : Str} {py spos cpos : Pos}
theorem ds_lcM (n : Nat) (enc : α → PyData) (xs : List α) (h : α → PyData) (own : List (Str × Nat)) (it : DI C tg iter Γ (· = xs.map enc)) (nd : C.N.Nodup) (tg_ : DG (C.blk scope) tg g) (len : xs.length ≤ 1000000)
    (st : ∀ x ∈ xs, ∃ Γ', GR C.E.K g js (enc x) (wipeG Γ (own.map (·.2))) Γ' ∧ DE (C.blk scope) elt Γ' (tD (h x))) (hr : DS C rest (Γ.set n (some (sv (tL (xs.map h))))) R) (sto : Sto C n y) (hk : C.sc.kind = .function := by rfl)
    (hl : C.sc.names.lookup y = some .local := by rfl) (hline : (py.line == cpos.line) = true := by rfl) (ha : (scope.names.any fun (n, k) => n == y && (k == .local || k == .cell)) = false := by rfl)
    (bk : blkC C.N C.sc scope own = true := by kernel_rfl) (js_ : ∀ j ∈ js, j ∈ own.map (·.2) := by decide) (fs : ∀ env x, foldedSetIterable iter env x = pure x := by intro _ _; rfl) :
    DS C (.Assign [.Name y py] (.ListComp elt [⟨tg, iter, [], 0⟩] scope cpos) spos :: rest) Γ R :=
  ds_setLc (lcD (C := C) (Γ := Γ) (elt := elt) (ifs := []) (scope := scope) enc xs (fun x => some (h x)) own it nd tg_ len (fun x hx => by
    obtain ⟨Γ', gr, de⟩ := st x hx
    exact ⟨Γ', true, gr, dts_nil, (fun z => by cases z), fun _ => ⟨_, rfl, de⟩⟩) bk js_ fs) sto hk hl hline ha fun ds out e1 e2 => by
    subst e1
    rw [List.length_map, List.take_length, List.filterMap_eq_map'] at e2
    subst e2
    exact hr
theorem ds_lcI (n : Nat) {c : Expr} (enc : α → PyData) (xs : List α) (q : α → Bool) (h : α → PyData) (own : List (Str × Nat)) (it : DI C tg iter Γ (· = xs.map enc)) (nd : C.N.Nodup) (tg_ : DG (C.blk scope) tg g) (len : xs.length ≤ 1000000)
    (st : ∀ x ∈ xs, ∃ Γ', GR C.E.K g js (enc x) (wipeG Γ (own.map (·.2))) Γ' ∧ DT (C.blk scope) c Γ' (q x) ∧ (q x = true → DE (C.blk scope) elt Γ' (tD (h x)))) (hr : DS C rest (Γ.set n (some (sv (tL ((xs.filter q).map h))))) R) (sto : Sto C n y) (hk : C.sc.kind = .function := by rfl)
    (hl : C.sc.names.lookup y = some .local := by rfl) (hline : (py.line == cpos.line) = true := by rfl) (ha : (scope.names.any fun (n, k) => n == y && (k == .local || k == .cell)) = false := by rfl)
    (bk : blkC C.N C.sc scope own = true := by kernel_rfl) (js_ : ∀ j ∈ js, j ∈ own.map (·.2) := by decide) (fs : ∀ env x, foldedSetIterable iter env x = pure x := by intro _ _; rfl) :
    DS C (.Assign [.Name y py] (.ListComp elt [⟨tg, iter, [c], 0⟩] scope cpos) spos :: rest) Γ R :=
  ds_setLc (lc_if (C := C) (Γ := Γ) (elt := elt) (scope := scope) enc xs q h own it nd tg_ len st bk js_ fs) sto hk hl hline ha fun ds out e1 e2 => by
    subst e1
    rw [List.length_map, List.take_length, fm_if] at e2
    subst e2
    exact hr
end
end DL
set_option Elab.async false
set_option linter.all false
set_option maxRecDepth 100000
set_option maxHeartbeats 4000000
/-! tuple * 1 -/
namespace DLm
open PySem PySem.Spec PyProof.Rows L2
theorem tuple_mul1 (l : Addr) (items : Array Value) (n : Nat) (dd : Option Addr) (sl : Array (Option Value)) (u : Tok) :
    Meets (Builtin.«tuple.__mul__» ⟨[.ref l, .int 1 u], []⟩) (fun _ R s => s.heap.get? l = some { cls := .type "tuple", dict := dd, data := .seq items n, slots := sl } ∧ R (.ok (.ret (Value.ref l))) s) :=
  .of_wp fun prog w A R s h => by
    obtain ⟨hp, g, d, tk, os⟩ := s
    obtain ⟨hl, h⟩ := h
    have f1 := AutoSeq1.idx_int
    have c1 : (items.isEmpty || (1 : Int) == 1) = true := by simp
    wp_walk using wpAny_loadPart' hl
    repeat (first
      | (refine wpAny_ite_true (decide_eq_true c1) ?_; wp_walk using wpAny_loadPart' hl)
      | (refine wpAny_ite_false (decide_eq_false (by decide)) ?_; wp_walk using wpAny_loadPart' hl))
    exact ⟨_, rfl, h⟩
def rRep1 (K : PySem.W.Frag) : R2 := fun x y H Q => ∃ l xs, x = .ref l ∧ y = .int 1 ∧ SqT K H l xs ∧ Q (.ref l) H
section
variable {X : Cx}
theorem op_rep1 : OpR X (binaryOp .Mult) (rRep1 X.K) := by
  intro pins s σ H x y v u Q I rx ry h
  obtain ⟨l, xs, rfl, rfl, hT, q⟩ := h
  cases rx
  obtain ⟨t, rfl⟩ := ry
  obtain ⟨its, r, ⟨⟨cls, dd, data, sl⟩, ho, hc, n, hd⟩, hs⟩ := I.tuple hT
  simp only at hc hd
  subst hc hd
  refine wpAny_binaryOp_repeat_ref (T := "tuple") (U := "int") (by decide) ⟨_, ho, rfl⟩ (fun s' => typeIs_int s' 1 t) noFill_tuple_mul F.fills_int_mul F.slot_int_rmul repeat_tuple F.slot_int_index.lookup
    (call_meets F.slot_int_rmul (typeIs_int s 1 t) F.entry_int_rmul (F.args_int_rmul_2 _ _) (int_rmul_tuple 1 t l its.toArray n dd sl)
      ⟨ho, rfl, ⟨_, ho, rfl⟩, call_meets F.slot_tuple_mul ⟨_, ho, rfl⟩ F.entry_tuple_mul (F.args_tuple_mul_2 _ _) (tuple_mul1 l its.toArray n dd sl t) ⟨ho, ?_⟩⟩)
  exact ⟨.ref l, H, I, rfl, q⟩
end
end DLm
namespace DL
open PySem PySem.Spec PyProof.Rows L2
theorem d_mulT {C : Cc} {Γ : Gm} {a b : Expr} {pos : Pos} {ds : List PyData} {i : Int} (hne : ds ≠ []) (h1 : 1 ≤ i) (hi : i ≤ 1000) (hl : ds.length ≤ 1000) (ha : DE C a Γ (tD (.tuple ds))) (hb : DE C b Γ (tD (.int i))) : DE C (.BinOp a .Mult b pos) Γ (tD (.tuple (List.replicate i.toNat ds).flatten)) := by
  by_cases h : i = 1
  · subst h
    refine d_op (r := DLm.rRep1) (fun _ _ => DLm.op_rep1) ha hb fun G H x y Q s px py q => ?_
    obtain ⟨p, xs, rfl, hq, r⟩ := dp_tup px
    refine ⟨p, xs, rfl, dp_int py, same_t s hq, q _ G H (Frm.refl s) ?_⟩
    have e : (List.replicate (1 : Int).toNat ds).flatten = ds := by
      show (List.replicate 1 ds).flatten = ds
      simp
    rw [e]
    exact px
  · exact d_repT hne (by omega) hi hl ha hb
end DL
set_option Elab.async false
set_option linter.all false
set_option maxRecDepth 100000
set_option maxHeartbeats 2000000
/-! dicts whose keys are tuples of rows (a row: a tuple of ints, an empty tuple) -/
namespace DLk
open PySem PySem.Spec PyProof.Rows L2
abbrev kRow (l : List Int) : PyData := .tuple [.tuple (l.map .int), .tuple []]
abbrev kRows (rs : List (List Int)) : PyData := .tuple (rs.map kRow)
def nkRow (l : List Int) : NestedKey := .tup [.tup (l.map .num), .tup []]
def nkKey (rs : List (List Int)) : NestedKey := .tup (rs.map nkRow)
theorem map_inj {α β : Type} {f : α → β} (h : ∀ a b, f a = f b → a = b) : ∀ {l m : List α}, l.map f = m.map f → l = m
  | [], [], _ => rfl
  | [], _ :: _, e => by cases e
  | _ :: _, [], e => by cases e
  | a :: l, b :: m, e => by
    rw [List.map_cons, List.map_cons] at e
    injection e with e1 e2
    rw [h a b e1, map_inj h e2]
theorem nkKey_inj {rs rs' : List (List Int)} (e : nkKey rs = nkKey rs') : rs = rs' := by
  unfold nkKey at e
  injection e with e
  refine map_inj (fun a b e => ?_) e
  unfold nkRow at e
  injection e with e
  injection e with e1 e2
  injection e1 with e1
  exact map_inj (fun x y z => by injection z) e1
theorem depth_le (rs : List (List Int)) : (nkKey rs).depth ≤ 8 := by
  have h0 : ∀ l : List Int, NestedKey.depthAll (l.map .num) = 0 := fun l => by
    induction l with
    | nil => simp [NestedKey.depthAll]
    | cons x l ih => simp [NestedKey.depthAll, NestedKey.depth, ih]
  have h1 : ∀ l : List Int, (nkRow l).depth ≤ 2 := fun l => by
    unfold nkRow
    simp [NestedKey.depth, NestedKey.depthAll, h0]
  have h2 : ∀ rs : List (List Int), NestedKey.depthAll (rs.map nkRow) ≤ 2 := fun rs => by
    induction rs with
    | nil => simp [NestedKey.depthAll]
    | cons l rs ih =>
      have := h1 l
      simp [NestedKey.depthAll]
      omega
  have := h2 rs
  unfold nkKey
  simp [NestedKey.depth]
  omega
section
variable {X : Cx} {pins : List (Addr × Obj)} {σ : L2.St} {H : Hp} {s : Shared}
theorem nested_ints : ∀ {ns : List Int} {its : List Value}, Vals (ns.map V.int) its → NestedAll s.heap (ns.map .num) its
  | [], _, .nil => .nil
  | n :: ns, _, .cons r t => by
    obtain ⟨k, rfl⟩ := r
    exact .cons (.int _ _) (nested_ints t)
theorem nested_tup {v : V} {u : Value} {ds : List PyData} {ks : List NestedKey} (I : Inv X pins σ H s) (h : Dp X.K H v (.tuple ds)) (r : RelV v u) (hk : ∀ (vs : List V) (its : List Value), DpAll X.K H vs ds → Vals vs its → NestedAll s.heap ks its) : ∃ a, u = .ref a ∧ NestedIs s.heap (.tup ks) u := by
  obtain ⟨p, xs, rfl, hq, rd⟩ := DL.dp_tup h
  obtain ⟨its, rv, ⟨o, ho, hc, n, hd⟩, hz⟩ := I.tuple hq
  cases r
  refine ⟨p, rfl, .tup ho hc hd ?_⟩
  rw [List.toList_toArray]
  exact hk xs its rd rv
theorem nested_row {v : V} {u : Value} {l : List Int} (I : Inv X pins σ H s) (h : Dp X.K H v (kRow l)) (r : RelV v u) : NestedIs s.heap (nkRow l) u := by
  obtain ⟨a, _, z⟩ := nested_tup (ks := [.tup (l.map .num), .tup []]) I h r fun vs its d rv => by
    cases d with
    | cons d1 d =>
      cases d with
      | cons d2 d =>
        cases d
        cases rv with
        | cons r1 rv =>
          cases rv with
          | cons r2 rv =>
            cases rv
            obtain ⟨_, _, z1⟩ := nested_tup (ks := l.map .num) I d1 r1 fun vs its d rv => by
              have e := DL.dpa_ints d
              subst e
              exact nested_ints rv
            obtain ⟨_, _, z2⟩ := nested_tup (ks := []) I d2 r2 fun vs its d rv => by
              cases d
              cases rv
              exact .nil
            exact .cons z1 (.cons z2 .nil)
  exact z
theorem nested_key {v : V} {u : Value} {rs : List (List Int)} (I : Inv X pins σ H s) (h : Dp X.K H v (kRows rs)) (r : RelV v u) : ∃ a, u = .ref a ∧ (nestedKind X.prog X.w).is s.heap (nkKey rs) a := by
  obtain ⟨a, e, z⟩ := nested_tup (ks := rs.map nkRow) I h r fun vs its d rv => by
    have gen : ∀ {rs : List (List Int)} {vs : List V} {its : List Value}, DpAll X.K H vs (rs.map kRow) → Vals vs its → NestedAll s.heap (rs.map nkRow) its := fun {rs} => by
      induction rs with
      | nil =>
        intro vs its d rv
        cases d
        cases rv
        exact .nil
      | cons l rs ih =>
        intro vs its d rv
        cases d with
        | cons d1 d =>
          cases rv with
          | cons r1 rv => exact .cons (nested_row I d1 r1) (ih d rv)
    exact gen d rv
  subst e
  exact ⟨a, rfl, z, depth_le rs⟩
end
/-- the dict at d with these entries -/
def kdO (P : Program) (w : World) (d : Addr) (xs : List (NestedKey × Addr × Value)) : HO := .ext fun h => (d == sysModules) = false ∧ ∃ o es ep, h.get? d = some o ∧ o.ExactDict ∧ o.data = .dict es ep ∧ es.toList = xs.map (entryOfKey (nestedKind P w)) ∧ (xs.map (·.1)).Nodup
/-- keys by what they are -/
def Keys (K : PySem.W.Frag) (H : Hp) : List (List (List Int)) → List (NestedKey × Addr × Value) → Prop := DL.All2 fun k x => x.1 = nkKey k ∧ Dp K H (.ref x.2.1) (kRows k)
theorem Keys.mono {K : PySem.W.Frag} {H H' : Hp} {ks : List (List (List Int))} {xs : List (NestedKey × Addr × Value)} (e : Same H H') (h : Keys K H ks xs) : Keys K H' ks xs := DL.All2.imp (fun _ _ z => ⟨z.1, DL.dp_mono e z.2⟩) h
theorem Keys.mem {K : PySem.W.Frag} {H : Hp} : ∀ {ks : List (List (List Int))} {xs : List (NestedKey × Addr × Value)}, Keys K H ks xs → ∀ x ∈ xs, ∃ k ∈ ks, x.1 = nkKey k ∧ Dp K H (.ref x.2.1) (kRows k)
  | _, _, .nil, x, h => by cases h
  | _, _, .cons a r, x, h => by
    rcases List.mem_cons.mp h with e | h
    · subst e
      exact ⟨_, List.mem_cons_self .., a⟩
    · obtain ⟨k, hk, z⟩ := Keys.mem r x h
      exact ⟨k, List.mem_cons_of_mem _ hk, z⟩
theorem Keys.none {K : PySem.W.Frag} {H : Hp} {ks : List (List (List Int))} {xs : List (NestedKey × Addr × Value)} {rs : List (List Int)} (h : Keys K H ks xs) (hn : rs ∉ ks) : atKey xs (nkKey rs) = none := by
  unfold atKey
  rw [Option.map_eq_none_iff, List.find?_eq_none]
  intro x hx z
  obtain ⟨k, hk, e, _⟩ := h.mem x hx
  have := nkKey_inj (e.symm.trans (of_decide_eq_true z))
  subst this
  exact hn hk
section
variable {X : Cx} {pins : List (Addr × Obj)} {σ : L2.St} {H : Hp} {s : Shared}
theorem kd_of {d : Addr} {xs : List (NestedKey × Addr × Value)} {ks : List (List (List Int))} (I : Inv X pins σ H s) (e : H d = some (kdO X.prog X.w d xs)) (hk : Keys X.K H ks xs) : (d == sysModules) = false ∧ s.heap.DictOfH (nestedKind X.prog X.w) d xs := by
  obtain ⟨⟨hd, o, es, ep, ho, hx, hdat, he, hn⟩, _⟩ : ObjOk X.prog X.w H s.heap d (kdO X.prog X.w d xs) := I.hok d _ e
  refine ⟨hd, o, es, ep, ho, hx, hdat, he, fun x hxm => ?_, hn⟩
  obtain ⟨k, _, e1, e2⟩ := hk.mem x hxm
  obtain ⟨a, e3, z⟩ := nested_key I e2 (show RelV (.ref x.2.1) (.ref x.2.1) from rfl)
  cases e3
  rw [e1]
  exact z
theorem kd_new {P : Program} {w : World} {H : Hp} {h : Heap} {d : Addr} {xs : List (NestedKey × Addr × Value)} (hd : (d == sysModules) = false) (x : h.DictOfH (nestedKind P w) d xs) : ObjOk P w H h d (kdO P w d xs) := by
  obtain ⟨o, es, ep, ho, hx, hdat, he, _, hn⟩ := x
  exact ⟨⟨hd, o, es, ep, ho, hx, hdat, he, hn⟩, ⟨o, ho⟩, fun h1 h2 ⟨hd, o, es, ep, ho, r⟩ k => ⟨hd, o, es, ep, k o ho, r⟩⟩
/-- key in d, where it is not -/
def tKIn (P : Program) (w : World) (K : PySem.W.Frag) (ty td : TE) : TE := fun σ H Q => ty σ H fun y H1 => td σ H1 fun x H2 => ∃ a xs ks rs, x = .ref a ∧ H2 a = some (kdO P w a xs) ∧ Keys K H2 ks xs ∧ Dp K H2 y (kRows rs) ∧ rs ∉ ks ∧ Q (.bl false) H2
theorem pc_kin {o i : Expr} {td ty : TE} (hu : X.A.units + 64 < cLine) (hi : PE X i ty) (ho : PE X o td) : PC X .In i o (tKIn X.prog X.w X.K ty td) := by
  refine ⟨fun pins s σ H Q I h => ?_⟩
  refine thn (hi.run pins s σ H _ I h) fun iv s1 ⟨y, H1, I1, ry, q1⟩ => thn (ho.run pins s1 σ H1 _ I1 q1) fun u s2 ⟨x, H2, I2, rx, a, xs, ks, rs, ex, hd, hk, hy, hn, q2⟩ => ?_
  subst ex
  obtain rfl : u = Value.ref a := rx
  obtain ⟨b, rfl, hkey⟩ := nested_key I2 hy ry
  obtain ⟨hs, hm⟩ := kd_of I2 hd hk
  refine wpAny_in_heap (knd := nestedKind X.prog X.w) (by show X.A.units + 1 + 8 < cLine; omega) hkey hs hm ?_
  rw [hk.none hn]
  exact ⟨.bl false, H2, I2.kept fun _ _ e => e, rfl, q2⟩
/-- d[key] = v, the key not there -/
def sKPut (P : Program) (w : World) (K : PySem.W.Frag) (td ty tv : TE) : TS := fun D σ H => tv σ H fun v H1 => td σ H1 fun x H2 => ty σ H2 fun y H3 => ∃ a xs ks rs b, x = .ref a ∧ H3 a = some (kdO P w a xs) ∧ Keys K H3 ks xs ∧ xs.length ≤ 1000000 ∧ y = .ref b ∧ Dp K H3 y (kRows rs) ∧ rs ∉ ks ∧
  ∀ z : Value, D.nx σ (upd H3 a (kdO P w a (xs ++ [(nkKey rs, b, z)])))
theorem ps_kput {o i value : Expr} {td ty tv : TE} {pos pos' : Pos} (hu : X.A.units + 64 < cLine) (ho : PE X o td) (hi : PE X i ty) (hv : PE X value tv) (hs : swapsWith value (some (.Subscript o i pos')) pos.line X.env = pure false) :
    PS X (.Assign [.Subscript o i pos'] value pos) (sKPut X.prog X.w X.K td ty tv) := by
  refine ⟨fun pins s σ H D I h => ?_⟩
  refine wpAny_Assign_Subscript (thn (hv.run pins s σ H _ I h) fun r s1 ⟨v, H1, I1, rv, q1⟩ => thn (ho.run pins s1 σ H1 _ I1 q1) fun u s2 ⟨x, H2, I2, rx, q2⟩ => thn (hi.run pins s2 σ H2 _ I2 q2) fun iv s3 ⟨y, H3, I3, ry, a, xs, ks, rs, b, ex, hd, hk, hl, ey, hy, hn, q3⟩ => ?_) hs
  subst ex ey
  obtain rfl : u = Value.ref a := rx
  obtain ⟨b', e', hkey⟩ := nested_key I3 hy ry
  subst e'
  obtain rfl : b' = b := Value.ref.inj ry
  obtain ⟨hs', hm⟩ := kd_of I3 hd hk
  refine wpAny_setItem_heap (hsz := Nat.le_trans hl (by decide)) (knd := nestedKind X.prog X.w) (by show X.A.units + 1 + 8 < cLine; omega) hkey hm fun h' hm' sb => ?_
  rw [storedH_new (hk.none hn)] at hm'
  have he : ∃ q, h'.get? a = some q := let ⟨q, _, _, hq, _⟩ := hm'; ⟨q, hq⟩
  exact ⟨σ, _, I3.write (x := a) (e := a) (by rw [hd]; exact True.intro) (.inl rfl) (fun c ob hc e => (sb.2 c hc).trans e) he (kd_new hs' hm'), q3 r⟩
/-- {key: v} -/
def tKDisp (P : Program) (w : World) (K : PySem.W.Frag) (tk tv : TE) : TE := fun σ H Q => ∀ p, H p = none → tk σ (upd H p (kdO P w p [])) fun y H1 => tv σ H1 fun _ H2 => ∃ rs b, H2 p = some (kdO P w p []) ∧ y = .ref b ∧ Dp K H2 y (kRows rs) ∧ ∀ z : Value, Q (.ref p) (upd H2 p (kdO P w p [(nkKey rs, b, z)]))
theorem pe_kdisp {k v : Expr} {tk tv : TE} {pos : Pos} (hu : X.A.units + 64 < cLine) (hk : PE X k tk) (hv : PE X v tv) : PE X (.Dict [some k] [v] pos) (tKDisp X.prog X.w X.K tk tv) := by
  refine ⟨fun pins s σ H Q I q => ?_⟩
  have hn := I.hok.fresh (Nat.le_refl s.heap.objs.size)
  have hsm : (s.heap.objs.size == sysModules) = false := beq_eq_false_iff_ne.mpr (Ne.symm (Nat.ne_of_lt I.big))
  have I1 := I.laid (a := s.heap.objs.size) (o := kdO X.prog X.w s.heap.objs.size []) (h' := s.heap.push { cls := .type "dict", data := .dict #[] }) (t' := s.toks) (fun _ _ q => Heap.get?_push_of_some _ q) (Nat.le_refl _) (kd_new hsm (Heap.DictOfH.new s.heap))
  have hp : pairTrees [some k] [v] X.env pos ≠ [] := fun z => by
    have := pairTrees_length [some k] [v] X.env pos rfl rfl
    rw [z] at this
    cases this
  rw [arm_eval_Dict, zip_pairTrees [some k] [v] X.env pos rfl rfl, dictDisplay_pairs (pairTrees [some k] [v] X.env pos) hp (by rw [pairTrees_length [some k] [v] X.env pos rfl rfl]; exact Nat.le_of_ble_eq_true rfl)]
  refine wpAny_bind (wpAny_standAt (wpAny_bind (wpAny_subDictH (knd := nestedKind X.prog X.w) (Q := fun d s' => wpAny (model X.prog X.w) X.A (pure (Value.ref d)) (EP X pins σ Q) X.xe s') (by show X.A.units + 8 < cLine; omega) (by rw [pairTrees_length [some k] [v] X.env pos rfl rfl]; exact Nat.le_of_ble_eq_true rfl) ?_)))
  refine thn (pairTrees_cons_walk (thn (hk.run pins _ σ _ _ I1 (q _ hn)) fun u s1 ⟨y, H1, I1', ry, q1⟩ => thn (hv.run pins s1 σ H1 _ I1' q1) fun u2 s2 ⟨z, H2, I2, rz, rs, b, hd, ey, hy, q2⟩ => pairTrees_nil_walk ?_)) fun ws s3 h3 => h3
  subst ey
  obtain ⟨b', e', hkey⟩ := nested_key I2 hy ry
  subst e'
  obtain rfl : b' = b := Value.ref.inj ry
  obtain ⟨hs', hm⟩ := kd_of I2 hd (ks := []) .nil
  refine ⟨[(nkKey rs, b', u2)], ⟨rfl, rfl, hkey, trivial⟩, hm, fun h' tk hm' sb => wpAny_pure ?_⟩
  have hm2 : h'.DictOfH (nestedKind X.prog X.w) s.heap.objs.size [(nkKey rs, b', u2)] := hm'
  have he : ∃ q, h'.get? s.heap.objs.size = some q := let ⟨q, _, _, hq, _⟩ := hm2; ⟨q, hq⟩
  exact ⟨.ref _, _, I2.write (x := s.heap.objs.size) (e := s.heap.objs.size) (by rw [hd]; exact True.intro) (.inl rfl) (fun c ob hc e => (sb.2 c hc).trans e) he (kd_new hs' hm2), rfl, q2 u2⟩
end
end DLk
set_option Elab.async false
set_option linter.all false
set_option maxRecDepth 100000
set_option maxHeartbeats 1000000
namespace DL
open PySem PySem.Spec PyProof.Rows L2 DLk
/-- an own dict by its keys -/
def soK (P : Program) (w : World) (ks : List (List (List Int))) : Sl := ⟨fun K W G H v => ∃ (p : Addr) (xs : List (NestedKey × Addr × Value)), v = .ref p ∧ W p = none ∧ G p = none ∧ H p = some (kdO P w p xs) ∧ Keys K G ks xs, false,
  fun f ⟨p, xs, e, hw, hg, hh, r⟩ => ⟨p, xs, e, hw, f.o p (by rw [hh]; intro q; cases q) hg, f.h _ _ hh, r.mono f.g⟩, fun h => by cases h⟩
theorem keys_len {K : PySem.W.Frag} {H : Hp} {ks : List (List (List Int))} {xs : List (NestedKey × Addr × Value)} (h : Keys K H ks xs) : ks.length = xs.length := h.length
def pureBut2 (Γ : Gm) (n m : Nat) : Bool := (List.range Γ.length).all fun k => k == n || (k == m || match Γ[k]? with
  | some (some S) => S.pure
  | _ => true)
section
variable {C : Cc} {Γ : Gm} {T Ta Tb : Ty} {e a b c tg : Expr} {pos p p1 p2 : Pos} {R : Po} {rest : List Stmt} {n m : Nat} {x : Str} {ks : List (List (List Int))} {rs : List (List Int)}
theorem pureBut2_ok {k : Nat} {S : Sl} (h : pureBut2 Γ n m = true) (hn : k ≠ n) (hm : k ≠ m) (e : Γ[k]? = some (some S)) : S.pure = true := by
  unfold pureBut2 at h
  have := List.all_eq_true.mp h k (List.mem_range.mpr (List.getElem?_eq_some_iff.mp e).1)
  rw [e] at this
  simpa [hn, hm] using this
theorem Sat.upd2 {K : PySem.W.Frag} {G0 W G H : Hp} {σ : L2.St} {q : Addr} {o : HO} {S' : Sl} (s : Sat K G0 W Γ G σ H) (hl : n < Γ.length) (hv : σ[n]? = some (some (.ref q))) (hw : W q = none) (hg : G q = none) (h' : S'.P K W G (upd H q o) (.ref q))
    (oth : ∀ k S v, k ≠ n → Γ[k]? = some (some S) → S.P K W G H v → S.P K W G (upd H q o) v) : Sat K G0 W (Γ.set n (some S')) G σ (upd H q o) := by
  refine ⟨⟨fun b o e => ?_, s.fr.g, fun b o e => ?_, s.fr.o⟩, by rw [s.len, List.length_set], fun k S hk => ?_⟩
  · rw [upd_ne (fun z : b = q => by subst z; rw [hw] at e; cases e)]
    exact s.fr.h _ _ e
  · rw [upd_ne (fun z : b = q => by subst z; rw [hg] at e; cases e)]
    exact s.fr.s _ _ e
  · by_cases hkn : n = k
    · subst hkn
      rw [List.getElem?_set_self hl] at hk
      cases Option.some.inj (Option.some.inj hk)
      exact ⟨_, hv, h'⟩
    · rw [List.getElem?_set_ne hkn] at hk
      obtain ⟨v, ev, pv⟩ := s.at_ k S hk
      exact ⟨v, ev, oth k S v (fun z => hkn z.symm) hk pv⟩
theorem so_off {K : PySem.W.Frag} {W G H : Hp} {q : Addr} {o : HO} {φ : Heap → Prop} {ds : List PyData} {v : V} (hq : H q = some (.ext φ)) (h : (so ds).P K W G H v) : (so ds).P K W G (upd H q o) v := by
  obtain ⟨p, xs, e, hw, hg, hh, r⟩ := h
  exact ⟨p, xs, e, hw, hg, by rw [upd_ne (fun z : p = q => by rw [z, hq] at hh; cases hh)]; exact hh, r⟩
theorem soK_off {K : PySem.W.Frag} {P : Program} {w : World} {W G H : Hp} {q : Addr} {o : HO} {xs : List V} {v : V} (hq : H q = some (.lst xs)) (h : (soK P w ks).P K W G H v) : (soK P w ks).P K W G (upd H q o) v := by
  obtain ⟨p, xs, e, hw, hg, hh, r⟩ := h
  exact ⟨p, xs, e, hw, hg, by rw [upd_ne (fun z : p = q => by rw [z, hq] at hh; cases hh)]; exact hh, r⟩
/-- x = {key: v} -/
theorem ds_setK {dpos : Pos} (n : Nat) (hk : DE C a Γ (tD (kRows rs))) (hv : DE C b Γ T) (st : Sto C n x) (hr : DS C rest (Γ.set n (some (soK C.E.P C.E.w [rs]))) R) (hs : ∀ (env : Env) (l : Nat), env.scope = C.sc → swapsWith (.Dict [some a] [b] dpos) (some (.Name x p)) l env = pure false := by intro _ _ _; rfl) :
    DS C (.Assign [.Name x p] (.Dict [some a] [b] dpos) pos :: rest) Γ R := fun X ok G0 W G σ H D s f => by
  refine w_ps (pss_cons (ps_set (by rw [ok.N]; exact st.nd) (by rw [ok.N]; exact st.N) (by rw [ok.sc]; exact st.loc) (pe_kdisp ok.room.units pe_w pe_w) (hs _ _ ok.sc) (by rw [ok.fn, ok.sc]; exact st.fn)) ps_w) ?_
  intro q hq
  rw [ok.p, ok.w, ok.K]
  have f0 : Frm G H G (upd H q (kdO C.E.P C.E.w q [])) := Frm.own s.fr.s hq
  refine hk X ok G0 W G σ _ _ (s.step f0) fun y G1 H1 f1 py => ?_
  refine hv X ok G0 W G1 σ H1 _ ((s.step f0).step f1) fun z G2 H2 f2 pz => ?_
  obtain ⟨l, xs, rfl, hql, r⟩ := dp_tup py
  have f12 := f1.trans f2
  have hd := f12.h _ _ (upd_same (H := H) (a := q) (o := kdO C.E.P C.E.w q []))
  have hg2 : G2 q = none := f12.o q (by rw [upd_same]; intro z; cases z) (s.fr.s.free hq)
  refine ⟨rs, l, hd, rfl, dp_mono f12.s (dp_mono f2.g py), fun zv => ?_⟩
  have s2 := ((s.step f0).step f12)
  have sx : Sat C.E.K G0 W Γ G2 σ (upd H2 q (kdO C.E.P C.E.w q [(nkKey rs, l, zv)])) := by
    refine ⟨⟨fun b o e => ?_, s2.fr.g, fun b o e => ?_, s2.fr.o⟩, s2.len, fun k S hk' => ?_⟩
    · rw [upd_ne (fun z : b = q => by subst z; rw [s.fr.h.free hq] at e; cases e)]
      exact s2.fr.h _ _ e
    · rw [upd_ne (fun z : b = q => by subst z; rw [hg2] at e; cases e)]
      exact s2.fr.s _ _ e
    · obtain ⟨v, ev, pv⟩ := s.at_ k S hk'
      refine ⟨v, ev, S.keep (⟨fun b o e => ?_, f12.g, fun b o e => ?_, fun b hb hg => ?_⟩ : Frm G H G2 (upd H2 q (kdO C.E.P C.E.w q [(nkKey rs, l, zv)]))) pv⟩
      · rw [upd_ne (fun z : b = q => by subst z; rw [hq] at e; cases e)]
        exact (f0.trans f12).h _ _ e
      · rw [upd_ne (fun z : b = q => by subst z; rw [hg2] at e; cases e)]
        exact f12.s _ _ e
      · exact (f0.trans f12).o b hb hg
  exact hr X ok G0 W G2 _ _ D (sx.put n (S := soK C.E.P C.E.w [rs]) ⟨q, _, rfl, s.fr.h.free hq, hg2, upd_same, .cons ⟨rfl, dp_mono f2.g py⟩ .nil⟩) f
/-- key in x, where it is not -/
theorem dt_kin (n : Nat) (ha : DE C a Γ (tD (kRows rs))) (hn : rs ∉ ks) (hG : Γ[n]? = some (some (soK C.E.P C.E.w ks)) := by rfl) (hN : C.N[n]? = some x := by rfl) (hv : Vis C.sc x := by first | exact Or.inl rfl | exact Or.inr (Or.inl rfl) | exact Or.inr (Or.inr rfl))
    (hd : (x == ("__debug__" : Str)) = false := by decide) (hcd : (x == ("__classdict__" : Str)) = false := by decide) (hm : behindInMarks .In (.Name x p1) = false := by rfl) : DT C (.Compare a [.In] [.Name x p1] pos) Γ false := by
  intro X ok G0 W G σ H Q s q
  have z := pc_kin ok.room.units (pe_w (X := X) (e := a)) (pe_n (pos := p1) ok hN hv hd hcd)
  rw [ok.p, ok.w, ok.K] at z
  refine w_pt (pt_cmp z hm) ?_
  refine ha X ok G0 W G σ H _ s fun y G1 H1 f1 py => ?_
  obtain ⟨v, ev, l, xs, rfl, hw, hg, hh, r⟩ := (s.step f1).at_ n _ hG
  exact ⟨_, ev, l, xs, ks, rs, rfl, hh, r.mono f1.s, dp_mono f1.s py, hn, false, rfl, q G1 H1 f1⟩
/-- x[key] = e, the key not there; an own list at slot m besides -/
theorem ds_kput (n m : Nat) {dsm : List PyData} (he : DE C e Γ T) (hi : DE C b Γ (tD (kRows rs))) (hn : rs ∉ ks) (hl : ks.length ≤ 1000000) (hr : DS C rest (Γ.set n (some (soK C.E.P C.E.w (ks ++ [rs])))) R) (hG : Γ[n]? = some (some (soK C.E.P C.E.w ks)) := by rfl) (hGm : Γ[m]? = some (some (so dsm)) := by rfl)
    (hp : pureBut2 Γ n m = true := by rfl) (hN : C.N[n]? = some x := by rfl) (hv : Vis C.sc x := by first | exact Or.inl rfl | exact Or.inr (Or.inl rfl) | exact Or.inr (Or.inr rfl)) (hd : (x == ("__debug__" : Str)) = false := by decide) (hcd : (x == ("__classdict__" : Str)) = false := by decide)
    (hs : ∀ (env : Env) (l : Nat), swapsWith e (some (.Subscript (.Name x p1) b p2)) l env = pure false := by intro _ _; rfl) : DS C (.Assign [.Subscript (.Name x p1) b p2] e pos :: rest) Γ R := fun X ok G0 W G σ H D s f => by
  have z := ps_kput (pos := pos) (pos' := p2) ok.room.units (pe_n (pos := p1) ok hN hv hd hcd) (pe_w (X := X) (e := b)) (pe_w (X := X) (e := e)) (hs _ _)
  rw [ok.p, ok.w, ok.K] at z
  refine w_ps (pss_cons z ps_w) ?_
  refine he X ok G0 W G σ H _ s fun u G1 H1 f1 pu => ?_
  obtain ⟨v, ev, l, xs, rfl, hw, hg, hh, r⟩ := (s.step f1).at_ n _ hG
  refine ⟨_, ev, ?_⟩
  refine hi X ok G0 W G1 σ H1 _ (s.step f1) fun y G2 H2 f2 py => ?_
  have s2 := (s.step f1).step f2
  obtain ⟨v', ev', l', xs', e', hw', hg', hh', r'⟩ := s2.at_ n _ hG
  rw [ev] at ev'
  cases ev'
  cases e'
  obtain ⟨l2, ys, rfl, hq2, ry⟩ := dp_tup py
  refine ⟨l, xs', ks, rs, l2, rfl, hh', r'.mono f2.s, ?_, rfl, dp_mono f2.s py, hn, fun zv => ?_⟩
  · rw [← keys_len r']
    exact hl
  · refine hr X ok G0 W G2 σ _ D (s2.upd2 (S' := soK C.E.P C.E.w (ks ++ [rs])) (List.getElem?_eq_some_iff.mp hG).1 ev hw' hg' ⟨l, _, rfl, hw', hg', upd_same, ?_⟩ fun k S v hk hkS pv => ?_) f
    · exact all2_join r' (.cons ⟨rfl, py⟩ .nil)
    · by_cases hkm : k = m
      · subst hkm
        rw [hGm] at hkS
        cases Option.some.inj (Option.some.inj hkS)
        exact so_off hh' pv
      · exact S.any (pureBut2_ok hp hk hkm hkS) pv
/-- xs.append(e), an own dict at slot m besides -/
theorem ds_appK (n m : Nat) {apos : Pos} {d : PyData} {ds : List PyData} (he : DE C e Γ (tD d)) (hl : ds.length ≤ 1000000) (hr : DS C rest (Γ.set n (some (so (ds ++ [d])))) R) (hG : Γ[n]? = some (some (so ds)) := by rfl) (hGm : Γ[m]? = some (some (soK C.E.P C.E.w ks)) := by rfl)
    (hp : pureBut2 Γ n m = true := by rfl) (hN : C.N[n]? = some x := by rfl) (hv : Vis C.sc x := by first | exact Or.inl rfl | exact Or.inr (Or.inl rfl) | exact Or.inr (Or.inr rfl)) (hs : ∀ env : Env, starEach [e] env = (false, eval e env) :: starEach [] env := by intro _; rfl) (hline : (apos.endLine == pos.line) = true := by rfl)
    (hd : (x == ("__debug__" : Str)) = false := by decide) (hcd : (x == ("__classdict__" : Str)) = false := by decide) : DS C (.Expr (.Call (.Attribute (.Name x p1) "append" apos) [e] [] pos) p :: rest) Γ R := fun X ok G0 W G σ H D s f => by
  refine w_ps (pss_cons (ps_expr (pe_bm PySem.F.plainAttrs_list PySem.F.slot_list_append PySem.F.type_list_append mt_append (pe_n ok hN hv hd hcd) (pa_cons pe_w pa_nil (hs _)) rfl (by rw [hs]; rfl) hline (hs _) rfl)) ps_w) ?_
  obtain ⟨v, ev, q, xs, rfl, hw, hg, hh, r⟩ := s.at_ n _ hG
  refine ⟨_, ev, .inl ⟨rfl, xs, SqL.of hh⟩, ?_⟩
  refine he X ok G0 W G σ H _ s fun u G' H' f1 pu => ?_
  have s1 := s.step f1
  have hg' : G' q = none := f1.o q (by rw [hh]; intro z; cases z) hg
  have hh' : H' q = some (.lst xs) := f1.h _ _ hh
  refine ⟨q, xs, u, rfl, rfl, hh', small_lt (by rw [dpa_len r]; exact hl), ?_⟩
  refine hr X ok G0 W G' σ _ D (s1.upd2 (S' := so (ds ++ [d])) (List.getElem?_eq_some_iff.mp hG).1 ev hw hg' ⟨q, _, rfl, hw, hg', upd_same, dpa_app (dpa_mono f1.g r) (.cons pu .nil)⟩ fun k S v hk hkS pv => ?_) f
  by_cases hkm : k = m
  · subst hkm
    rw [hGm] at hkS
    cases Option.some.inj (Option.some.inj hkS)
    exact soK_off hh' pv
  · exact S.any (pureBut2_ok hp hk hkm hkS) pv
/-- a, b, c, d = (.., .., .., ..) -/
theorem ds_unp4 {n1 n2 n3 n4 : Nat} {x1 x2 x3 x4 : Str} {q1 q2 q3 q4 pt pt2 : Pos} {kt k2 : Nat} {e1 e2 e3 e4 : Expr} {S1 S2 S3 S4 : Sl} (h : DAS C [e1, e2, e3, e4] Γ [S1, S2, S3, S4]) (t1 : Sto C n1 x1) (t2 : Sto C n2 x2) (t3 : Sto C n3 x3) (t4 : Sto C n4 x4)
    (hr : DS C rest ((((Γ.set n1 (some S1)).set n2 (some S2)).set n3 (some S3)).set n4 (some S4)) R) (hs : ∀ (env : Env) (l : Nat), swapsWithSole [.Tuple [.Name x1 q1, .Name x2 q2, .Name x3 q3, .Name x4 q4] kt pt] (.Tuple [e1, e2, e3, e4] k2 pt2) l env = pure false := by intro _ _; rfl)
    (hw : ∀ env : Env, env.scope = C.sc → swappedStores [.Tuple [.Name x1 q1, .Name x2 q2, .Name x3 q3, .Name x4 q4] kt pt] (.Tuple [e1, e2, e3, e4] k2 pt2) env = pure none) :
    DS C (.Assign [.Tuple [.Name x1 q1, .Name x2 q2, .Name x3 q3, .Name x4 q4] kt pt] (.Tuple [e1, e2, e3, e4] k2 pt2) pos :: rest) Γ R := fun X ok G0 W G σ H D s f => by
  refine w_ps (pss_cons (ps_asg (pe_tup pa_w) (pg_tup ok.calm (pgs_cons (dg_name t1 X ok) (pgs_cons (dg_name t2 X ok) (pgs_cons (dg_name t3 X ok) (pgs_cons (dg_name t4 X ok) pgs_nil))))) (hs _ _) (hw _ ok.sc)) ps_w) ?_
  refine h X ok G0 W G σ H _ s fun vs G1 H1 f1 pv => ?_
  cases pv with
  | cons p1 pv =>
    cases pv with
    | cons p2 pv =>
      cases pv with
      | cons p3 pv =>
        cases pv with
        | cons p4 pv =>
          cases pv
          refine ⟨small_line (n := 4) (by decide), fun q hq => ?_⟩
          have f2 : ∀ o : HO, Frm G1 H1 G1 (upd H1 q o) := fun o => Frm.own f1.s hq
          refine ⟨q, _, rfl, SqT.of upd_same, rfl, _, _, rfl, _, _, rfl, _, _, rfl, _, _, rfl, rfl, ?_⟩
          exact hr X ok G0 W G1 _ _ D ((((((s.step f1).step (f2 _)).put n1 (S1.keep (f2 _) p1)).put n2 (S2.keep (f2 _) p2)).put n3 (S3.keep (f2 _) p3)).put n4 (S4.keep (f2 _) p4)) f
/-- targets of a value of a union -/
theorem ds_unpx {α : Type} {F : α → Prop} {dd : α → PyData} {g : TG} (he : DE C e Γ (tEx F fun z => tD (dd z))) (hg : DG C tg g) (hr : ∀ z, F z → ∃ js Γ', GR C.E.K g js (dd z) Γ Γ' ∧ DS C rest Γ' R) (hs : ∀ (env : Env) (l : Nat), swapsWithSole [tg] e l env = pure false := by intro _ _; rfl) (hw : ∀ env : Env, swappedStores [tg] e env = pure none := by intro _; rfl)
    (h1 : ∀ env : Env, (assignEach [tg] env).map (·.2) = [assign tg env] := by intro _; rfl) : DS C (.Assign [tg] e pos :: rest) Γ R := fun X ok G0 W G σ H D s f => by
  refine w_ps (pss_cons (ps_asg pe_w (hg X ok) (hs _ _) (hw _) (h1 _)) ps_w) ?_
  refine he X ok G0 W G σ H _ s fun v G' H' f1 ⟨z, fz, pv⟩ => ?_
  obtain ⟨js, Γ', gr, hd⟩ := hr z fz
  exact gr G0 W G' σ H' v _ (s.step f1) pv fun σ' _ s' => hd X ok G0 W G' σ' H' D s' f
theorem di_listx {α : Type} {F : α → Prop} {dd : α → List PyData} (h : DE C e Γ (tEx F fun z => tL (dd z))) : DI C tg e Γ (fun ds => ∃ z, F z ∧ ds = dd z) := fun X ok => ⟨_, pi_list pe_w, fun G0 W G σ H R s q => by
  refine h X ok G0 W G σ H _ s fun x G1 H1 f1 ⟨z, fz, px⟩ => ?_
  obtain ⟨l, xs, rfl, hq, r⟩ := dp_lst (tL_le _ _ _ px)
  refine ⟨l, rfl, ⟨xs, by rw [ok.K]; exact f1.s.seq hq⟩, ?_⟩
  rw [ok.K]
  exact q (dd z) _ G1 H1 ⟨z, fz, rfl⟩ f1 (wk_list hq r)⟩
end
end DL
set_option Elab.async false
set_option linter.all false
set_option maxRecDepth 100000
set_option maxHeartbeats 4000000
/-! zip(.., strict=True) over iterators of one length (printed by gen_zip.py; after the library's plain zip) -/
namespace PySem
namespace ZS
abbrev IsZipS (h : Heap) (z TI TO : Addr) (f0 : Value) : Prop := h.get? z = some { cls := .type "zip", dict := none, data := .fields #[f0, .bool false, .bool true, .ref TI, .ref TO], slots := #[] }
section
variable {prog : Program} {w : World} {A : Around} {E : Value → Shared → Prop} {s : Shared} {it : Addr} {fp : List Addr} {n i : Nat} {P : Nat → Value → Prop} {St : Nat → Heap → Prop}
theorem noe_item {Q : Option Value → Shared → Prop} (D : Draws prog w A it fp n P St) (hi : i < n) (st : St i s.heap) (h : ∀ x h' tk, P i x → St (i + 1) h' → Heap.SameBut it s.heap h' → Q (some x) { s with heap := h', toks := tk }) : wpAny (model prog w) A (Builtin.SmallTypes.nextOrEnd (.ref it)) Q E s := by
  unfold Builtin.SmallTypes.nextOrEnd
  exact wpAny_bind (wpAny_attempt (D.item i s _ _ hi st fun x h' tk px sn hs => wpAny_pure (h x h' tk px sn hs)))
theorem noe_done {Q : Option Value → Shared → Prop} (D : Draws prog w A it fp n P St) (st : St n s.heap) (h : ∀ h', Heap.ExtBut it s.heap h' → Q none { s with heap := h' }) : wpAny (model prog w) A (Builtin.SmallTypes.nextOrEnd (.ref it)) Q E s := by
  unfold Builtin.SmallTypes.nextOrEnd
  refine wpAny_bind (wpAny_attempt (D.done s _ _ st fun h' e hx he => ?_))
  obtain ⟨o, ho, hc⟩ := he
  refine wpAny_bind (wpAny_isInstance (T := "StopIteration") (b := true) ⟨o, ho, hc⟩ isSubtype_stop ?_)
  exact wpAny_pure (h h' hx)
theorem frameE {x : Addr} {h h' : Heap} (D : Draws prog w A it fp n P St) (st : St i h) (hq : Heap.ExtBut x h h') (hx : x ∉ fp) : St i h' := D.frame _ _ _ st fun b hb o e => hq b o (fun q => hx (q ▸ hb)) e
theorem stop_it {α : Type} {Q : α → Shared → Prop} (hh : A.handled = none) (h : ∀ h' e, (∀ b o, s.heap.get? b = some o → h'.get? b = some o) → (∃ o, h'.get? e = some o ∧ o.cls = .type "StopIteration") → E (.ref e) { s with heap := h' }) : wpAny (model prog w) A (Builtin.SmallTypes.stopIteration : Sem α) Q E s := by
  unfold Builtin.SmallTypes.stopIteration
  show wpAny _ _ (newExc (.type "StopIteration") [] >>= _) _ _ _
  refine wpAny_bind ?_
  simp only [newExc, newTuple]
  refine wpAny_bind (wpAny_newObj_type ?_ (by size_fits))
  refine wpAny_bind (m := firstArgMember _ _) (wpAny_of_eq (a := Value.none) (by first | rfl | (simp only [firstArgMember]; rfl)) ?_)
  refine wpAny_newObj_type ?_ (by size_fits)
  simp only [raiseNew]
  refine wpAny_bind (wpAny_handled ?_)
  first | rw [show A.in1.handled = none from hh] | rw [hh]
  refine wpAny_bind (wpAny_pure (wpAny_throw ?_))
  exact h _ _ (fun b o e => Heap.get?_push_of_some _ (Heap.get?_push_of_some _ e)) ⟨_, Heap.get?_push_size _ rfl, rfl⟩
end
section
variable {prog : Program} {w : World} {A : Around} {E : Value → Shared → Prop} {s : Shared} {z TI TO i1 i2 : Addr} {fp1 fp2 : List Addr} {n i : Nat} {P1 P2 : Nat → Value → Prop} {St1 St2 : Nat → Heap → Prop} {a1 a2 : Value}
theorem zipS2_item {Q : Value → Shared → Prop} (S : ZipSep2 z TI TO i1 i2 fp1 fp2) (D1 : Draws prog w A i1 fp1 n P1 St1) (D2 : Draws prog w A i2 fp2 n P2 St2)
    (hz : IsZipS s.heap z TI TO .none) (hTI : IsTupOf2 s.heap TI (.ref i1) (.ref i2)) (hTO : IsTupOf2 s.heap TO a1 a2) (st1 : St1 i s.heap) (st2 : St2 i s.heap) (hlt : i < n)
    (hQ : ∀ x1 x2 h' tk, P1 i x1 → P2 i x2 → IsZipS h' z TI TO (rawInt s.heap.objs.size) → IsTupOf2 h' TO x1 x2 → St1 (i + 1) h' → St2 (i + 1) h' → IsTupOf2 h' s.heap.objs.size x1 x2 → h'.objs.size = s.heap.objs.size + 1 →
      (∀ c o, c ≠ z → c ≠ TO → c ≠ i1 → c ≠ i2 → s.heap.get? c = some o → h'.get? c = some o) → Q (.ref s.heap.objs.size) { s with heap := h', toks := tk }) :
    wpAny (model prog w) A (Builtin.«zip.__next__» ⟨[.ref z], []⟩) (fun fin s' => ∃ v, fin = .done (.ret v) ∧ Q v s') E s := by
  obtain ⟨hp, g, d, tk0, os⟩ := s
  show wpAny _ _ (field (.ref z) 2 >>= _) _ _ _
  refine wpAny_bind (wpAny_field hz rfl (x := .bool true) rfl ?_)
  show wpAny _ _ (field (.ref z) 3 >>= _) _ _ _
  refine wpAny_bind (wpAny_field hz rfl (x := .ref TI) rfl ?_)
  refine wpAny_bind (wpAny_seqItems hTI rfl ?_)
  show wpAny _ _ (Builtin.SmallTypes.ownedTupleIsFree (.ref z) >>= _) _ _ _
  refine wpAny_bind ?_
  unfold Builtin.SmallTypes.ownedTupleIsFree
  refine wpAny_bind (wpAny_field hz rfl (x := .none) rfl (wpAny_pure ?_))
  simp only [if_true]
  refine wpAny_bind (wpAny_rule ?_)
  refine wpAny_bind (wpAny_field hz rfl (x := .ref TO) rfl ?_)
  refine wpAny_bind (wpAny_setField_rec hz (by simp) fun g0 hz0 hs0 => ?_)
  replace hz0 : IsZipS g0 z TI TO .ellipsis := hz0
  replace hs0 : Heap.SameBut z hp g0 := hs0
  refine wpAny_bind ?_
  simp only [List.zipIdx_cons, List.zipIdx_nil, List.forIn_cons, List.forIn_nil]
  refine wpAny_bind (wpAny_bind (wpAny_onRaise ?_))
  show wpAny _ _ (Builtin.SmallTypes.nextOrEnd (.ref i1)) _ _ ⟨g0, g, d, tk0, os⟩
  refine noe_item D1 hlt (D1.over st1 hs0 S.zf1) fun x1 p1 tk1 hx1 sn1 hp1 => ?_
  replace hp1 : Heap.SameBut i1 g0 p1 := hp1
  have hU1 : IsTupOf2 p1 TO a1 a2 := hp1.extBut _ _ S.Ti1 (hs0.extBut _ _ S.TOz hTO)
  refine wpAny_bind (wpAny_seqItems (s := ⟨p1, g, d, tk1, os⟩) hU1 rfl ?_)
  refine wpAny_bind (updateSeq_IsTupOf2 (s := ⟨p1, g, d, tk1, os⟩) hU1 fun g1 hT1 hs1 => ?_)
  replace hT1 : IsTupOf2 g1 TO x1 a2 := hT1
  replace hs1 : Heap.SameBut TO p1 g1 := hs1
  refine wpAny_bind (wpAny_letGo (wpAny_pure ?_))
  refine wpAny_bind (wpAny_bind (wpAny_onRaise ?_))
  show wpAny _ _ (Builtin.SmallTypes.nextOrEnd (.ref i2)) _ _ ⟨g1, g, d, tk1, os⟩
  refine noe_item D2 hlt (D2.over (D2.over (D2.over st2 hs0 S.zf2) hp1 S.sep1_2) hs1 S.Tf2) fun x2 p2 tk2 hx2 sn2 hp2 => ?_
  replace hp2 : Heap.SameBut i2 g1 p2 := hp2
  have hU2 : IsTupOf2 p2 TO x1 a2 := hp2.extBut _ _ S.Ti2 hT1
  refine wpAny_bind (wpAny_seqItems (s := ⟨p2, g, d, tk2, os⟩) hU2 rfl ?_)
  refine wpAny_bind (updateSeq_IsTupOf2 (s := ⟨p2, g, d, tk2, os⟩) hU2 fun g2 hT2 hs2 => ?_)
  replace hT2 : IsTupOf2 g2 TO x1 x2 := hT2
  replace hs2 : Heap.SameBut TO p2 g2 := hs2
  refine wpAny_bind (wpAny_letGo (wpAny_pure (wpAny_pure ?_)))
  refine wpAny_bind (wpAny_seqItems (s := ⟨g2, g, d, tk2, os⟩) hT2 rfl ?_)
  refine wpAny_bind (wpAny_newTuple ?_)
  have hsz : g2.objs.size = hp.objs.size := by rw [hs2.1, hp2.1, hs1.1, hp1.1, hs0.1]
  have hzz : IsZipS g2 z TI TO .ellipsis := (hs2.extBut _ _ S.TOz.symm (hp2.extBut _ _ S.zi2 (hs1.extBut _ _ S.TOz.symm (hp1.extBut _ _ S.zi1 hz0))))
  have hkk : ∀ c o, c ≠ z → c ≠ TO → c ≠ i1 → c ≠ i2 → hp.get? c = some o → g2.get? c = some o := fun c o cz cT c1 c2 e => (hs2.extBut _ _ cT (hp2.extBut _ _ c2 (hs1.extBut _ _ cT (hp1.extBut _ _ c1 (hs0.extBut _ _ cz e)))))
  have hj1 : St1 (i + 1) g2 := (D1.over (D1.over (D1.over sn1 hs1 S.Tf1) hp2 S.sep2_1) hs2 S.Tf1)
  have hj2 : St2 (i + 1) g2 := (D2.over sn2 hs2 S.Tf2)
  have hzlt : z < g2.objs.size := Heap.lt_size hzz
  show wpAny _ _ (Builtin.SmallTypes.ownedTupleHandOut (.ref z) (.ref g2.objs.size) >>= _) _ _ ⟨g2.push { cls := .type "tuple", data := .seq #[x1, x2] }, g, d, tk2, os⟩
  refine wpAny_bind ?_
  unfold Builtin.SmallTypes.ownedTupleHandOut
  have hz₆ : IsZipS (g2.push { cls := .type "tuple", data := .seq #[x1, x2] }) z TI TO .ellipsis := Heap.get?_push_of_some _ hzz
  refine wpAny_bind (wpAny_setField_rec hz₆ (by simp) fun h₇ hz₇ hs₇ => ?_)
  replace hz₇ : IsZipS h₇ z TI TO (rawInt g2.objs.size) := hz₇
  refine wpAny_setField_rec hz₇ (by simp) fun h₈ hz₈ hs₈ => ?_
  replace hz₈ : IsZipS h₈ z TI TO (rawInt g2.objs.size) := hz₈
  replace hs₇ : Heap.SameBut z (g2.push { cls := .type "tuple", data := .seq #[x1, x2] }) h₇ := hs₇
  replace hs₈ : Heap.SameBut z h₇ h₈ := hs₈
  have up : ∀ c o, c ≠ z → g2.get? c = some o → h₈.get? c = some o := fun c o c1 e => hs₈.extBut _ _ c1 (hs₇.extBut _ _ c1 (Heap.get?_push_of_some _ e))
  have hT₈ : IsTupOf2 h₈ g2.objs.size x1 x2 := hs₈.extBut _ _ (Nat.ne_of_gt hzlt) (hs₇.extBut _ _ (Nat.ne_of_gt hzlt) (Heap.get?_push_size _ rfl))
  have hz8 : h₈.objs.size = g2.objs.size + 1 := by rw [hs₈.1, hs₇.1, Heap.size_push]
  rw [hsz] at hz₈ hT₈ hz8
  refine wpAny_pure ⟨_, rfl, ?_⟩
  show Q (.ref g2.objs.size) ⟨h₈, g, d, tk2, os⟩
  rw [hsz]
  exact hQ x1 x2 h₈ tk2 hx1 hx2 hz₈ (up _ _ S.TOz hT2) (D1.frame _ _ _ hj1 fun b hb o e => up b o (fun q => S.zf1 (q ▸ hb)) e) (D2.frame _ _ _ hj2 fun b hb o e => up b o (fun q => S.zf2 (q ▸ hb)) e) hT₈ hz8 fun c o cz cT c1 c2 e => up c o cz (hkk c o cz cT c1 c2 e)
theorem zipS2_end {Q : Fin → Shared → Prop} (hh : A.handled = none) (S : ZipSep2 z TI TO i1 i2 fp1 fp2) (D1 : Draws prog w A i1 fp1 n P1 St1) (D2 : Draws prog w A i2 fp2 n P2 St2)
    (hz : IsZipS s.heap z TI TO .none) (hTI : IsTupOf2 s.heap TI (.ref i1) (.ref i2)) (hTO : IsTupOf2 s.heap TO a1 a2) (st1 : St1 n s.heap) (st2 : St2 n s.heap)
    (hE : ∀ h' tk e, (∀ c o, c ≠ z → c ≠ TO → c ≠ i1 → c ≠ i2 → s.heap.get? c = some o → h'.get? c = some o) → (∃ o, h'.get? e = some o ∧ o.cls = .type "StopIteration") → E (.ref e) { s with heap := h', toks := tk }) :
    wpAny (model prog w) A (Builtin.«zip.__next__» ⟨[.ref z], []⟩) Q E s := by
  obtain ⟨hp, g, d, tk0, os⟩ := s
  show wpAny _ _ (field (.ref z) 2 >>= _) _ _ _
  refine wpAny_bind (wpAny_field hz rfl (x := .bool true) rfl ?_)
  show wpAny _ _ (field (.ref z) 3 >>= _) _ _ _
  refine wpAny_bind (wpAny_field hz rfl (x := .ref TI) rfl ?_)
  refine wpAny_bind (wpAny_seqItems hTI rfl ?_)
  show wpAny _ _ (Builtin.SmallTypes.ownedTupleIsFree (.ref z) >>= _) _ _ _
  refine wpAny_bind ?_
  unfold Builtin.SmallTypes.ownedTupleIsFree
  refine wpAny_bind (wpAny_field hz rfl (x := .none) rfl (wpAny_pure ?_))
  simp only [if_true]
  refine wpAny_bind (wpAny_rule ?_)
  refine wpAny_bind (wpAny_field hz rfl (x := .ref TO) rfl ?_)
  refine wpAny_bind (wpAny_setField_rec hz (by simp) fun g0 hz0 hs0 => ?_)
  replace hz0 : IsZipS g0 z TI TO .ellipsis := hz0
  replace hs0 : Heap.SameBut z hp g0 := hs0
  refine wpAny_bind ?_
  simp only [List.zipIdx_cons, List.zipIdx_nil, List.forIn_cons, List.forIn_nil]
  refine wpAny_bind (wpAny_bind (wpAny_onRaise ?_))
  show wpAny _ _ (Builtin.SmallTypes.nextOrEnd (.ref i1)) _ _ ⟨g0, g, d, tk0, os⟩
  refine noe_done D1 (D1.over st1 hs0 S.zf1) fun q1 hq1 => ?_
  replace hq1 : Heap.ExtBut i1 g0 q1 := hq1
  have hzq : IsZipS q1 z TI TO .ellipsis := hq1 _ _ S.zi1 hz0
  show wpAny _ _ (setField (.ref z) 0 .none >>= _) _ _ ⟨q1, g, d, tk0, os⟩
  refine wpAny_bind (wpAny_setField_rec (s := ⟨q1, g, d, tk0, os⟩) hzq (by simp) fun r1 hzr hr1 => ?_)
  replace hr1 : Heap.SameBut z q1 r1 := hr1
  refine wpAny_bind ?_
  show wpAny _ _ (forIn (([Value.ref i1, Value.ref i2].drop 1).zipIdx 1) PUnit.unit _ >>= _) _ _ _
  refine wpAny_bind ?_
  simp only [List.drop_succ_cons, List.drop_zero, List.zipIdx_cons, List.zipIdx_nil, List.forIn_cons, List.forIn_nil]
  refine wpAny_bind (wpAny_bind ?_)
  show wpAny _ _ (Builtin.SmallTypes.nextOrEnd (.ref i2)) _ _ ⟨r1, g, d, tk0, os⟩
  refine noe_done D2 (D2.over (frameE D2 (D2.over st2 hs0 S.zf2) hq1 S.sep1_2) hr1 S.zf2) fun q2 hq2 => ?_
  replace hq2 : Heap.ExtBut i2 r1 q2 := hq2
  show wpAny _ _ (pure _) _ _ _
  refine wpAny_pure ?_
  refine wpAny_pure ?_
  show wpAny _ _ (rule _ >>= _) _ _ _
  refine wpAny_bind (wpAny_rule ?_)
  exact stop_it (s := ⟨q2, g, d, tk0, os⟩) hh fun h' e hk he => hE h' tk0 e (fun c o cz cT c1 c2 e => hk _ _ (hq2 _ _ c2 (hr1.extBut _ _ cz (hq1 _ _ c1 (hs0.extBut _ _ cz e))))) he
end
section
variable {prog : Program} {w : World} {A : Around} {E : Value → Shared → Prop} {s : Shared} {z TI TO i1 i2 i3 : Addr} {fp1 fp2 fp3 : List Addr} {n i : Nat} {P1 P2 P3 : Nat → Value → Prop} {St1 St2 St3 : Nat → Heap → Prop} {a1 a2 a3 : Value}
theorem zipS3_item {Q : Value → Shared → Prop} (S : ZipSep3 z TI TO i1 i2 i3 fp1 fp2 fp3) (D1 : Draws prog w A i1 fp1 n P1 St1) (D2 : Draws prog w A i2 fp2 n P2 St2) (D3 : Draws prog w A i3 fp3 n P3 St3)
    (hz : IsZipS s.heap z TI TO .none) (hTI : IsTupOf3 s.heap TI (.ref i1) (.ref i2) (.ref i3)) (hTO : IsTupOf3 s.heap TO a1 a2 a3) (st1 : St1 i s.heap) (st2 : St2 i s.heap) (st3 : St3 i s.heap) (hlt : i < n)
    (hQ : ∀ x1 x2 x3 h' tk, P1 i x1 → P2 i x2 → P3 i x3 → IsZipS h' z TI TO (rawInt s.heap.objs.size) → IsTupOf3 h' TO x1 x2 x3 → St1 (i + 1) h' → St2 (i + 1) h' → St3 (i + 1) h' → IsTupOf3 h' s.heap.objs.size x1 x2 x3 → h'.objs.size = s.heap.objs.size + 1 →
      (∀ c o, c ≠ z → c ≠ TO → c ≠ i1 → c ≠ i2 → c ≠ i3 → s.heap.get? c = some o → h'.get? c = some o) → Q (.ref s.heap.objs.size) { s with heap := h', toks := tk }) :
    wpAny (model prog w) A (Builtin.«zip.__next__» ⟨[.ref z], []⟩) (fun fin s' => ∃ v, fin = .done (.ret v) ∧ Q v s') E s := by
  obtain ⟨hp, g, d, tk0, os⟩ := s
  show wpAny _ _ (field (.ref z) 2 >>= _) _ _ _
  refine wpAny_bind (wpAny_field hz rfl (x := .bool true) rfl ?_)
  show wpAny _ _ (field (.ref z) 3 >>= _) _ _ _
  refine wpAny_bind (wpAny_field hz rfl (x := .ref TI) rfl ?_)
  refine wpAny_bind (wpAny_seqItems hTI rfl ?_)
  show wpAny _ _ (Builtin.SmallTypes.ownedTupleIsFree (.ref z) >>= _) _ _ _
  refine wpAny_bind ?_
  unfold Builtin.SmallTypes.ownedTupleIsFree
  refine wpAny_bind (wpAny_field hz rfl (x := .none) rfl (wpAny_pure ?_))
  simp only [if_true]
  refine wpAny_bind (wpAny_rule ?_)
  refine wpAny_bind (wpAny_field hz rfl (x := .ref TO) rfl ?_)
  refine wpAny_bind (wpAny_setField_rec hz (by simp) fun g0 hz0 hs0 => ?_)
  replace hz0 : IsZipS g0 z TI TO .ellipsis := hz0
  replace hs0 : Heap.SameBut z hp g0 := hs0
  refine wpAny_bind ?_
  simp only [List.zipIdx_cons, List.zipIdx_nil, List.forIn_cons, List.forIn_nil]
  refine wpAny_bind (wpAny_bind (wpAny_onRaise ?_))
  show wpAny _ _ (Builtin.SmallTypes.nextOrEnd (.ref i1)) _ _ ⟨g0, g, d, tk0, os⟩
  refine noe_item D1 hlt (D1.over st1 hs0 S.zf1) fun x1 p1 tk1 hx1 sn1 hp1 => ?_
  replace hp1 : Heap.SameBut i1 g0 p1 := hp1
  have hU1 : IsTupOf3 p1 TO a1 a2 a3 := hp1.extBut _ _ S.Ti1 (hs0.extBut _ _ S.TOz hTO)
  refine wpAny_bind (wpAny_seqItems (s := ⟨p1, g, d, tk1, os⟩) hU1 rfl ?_)
  refine wpAny_bind (updateSeq_IsTupOf3 (s := ⟨p1, g, d, tk1, os⟩) hU1 fun g1 hT1 hs1 => ?_)
  replace hT1 : IsTupOf3 g1 TO x1 a2 a3 := hT1
  replace hs1 : Heap.SameBut TO p1 g1 := hs1
  refine wpAny_bind (wpAny_letGo (wpAny_pure ?_))
  refine wpAny_bind (wpAny_bind (wpAny_onRaise ?_))
  show wpAny _ _ (Builtin.SmallTypes.nextOrEnd (.ref i2)) _ _ ⟨g1, g, d, tk1, os⟩
  refine noe_item D2 hlt (D2.over (D2.over (D2.over st2 hs0 S.zf2) hp1 S.sep1_2) hs1 S.Tf2) fun x2 p2 tk2 hx2 sn2 hp2 => ?_
  replace hp2 : Heap.SameBut i2 g1 p2 := hp2
  have hU2 : IsTupOf3 p2 TO x1 a2 a3 := hp2.extBut _ _ S.Ti2 hT1
  refine wpAny_bind (wpAny_seqItems (s := ⟨p2, g, d, tk2, os⟩) hU2 rfl ?_)
  refine wpAny_bind (updateSeq_IsTupOf3 (s := ⟨p2, g, d, tk2, os⟩) hU2 fun g2 hT2 hs2 => ?_)
  replace hT2 : IsTupOf3 g2 TO x1 x2 a3 := hT2
  replace hs2 : Heap.SameBut TO p2 g2 := hs2
  refine wpAny_bind (wpAny_letGo (wpAny_pure ?_))
  refine wpAny_bind (wpAny_bind (wpAny_onRaise ?_))
  show wpAny _ _ (Builtin.SmallTypes.nextOrEnd (.ref i3)) _ _ ⟨g2, g, d, tk2, os⟩
  refine noe_item D3 hlt (D3.over (D3.over (D3.over (D3.over (D3.over st3 hs0 S.zf3) hp1 S.sep1_3) hs1 S.Tf3) hp2 S.sep2_3) hs2 S.Tf3) fun x3 p3 tk3 hx3 sn3 hp3 => ?_
  replace hp3 : Heap.SameBut i3 g2 p3 := hp3
  have hU3 : IsTupOf3 p3 TO x1 x2 a3 := hp3.extBut _ _ S.Ti3 hT2
  refine wpAny_bind (wpAny_seqItems (s := ⟨p3, g, d, tk3, os⟩) hU3 rfl ?_)
  refine wpAny_bind (updateSeq_IsTupOf3 (s := ⟨p3, g, d, tk3, os⟩) hU3 fun g3 hT3 hs3 => ?_)
  replace hT3 : IsTupOf3 g3 TO x1 x2 x3 := hT3
  replace hs3 : Heap.SameBut TO p3 g3 := hs3
  refine wpAny_bind (wpAny_letGo (wpAny_pure (wpAny_pure ?_)))
  refine wpAny_bind (wpAny_seqItems (s := ⟨g3, g, d, tk3, os⟩) hT3 rfl ?_)
  refine wpAny_bind (wpAny_newTuple ?_)
  have hsz : g3.objs.size = hp.objs.size := by rw [hs3.1, hp3.1, hs2.1, hp2.1, hs1.1, hp1.1, hs0.1]
  have hzz : IsZipS g3 z TI TO .ellipsis := (hs3.extBut _ _ S.TOz.symm (hp3.extBut _ _ S.zi3 (hs2.extBut _ _ S.TOz.symm (hp2.extBut _ _ S.zi2 (hs1.extBut _ _ S.TOz.symm (hp1.extBut _ _ S.zi1 hz0))))))
  have hkk : ∀ c o, c ≠ z → c ≠ TO → c ≠ i1 → c ≠ i2 → c ≠ i3 → hp.get? c = some o → g3.get? c = some o := fun c o cz cT c1 c2 c3 e => (hs3.extBut _ _ cT (hp3.extBut _ _ c3 (hs2.extBut _ _ cT (hp2.extBut _ _ c2 (hs1.extBut _ _ cT (hp1.extBut _ _ c1 (hs0.extBut _ _ cz e)))))))
  have hj1 : St1 (i + 1) g3 := (D1.over (D1.over (D1.over (D1.over (D1.over sn1 hs1 S.Tf1) hp2 S.sep2_1) hs2 S.Tf1) hp3 S.sep3_1) hs3 S.Tf1)
  have hj2 : St2 (i + 1) g3 := (D2.over (D2.over (D2.over sn2 hs2 S.Tf2) hp3 S.sep3_2) hs3 S.Tf2)
  have hj3 : St3 (i + 1) g3 := (D3.over sn3 hs3 S.Tf3)
  have hzlt : z < g3.objs.size := Heap.lt_size hzz
  show wpAny _ _ (Builtin.SmallTypes.ownedTupleHandOut (.ref z) (.ref g3.objs.size) >>= _) _ _ ⟨g3.push { cls := .type "tuple", data := .seq #[x1, x2, x3] }, g, d, tk3, os⟩
  refine wpAny_bind ?_
  unfold Builtin.SmallTypes.ownedTupleHandOut
  have hz₆ : IsZipS (g3.push { cls := .type "tuple", data := .seq #[x1, x2, x3] }) z TI TO .ellipsis := Heap.get?_push_of_some _ hzz
  refine wpAny_bind (wpAny_setField_rec hz₆ (by simp) fun h₇ hz₇ hs₇ => ?_)
  replace hz₇ : IsZipS h₇ z TI TO (rawInt g3.objs.size) := hz₇
  refine wpAny_setField_rec hz₇ (by simp) fun h₈ hz₈ hs₈ => ?_
  replace hz₈ : IsZipS h₈ z TI TO (rawInt g3.objs.size) := hz₈
  replace hs₇ : Heap.SameBut z (g3.push { cls := .type "tuple", data := .seq #[x1, x2, x3] }) h₇ := hs₇
  replace hs₈ : Heap.SameBut z h₇ h₈ := hs₈
  have up : ∀ c o, c ≠ z → g3.get? c = some o → h₈.get? c = some o := fun c o c1 e => hs₈.extBut _ _ c1 (hs₇.extBut _ _ c1 (Heap.get?_push_of_some _ e))
  have hT₈ : IsTupOf3 h₈ g3.objs.size x1 x2 x3 := hs₈.extBut _ _ (Nat.ne_of_gt hzlt) (hs₇.extBut _ _ (Nat.ne_of_gt hzlt) (Heap.get?_push_size _ rfl))
  have hz8 : h₈.objs.size = g3.objs.size + 1 := by rw [hs₈.1, hs₇.1, Heap.size_push]
  rw [hsz] at hz₈ hT₈ hz8
  refine wpAny_pure ⟨_, rfl, ?_⟩
  show Q (.ref g3.objs.size) ⟨h₈, g, d, tk3, os⟩
  rw [hsz]
  exact hQ x1 x2 x3 h₈ tk3 hx1 hx2 hx3 hz₈ (up _ _ S.TOz hT3) (D1.frame _ _ _ hj1 fun b hb o e => up b o (fun q => S.zf1 (q ▸ hb)) e) (D2.frame _ _ _ hj2 fun b hb o e => up b o (fun q => S.zf2 (q ▸ hb)) e) (D3.frame _ _ _ hj3 fun b hb o e => up b o (fun q => S.zf3 (q ▸ hb)) e) hT₈ hz8 fun c o cz cT c1 c2 c3 e => up c o cz (hkk c o cz cT c1 c2 c3 e)
theorem zipS3_end {Q : Fin → Shared → Prop} (hh : A.handled = none) (S : ZipSep3 z TI TO i1 i2 i3 fp1 fp2 fp3) (D1 : Draws prog w A i1 fp1 n P1 St1) (D2 : Draws prog w A i2 fp2 n P2 St2) (D3 : Draws prog w A i3 fp3 n P3 St3)
    (hz : IsZipS s.heap z TI TO .none) (hTI : IsTupOf3 s.heap TI (.ref i1) (.ref i2) (.ref i3)) (hTO : IsTupOf3 s.heap TO a1 a2 a3) (st1 : St1 n s.heap) (st2 : St2 n s.heap) (st3 : St3 n s.heap)
    (hE : ∀ h' tk e, (∀ c o, c ≠ z → c ≠ TO → c ≠ i1 → c ≠ i2 → c ≠ i3 → s.heap.get? c = some o → h'.get? c = some o) → (∃ o, h'.get? e = some o ∧ o.cls = .type "StopIteration") → E (.ref e) { s with heap := h', toks := tk }) :
    wpAny (model prog w) A (Builtin.«zip.__next__» ⟨[.ref z], []⟩) Q E s := by
  obtain ⟨hp, g, d, tk0, os⟩ := s
  show wpAny _ _ (field (.ref z) 2 >>= _) _ _ _
  refine wpAny_bind (wpAny_field hz rfl (x := .bool true) rfl ?_)
  show wpAny _ _ (field (.ref z) 3 >>= _) _ _ _
  refine wpAny_bind (wpAny_field hz rfl (x := .ref TI) rfl ?_)
  refine wpAny_bind (wpAny_seqItems hTI rfl ?_)
  show wpAny _ _ (Builtin.SmallTypes.ownedTupleIsFree (.ref z) >>= _) _ _ _
  refine wpAny_bind ?_
  unfold Builtin.SmallTypes.ownedTupleIsFree
  refine wpAny_bind (wpAny_field hz rfl (x := .none) rfl (wpAny_pure ?_))
  simp only [if_true]
  refine wpAny_bind (wpAny_rule ?_)
  refine wpAny_bind (wpAny_field hz rfl (x := .ref TO) rfl ?_)
  refine wpAny_bind (wpAny_setField_rec hz (by simp) fun g0 hz0 hs0 => ?_)
  replace hz0 : IsZipS g0 z TI TO .ellipsis := hz0
  replace hs0 : Heap.SameBut z hp g0 := hs0
  refine wpAny_bind ?_
  simp only [List.zipIdx_cons, List.zipIdx_nil, List.forIn_cons, List.forIn_nil]
  refine wpAny_bind (wpAny_bind (wpAny_onRaise ?_))
  show wpAny _ _ (Builtin.SmallTypes.nextOrEnd (.ref i1)) _ _ ⟨g0, g, d, tk0, os⟩
  refine noe_done D1 (D1.over st1 hs0 S.zf1) fun q1 hq1 => ?_
  replace hq1 : Heap.ExtBut i1 g0 q1 := hq1
  have hzq : IsZipS q1 z TI TO .ellipsis := hq1 _ _ S.zi1 hz0
  show wpAny _ _ (setField (.ref z) 0 .none >>= _) _ _ ⟨q1, g, d, tk0, os⟩
  refine wpAny_bind (wpAny_setField_rec (s := ⟨q1, g, d, tk0, os⟩) hzq (by simp) fun r1 hzr hr1 => ?_)
  replace hr1 : Heap.SameBut z q1 r1 := hr1
  refine wpAny_bind ?_
  show wpAny _ _ (forIn (([Value.ref i1, Value.ref i2, Value.ref i3].drop 1).zipIdx 1) PUnit.unit _ >>= _) _ _ _
  refine wpAny_bind ?_
  simp only [List.drop_succ_cons, List.drop_zero, List.zipIdx_cons, List.zipIdx_nil, List.forIn_cons, List.forIn_nil]
  refine wpAny_bind (wpAny_bind ?_)
  show wpAny _ _ (Builtin.SmallTypes.nextOrEnd (.ref i2)) _ _ ⟨r1, g, d, tk0, os⟩
  refine noe_done D2 (D2.over (frameE D2 (D2.over st2 hs0 S.zf2) hq1 S.sep1_2) hr1 S.zf2) fun q2 hq2 => ?_
  replace hq2 : Heap.ExtBut i2 r1 q2 := hq2
  show wpAny _ _ (pure _) _ _ _
  refine wpAny_pure ?_
  refine wpAny_bind (wpAny_bind ?_)
  show wpAny _ _ (Builtin.SmallTypes.nextOrEnd (.ref i3)) _ _ ⟨q2, g, d, tk0, os⟩
  refine noe_done D3 (frameE D3 (D3.over (frameE D3 (D3.over st3 hs0 S.zf3) hq1 S.sep1_3) hr1 S.zf3) hq2 S.sep2_3) fun q3 hq3 => ?_
  replace hq3 : Heap.ExtBut i3 q2 q3 := hq3
  show wpAny _ _ (pure _) _ _ _
  refine wpAny_pure ?_
  refine wpAny_pure ?_
  show wpAny _ _ (rule _ >>= _) _ _ _
  refine wpAny_bind (wpAny_rule ?_)
  exact stop_it (s := ⟨q3, g, d, tk0, os⟩) hh fun h' e hk he => hE h' tk0 e (fun c o cz cT c1 c2 c3 e => hk _ _ (hq3 _ _ c3 (hq2 _ _ c2 (hr1.extBut _ _ cz (hq1 _ _ c1 (hs0.extBut _ _ cz e)))))) he
end
end ZS
end PySem
set_option Elab.async false
set_option linter.all false
set_option maxRecDepth 100000
set_option maxHeartbeats 4000000
/-! walks over zip(.., strict=True) (printed by gen_zip2.py) -/
namespace ZS
open PySem PySem.Spec PyProof.Rows L2 PySem.ZS
section
variable {prog : Program} {w : World} {A : Around} {E : Value → Shared → Prop} {s : Shared}
theorem go_zipS {elts : List Expr} {x1 : Nat} {pos : Pos} {z TI TO T : Addr} {Q : Unit → Shared → Prop} (hz : IsZipS s.heap z TI TO (rawInt T)) (hQ : ∀ h', IsZipS h' z TI TO .none → Heap.SameBut z s.heap h' → Q () { s with heap := h' }) : wpAny (model prog w) A (letOwnedTupleGo (.Tuple elts x1 pos) (.ref z) (.ref T)) Q E s := by
  unfold letOwnedTupleGo
  refine wpAny_bind (wpAny_load hz ?_)
  show wpAny _ _ (if (["enumerate", "zip", "dict_itemiterator", "dict_reverseitemiterator", "odict_iterator", "itertools.zip_longest", "itertools.pairwise"].contains "zip" &&
      (#[rawInt T, .bool false, .bool true, .ref TI, .ref TO] : Array Value)[0]? == some (rawInt T)) = true then _ else _) Q E s
  rw [if_pos (by simp)]
  refine wpAny_bind (wpAny_rule ?_)
  show wpAny _ _ (setField (.ref z) 0 .none) Q E s
  exact wpAny_setField_rec hz (by simp) fun h' hz' hs' => hQ h' hz' hs'
theorem iter_zipS {z TI TO : Addr} {f0 : Value} {Q : Value → Shared → Prop} (hz : IsZipS s.heap z TI TO f0) (h : Q (.ref z) s) : wpAny (model prog w) A (pyIter (.ref z)) Q E s := by
  have hT : s.TypeIs (.ref z) "zip" := ⟨_, hz, rfl⟩
  refine wpAny_pyIter_slot hT F.slot_zip_iter (wpAny_call_entry F.slot_zip_iter hT F.entry_zip_iter ?_ (F.args_zip_iter_1 _))
  show wpAny _ _ (ret (.ref z)) _ _ s
  exact wpAny_pure ⟨_, rfl, "zip", _, hT, F.slot_zip_next.lookup, h⟩
theorem callWith_typeKw {M : Model} {pos : Pos} {T : String} {first : List Value} {args : List (Bool × Sem Value)} {keywords : List (Option Str × Sem Value)} {Q : Value → Shared → Prop} (hplain : args.any (·.1) = false) (hkw : keywords.any (·.1.isNone) = false)
    (h : wpAny M A (evalArgs (.type T) true args keywords) (fun a s₁ => wpAny M A (call (.type T) (first ++ a.pos) a.kw) Q E s₁) E s) : wpAny M A (callWith pos (.type T) first args keywords) Q E s := by
  unfold callWith
  refine wpAny_bind (wpAny_holding (wpAny_mono h (fun a s₁ h₁ => wpAny_bind (wpAny_standAt ?_)) fun _ _ x => x))
  simp only [hplain, hkw, Bool.or_false]
  refine wpAny_bind (wpAny_pure ?_)
  exact wpAny_bind (wpAny_mono h₁ (fun r s₂ hr => wpAny_bind (wpAny_holding (wpAny_point (wpAny_pure hr)))) fun _ _ x => x)
end
def ItS2 (K : PySem.W.Frag) (l1 l2 : Addr) : It :=
  ⟨fun i H => ∃ (xs1 xs2 : List V) (x1 x2 : V), SqL K H l1 xs1 ∧ SqL K H l2 xs2 ∧ xs2.length = xs1.length ∧ xs1[i]? = some x1 ∧ xs2[i]? = some x2,
    fun i H v H' => ∃ T x1 x2, v = .ref T ∧ H T = none ∧ H' = upd H T (.tup [x1, x2]) ∧ (∀ xs, SqL K H l1 xs → xs[i]? = some x1) ∧ (∀ xs, SqL K H l2 xs → xs[i]? = some x2),
    fun i H => ∃ xs1 xs2 : List V, SqL K H l1 xs1 ∧ SqL K H l2 xs2 ∧ xs2.length = xs1.length ∧ xs1.length = i⟩
section
variable {prog : Program} {w : World} {A : Around} {E : Value → Shared → Prop} {s : Shared} {z TI TO i1 i2 : Addr} {fp1 fp2 : List Addr} {n i : Nat} {P1 P2 : Nat → Value → Prop} {St1 St2 : Nat → Heap → Prop} {a1 a2 : Value}
theorem next_zipS2_item {Q : Option Value → Shared → Prop} (S : ZipSep2 z TI TO i1 i2 fp1 fp2) (D1 : Draws prog w A.in1 i1 fp1 n P1 St1) (D2 : Draws prog w A.in1 i2 fp2 n P2 St2)
    (hz : IsZipS s.heap z TI TO .none) (hTI : IsTupOf2 s.heap TI (.ref i1) (.ref i2)) (hTO : IsTupOf2 s.heap TO a1 a2) (st1 : St1 i s.heap) (st2 : St2 i s.heap) (hlt : i < n)
    (hQ : ∀ x1 x2 h' tk, P1 i x1 → P2 i x2 → IsZipS h' z TI TO (rawInt s.heap.objs.size) → IsTupOf2 h' TO x1 x2 → St1 (i + 1) h' → St2 (i + 1) h' → IsTupOf2 h' s.heap.objs.size x1 x2 → h'.objs.size = s.heap.objs.size + 1 →
      (∀ c o, c ≠ z → c ≠ TO → c ≠ i1 → c ≠ i2 → s.heap.get? c = some o → h'.get? c = some o) → Q (some (.ref s.heap.objs.size)) { s with heap := h', toks := tk }) :
    wpAny (model prog w) A (pyNext (.ref z)) Q E s := by
  have hT : s.TypeIs (.ref z) "zip" := ⟨_, hz, rfl⟩
  unfold pyNext
  exact wpAny_bind (wpAny_attempt (wpAny_callSpecial?_slot (name := Str.ofString "__next__") hT F.slot_zip_next
    (wpAny_call_entry F.slot_zip_next hT F.entry_zip_next
      (zipS2_item S D1 D2 hz hTI hTO st1 st2 hlt fun x1 x2 h' tk y1 y2 b1 b2 d1 d2 b5 b6 b7 => wpAny_pure (hQ x1 x2 h' tk y1 y2 b1 b2 d1 d2 b5 b6 b7)) (F.args_zip_next_1 _))))
theorem next_zipS2_end {Q : Option Value → Shared → Prop} (hh : A.handled = none) (S : ZipSep2 z TI TO i1 i2 fp1 fp2) (D1 : Draws prog w A.in1 i1 fp1 n P1 St1) (D2 : Draws prog w A.in1 i2 fp2 n P2 St2)
    (hz : IsZipS s.heap z TI TO .none) (hTI : IsTupOf2 s.heap TI (.ref i1) (.ref i2)) (hTO : IsTupOf2 s.heap TO a1 a2) (st1 : St1 n s.heap) (st2 : St2 n s.heap)
    (hQ : ∀ h' tk, (∀ c o, c ≠ z → c ≠ TO → c ≠ i1 → c ≠ i2 → s.heap.get? c = some o → h'.get? c = some o) → Q none { s with heap := h', toks := tk }) : wpAny (model prog w) A (pyNext (.ref z)) Q E s := by
  have hT : s.TypeIs (.ref z) "zip" := ⟨_, hz, rfl⟩
  unfold pyNext
  refine wpAny_bind (wpAny_attempt (wpAny_callSpecial?_slot (name := Str.ofString "__next__") hT F.slot_zip_next
    (wpAny_call_entry F.slot_zip_next hT F.entry_zip_next (zipS2_end (A := A.in1) (by exact hh) S D1 D2 hz hTI hTO st1 st2 fun h' tk e hk he => ?_) (F.args_zip_next_1 _))))
  obtain ⟨o, ho, hc⟩ := he
  refine wpAny_bind (wpAny_isInstance (T := "StopIteration") (b := true) ⟨o, ho, hc⟩ isSubtype_stop ?_)
  exact wpAny_pure (hQ _ _ hk)
end
theorem turn_zipS2 {P : Program} {w : World} {K : PySem.W.Frag} {elts : List Expr} {kk : Nat} {tpos : Pos} {l1 l2 z TI TO i1 i2 : Addr} (S : ZipSep2 z TI TO i1 i2 [i1, l1] [i2, l2]) (hl1 : l1 ≠ i1) (hl2 : l2 ≠ i2) :
    Turn P w K (.Tuple elts kk tpos) (ItS2 K l1 l2) [z, TI, TO, i1, i2] z (fun i h => IsZipS h z TI TO .none ∧ IsTupOf2 h TI (.ref i1) (.ref i2) ∧ (∃ a1 a2, IsTupOf2 h TO a1 a2) ∧ h.IsListIter i1 l1 i ∧ h.IsListIter i2 l2 i) where
  mem := by simp
  obj := fun i h st c hc => by
    obtain ⟨hz, hTI, ⟨a1, a2, hTO⟩, ⟨o1, e1, _, d1⟩, ⟨o2, e2, _, d2⟩⟩ := st
    have e' : c = z ∨ c = TI ∨ c = TO ∨ c = i1 ∨ c = i2 := by simpa using hc
    rcases e' with q | q | q | q | q
    · rw [q]; exact ⟨_, hz, fun v q => nomatch q⟩
    · rw [q]; exact ⟨_, hTI, fun v q => nomatch q⟩
    · rw [q]; exact ⟨_, hTO, fun v q => nomatch q⟩
    · rw [q]; exact ⟨o1, e1, fun v q => by rw [d1] at q; cases q⟩
    · rw [q]; exact ⟨o2, e2, fun v q => by rw [d2] at q; cases q⟩
  keep := fun i h h' st k => by
    obtain ⟨hz, hTI, ⟨a1, a2, hTO⟩, h1, h2⟩ := st
    exact ⟨k z (by simp) _ hz, k TI (by simp) _ hTI, ⟨a1, a2, k TO (by simp) _ hTO⟩, h1.at fun o q => k i1 (by simp) o q, h2.at fun o q => k i2 (by simp) o q⟩
  item := by
    intro X hP hw hK hc i pins s σ H E I hf st hg
    subst hP hw hK
    obtain ⟨hz, hTI, ⟨a1, a2, hTO⟩, h1, h2⟩ := st
    obtain ⟨xs1, xs2, x1, x2, hq1, hq2, hn2, hx1, hx2⟩ := hg
    obtain ⟨its1, rv1, p1, _⟩ := I.list hq1
    obtain ⟨u1, hu1, ru1⟩ := rv1.get hx1
    obtain ⟨its2, rv2, p2, _⟩ := I.list hq2
    obtain ⟨u2, hu2, ru2⟩ := rv2.get hx2
    have hzl : z < s.heap.objs.size := Heap.lt_size hz
    have hlt : i < its1.toArray.size := by
      rw [List.size_toArray]
      exact (List.getElem?_eq_some_iff.mp hu1).1
    have en2 : its2.toArray.size = its1.toArray.size := by
      rw [List.size_toArray, List.size_toArray, ← rv2.length, ← rv1.length, hn2]
    have D2 : Draws X.prog X.w X.A.in1 i2 [i2, l2] its1.toArray.size _ _ := en2 ▸ (Draws.list (A := X.A.in1) (I.ok.hd hc) i2 l2 hl2 its2.toArray)
    refine next_zipS2_item S (Draws.list (A := X.A.in1) (I.ok.hd hc) i1 l1 hl1 its1.toArray) D2 hz hTI hTO ⟨h1, p1.isList⟩ ⟨h2, p2.isList⟩ hlt fun v1 v2 h' tk hv1 hv2 z' TO' sn1 sn2 hT hsz hk => ?_
    have ev1 : v1 = u1 := by
      rw [List.getElem?_toArray, hu1] at hv1
      exact (Option.some.inj hv1).symm
    subst ev1
    have ev2 : v2 = u2 := by
      rw [List.getElem?_toArray, hu2] at hv2
      exact (Option.some.inj hv2).symm
    subst ev2
    refine ⟨_, rfl, go_zipS (s := { s with heap := h', toks := tk }) z' fun h'' z'' sb => ?_⟩
    have hT2 : h''.get? s.heap.objs.size = some { cls := .type "tuple", data := .seq #[v1, v2] } := (sb.2 _ (Nat.ne_of_gt hzl)).trans hT
    have new : ObjOk X.prog X.w (upd H s.heap.objs.size (.tup [x1, x2])) h'' s.heap.objs.size (.tup [x1, x2]) :=
      ⟨by show 2 ≤ sizeLine; decide, [v1, v2], .cons ru1 (.cons ru2 (.nil)), ⟨_, hT2, rfl, _, rfl⟩⟩
    have I1 : Inv X pins σ (upd H s.heap.objs.size (.tup [x1, x2])) { s with heap := h'', toks := tk } :=
      I.turnedNew (t' := tk) (ch := [z, TI, TO, i1, i2]) (fun c o hb q => (sb.2 c (fun q' => hb (by simp [q']))).trans (hk c o (fun q' => hb (by simp [q'])) (fun q' => hb (by simp [q'])) (fun q' => hb (by simp [q'])) (fun q' => hb (by simp [q'])) q)) hf (Nat.le_refl _) new
    refine ⟨.ref s.heap.objs.size, _, I1, rfl, ⟨_, x1, x2, rfl, I.hok.fresh (Nat.le_refl _), rfl, fun l hl => by rw [I.list_inj hl hq1]; exact hx1, fun l hl => by rw [I.list_inj hl hq2]; exact hx2⟩, ⟨z'', ?_, ⟨v1, v2, ?_⟩, ?_, ?_⟩, fun c hcm => ?_⟩
    · exact (sb.2 _ S.TIz).trans (hk _ _ S.TIz S.TITO S.TIi1 S.TIi2 hTI)
    · exact (sb.2 _ S.TOz).trans TO'
    · exact sn1.1.at fun o q => (sb.2 _ (Ne.symm S.zi1)).trans q
    · exact sn2.1.at fun o q => (sb.2 _ (Ne.symm S.zi2)).trans q
    · have hlt : c < s.heap.objs.size := by
        have e' : c = z ∨ c = TI ∨ c = TO ∨ c = i1 ∨ c = i2 := by simpa using hcm
        rcases e' with q | q | q | q | q
        · rw [q]; exact hzl
        · rw [q]; exact Heap.lt_size hTI
        · rw [q]; exact Heap.lt_size hTO
        · rw [q]; obtain ⟨_, e1, _⟩ := h1; exact Heap.lt_size e1
        · rw [q]; obtain ⟨_, e1, _⟩ := h2; exact Heap.lt_size e1
      rw [upd_ne (Nat.ne_of_lt hlt)]
      exact (hf c hcm).1
  done := by
    intro X hP hw hK hc i pins s σ H E I hf st hg
    subst hP hw hK
    obtain ⟨hz, hTI, ⟨a1, a2, hTO⟩, h1, h2⟩ := st
    obtain ⟨xs1, xs2, hq1, hq2, hn2, hend⟩ := hg
    obtain ⟨its1, rv1, p1, _⟩ := I.list hq1
    obtain ⟨its2, rv2, p2, _⟩ := I.list hq2
    have ei : its1.toArray.size = i := by rw [List.size_toArray, ← rv1.length, hend]
    subst ei
    have en2 : its2.toArray.size = its1.toArray.size := by
      rw [List.size_toArray, List.size_toArray, ← rv2.length, ← rv1.length, hn2]
    have D2 : Draws X.prog X.w X.A.in1 i2 [i2, l2] its1.toArray.size _ _ := en2 ▸ (Draws.list (A := X.A.in1) (I.ok.hd hc) i2 l2 hl2 its2.toArray)
    exact next_zipS2_end (I.ok.hd hc) S (Draws.list (A := X.A.in1) (I.ok.hd hc) i1 l1 hl1 its1.toArray) D2 hz hTI hTO ⟨h1, p1.isList⟩ ⟨h2, p2.isList⟩ fun h' tk hk => ⟨rfl, I.turnedL (t' := tk) (ch := [z, TI, TO, i1, i2]) (fun c o hb q =>
      hk c o (fun q' => hb (by simp [q'])) (fun q' => hb (by simp [q'])) (fun q' => hb (by simp [q'])) (fun q' => hb (by simp [q'])) q) hf⟩
  self := fun A i s Q E st h => iter_zipS st.1 h
theorem typeCall_zipS2 (a1 a2 : Value) : checkTypeCall "zip" ⟨[a1, a2], [(Str.ofString "strict", .bool true)]⟩ = pure () := by kernel_rfl
theorem newCall_zipS2 (a1 a2 : Value) : checkBuiltinCall "zip.__new__" ⟨[.type "zip", a1, a2], [(Str.ofString "strict", .bool true)]⟩ = pure () := by kernel_rfl
theorem args_zipS2 (obj a1 a2 : Value) : argsOk "object.__init__" ⟨[obj, a1, a2], [(Str.ofString "strict", .bool true)]⟩ := by unfold argsOk; kernel_rfl
abbrev gsT2 (h : Heap) (o1 o2 : Obj) : Heap := ((h.push o1).push o2).push { cls := .type "tuple", data := .seq #[.ref h.objs.size, .ref (h.push o1).objs.size] }
abbrev gsO2 (h : Heap) (o1 o2 : Obj) : Heap := (gsT2 h o1 o2).push { cls := .type "tuple", data := .seq #[.none, .none] }
abbrev gsZ2 (h : Heap) (o1 o2 : Obj) : Heap := (gsO2 h o1 o2).push { cls := .type "zip", data := .fields #[.none, .bool false, .bool true, .ref ((h.push o1).push o2).objs.size, .ref (gsT2 h o1 o2).objs.size] }
theorem new_zipS2 {v1 v2 : Value} {o1 o2 : Obj} {H1 H2 : Heap → Prop} (B1 : Begins v1 o1 H1) (B2 : Begins v2 o2 H2) :
    Meets (Builtin.«zip.__new__» ⟨[.type "zip", v1, v2], [(Str.ofString "strict", .bool true)]⟩) (fun _ R s => (H1 s.heap ∧ H2 s.heap) ∧
      R (.ok (.ret (.ref (gsO2 s.heap o1 o2).objs.size))) { s with heap := gsZ2 s.heap o1 o2 }) :=
  .of_wp fun prog w A R s h => by
    obtain ⟨hp, g, d, tk, os⟩ := s; obtain ⟨⟨h1, h2⟩, h⟩ := h
    have hsub := sub_zip
    have e1 : (Str.ofString "strict" != ("strict" : Str)) = false := by decide +kernel
    have q1 : ∀ {A' : Around} {E : Value → Shared → Prop} {Q : Value → Shared → Prop}, Q (.ref hp.objs.size) ⟨(hp.push o1), g, d, tk, os⟩ → wpAny (model prog w) A' (pyIter v1) Q E ⟨hp, g, d, tk, os⟩ :=
      fun q => B1.iter prog w _ _ ⟨hp, g, d, tk, os⟩ _ (B1.keeps _ _ h1 fun b o' e => e) q
    have q2 : ∀ {A' : Around} {E : Value → Shared → Prop} {Q : Value → Shared → Prop}, Q (.ref (hp.push o1).objs.size) ⟨((hp.push o1).push o2), g, d, tk, os⟩ → wpAny (model prog w) A' (pyIter v2) Q E ⟨(hp.push o1), g, d, tk, os⟩ :=
      fun q => B2.iter prog w _ _ ⟨(hp.push o1), g, d, tk, os⟩ _ (B2.keeps _ _ h2 fun b o' e => (Heap.get?_push_of_some _ e)) q
    wp_walk using q1, q2
    exact ⟨_, rfl, h⟩
section
variable {prog : Program} {w : World} {A : Around} {E : Value → Shared → Prop} {s : Shared}
theorem begin_zipS2 {v1 v2 : Value} {o1 o2 : Obj} {H1 H2 : Heap → Prop} {Q : Value → Shared → Prop} (B1 : Begins v1 o1 H1) (B2 : Begins v2 o2 H2) (h1 : H1 s.heap) (h2 : H2 s.heap)
    (h : ∀ h', IsZipS h' (s.heap.objs.size + 4) (s.heap.objs.size + 2) (s.heap.objs.size + 3) .none → IsTupOf2 h' (s.heap.objs.size + 2) (.ref s.heap.objs.size) (.ref (s.heap.objs.size + 1)) →
      IsTupOf2 h' (s.heap.objs.size + 3) .none .none → h'.get? s.heap.objs.size = some o1 → h'.get? (s.heap.objs.size + 1) = some o2 →
      (∀ c o, s.heap.get? c = some o → h'.get? c = some o) → Q (.ref (s.heap.objs.size + 4)) { s with heap := h' }) :
    wpAny (model prog w) A (call (.type "zip") [v1, v2] [(Str.ofString "strict", .bool true)]) Q E s := by
  refine callType_newKw F.called_zip (by decide) (typeCall_zipS2 _ _) (newCall_zipS2 _ _) (fun obj => args_zipS2 obj _ _) F.entry_zip_new
    (new_zipS2 B1 B2) ⟨⟨h1, h2⟩, ?_⟩
  have z1 : (s.heap.push o1).objs.size = s.heap.objs.size + 1 := by rw [Heap.size_push]
  have z2 : ((s.heap.push o1).push o2).objs.size = s.heap.objs.size + 2 := by rw [Heap.size_push, z1]
  have zT : (gsT2 s.heap o1 o2).objs.size = s.heap.objs.size + 3 := by rw [Heap.size_push, z2]
  have zO : (gsO2 s.heap o1 o2).objs.size = s.heap.objs.size + 4 := by rw [Heap.size_push, zT]
  have gZ : (gsZ2 s.heap o1 o2).get? (gsO2 s.heap o1 o2).objs.size = some { cls := .type "zip", data := .fields #[.none, .bool false, .bool true, .ref ((s.heap.push o1).push o2).objs.size, .ref (gsT2 s.heap o1 o2).objs.size] } := Heap.get?_push_size _ rfl
  have gO : (gsZ2 s.heap o1 o2).get? (gsT2 s.heap o1 o2).objs.size = some { cls := .type "tuple", data := .seq #[.none, .none] } := Heap.get?_push_of_some _ (Heap.get?_push_size _ rfl)
  have gT : (gsZ2 s.heap o1 o2).get? ((s.heap.push o1).push o2).objs.size = some { cls := .type "tuple", data := .seq #[.ref s.heap.objs.size, .ref (s.heap.push o1).objs.size] } := Heap.get?_push_of_some _ (Heap.get?_push_of_some _ (Heap.get?_push_size _ rfl))
  have g1 : (gsZ2 s.heap o1 o2).get? s.heap.objs.size = some o1 := (Heap.get?_push_of_some _ (Heap.get?_push_of_some _ (Heap.get?_push_of_some _ (Heap.get?_push_of_some _ (Heap.get?_push_size _ B1.free)))))
  have g2 : (gsZ2 s.heap o1 o2).get? (s.heap.push o1).objs.size = some o2 := (Heap.get?_push_of_some _ (Heap.get?_push_of_some _ (Heap.get?_push_of_some _ (Heap.get?_push_size _ B2.free))))
  rw [zO, zT, z2] at gZ
  rw [zT] at gO
  rw [z2, z1] at gT
  rw [z1] at g2
  show _ ∧ _
  rw [zO]
  exact ⟨⟨_, gZ, rfl⟩, h _ gZ gT gO g1 g2 fun c o e => (Heap.get?_push_of_some _ (Heap.get?_push_of_some _ (Heap.get?_push_of_some _ (Heap.get?_push_of_some _ (Heap.get?_push_of_some _ e)))))⟩
end
def iZipS2 (K : PySem.W.Frag) (ta : TA) (tk : TA) : TI := fun σ H R => ta σ H fun vs H0 => tk σ H0 fun ws H1 => ∃ l1 l2 xs1 xs2, vs = [.ref l1, .ref l2] ∧ ws = [.bl true] ∧ SqL K H1 l1 xs1 ∧ SqL K H1 l2 xs2 ∧ R (ItS2 K l1 l2) H1
theorem pi_zipS2 {X : Cx} {e1 e2 : Expr} {ta tk : TA} {p pos kpos tpos : Pos} {kx : Expr} {elts : List Expr} {kk : Nat} (hg : Gl X "zip") (hm : X.mg "zip" = none) (ha : PA X [e1, e2] ta) (hk : PK X [⟨some "strict", kx, kpos⟩] tk)
    (hs : starEach [e1, e2] X.env = (false, eval e1 X.env) :: starEach [e2] X.env) (hpl : (backTo pos (starEach [e1, e2] X.env)).any (·.1) = false) (hall : (backToKw pos (keywordEach [⟨some "strict", kx, kpos⟩] X.env)).all (·.1.isSome) = true)
    (hkn : (backToKw pos (keywordEach [⟨some "strict", kx, kpos⟩] X.env)).any (·.1.isNone) = false) (hks : (backToKw pos (keywordEach [⟨some "strict", kx, kpos⟩] X.env)).filterMap (·.1) = [Str.ofString "strict"]) :
    PI X (.Tuple elts kk tpos) (.Call (.Name "zip" p) [e1, e2] [⟨some "strict", kx, kpos⟩] pos) (iZipS2 X.K ta tk) := by
  refine ⟨fun pins s σ H R I h => ?_⟩
  refine wpAny_Call_Name_kw (ld_blt I hg hm PyProof.Rows.boot_zip (callWith_typeKw hpl hkn ?_) (by decide) (by decide))
  have hA := ha.run pos pins s σ H _ I h
  rw [hs] at hA ⊢
  refine PyProof.Rows.evalArgs_kwB hall (thn hA fun us s0 ⟨vs, H0, I0, r0, q0⟩ => thn (hk.run pos pins s0 σ H0 _ I0 q0) fun ws s1 ⟨zs, H1, I1, r1, l1, l2, xs1, xs2, ex, ez, hq1, hq2, q⟩ => ?_)
  subst ex ez
  rw [hks]
  cases r0 with
  | cons ra1 r0 =>
    cases r0 with
    | cons ra2 r0 =>
      cases r0
      cases r1 with
      | cons rk r1 =>
        cases r1
        cases rk
        cases ra1
        cases ra2
        obtain ⟨its1, rv1, p1, _⟩ := I1.list hq1
        have lt1 : l1 < s1.heap.objs.size := p1.lt
        obtain ⟨its2, rv2, p2, _⟩ := I1.list hq2
        have lt2 : l2 < s1.heap.objs.size := p2.lt
        have fr : ∀ c, c ∈ [s1.heap.objs.size + 4, s1.heap.objs.size + 2, s1.heap.objs.size + 3, s1.heap.objs.size, s1.heap.objs.size + 1] → FpOk X pins H1 c := fun c hcm => by
          have hle : s1.heap.objs.size ≤ c := by
            have e' : c = s1.heap.objs.size + 4 ∨ c = s1.heap.objs.size + 2 ∨ c = s1.heap.objs.size + 3 ∨ c = s1.heap.objs.size ∨ c = s1.heap.objs.size + 1 := by simpa using hcm
            omega
          exact I1.fpOk hle (I1.hok.fresh hle)
        refine begin_zipS2 (begins_list l1 its1.toArray) (begins_list l2 its2.toArray) p1.isList p2.isList fun h' hz hTI hTO g1 g2 hkp => iter_zipS hz ?_
        have I2 : Inv X pins σ H1 { s1 with heap := h' } := I1.kept (t' := s1.toks) hkp
        exact ⟨s1.heap.objs.size + 4, [s1.heap.objs.size + 4, s1.heap.objs.size + 2, s1.heap.objs.size + 3, s1.heap.objs.size, s1.heap.objs.size + 1], _, _, H1, rfl, I2, turn_zipS2 (zip_sep2 (fun b hb => by rw [List.mem_singleton.mp hb]; exact lt1) (fun b hb => by rw [List.mem_singleton.mp hb]; exact lt2)) (Nat.ne_of_lt lt1) (Nat.ne_of_lt (Nat.lt_of_lt_of_le lt2 (Nat.le_add_right _ _))), ⟨hz, hTI, ⟨_, _, hTO⟩, ⟨_, g1, rfl, rfl⟩, ⟨_, g2, rfl, rfl⟩⟩, fr, q⟩
def ItS3 (K : PySem.W.Frag) (l1 l2 l3 : Addr) : It :=
  ⟨fun i H => ∃ (xs1 xs2 xs3 : List V) (x1 x2 x3 : V), SqT K H l1 xs1 ∧ SqL K H l2 xs2 ∧ SqL K H l3 xs3 ∧ xs2.length = xs1.length ∧ xs3.length = xs1.length ∧ xs1[i]? = some x1 ∧ xs2[i]? = some x2 ∧ xs3[i]? = some x3,
    fun i H v H' => ∃ T x1 x2 x3, v = .ref T ∧ H T = none ∧ H' = upd H T (.tup [x1, x2, x3]) ∧ (∀ xs, SqT K H l1 xs → xs[i]? = some x1) ∧ (∀ xs, SqL K H l2 xs → xs[i]? = some x2) ∧ (∀ xs, SqL K H l3 xs → xs[i]? = some x3),
    fun i H => ∃ xs1 xs2 xs3 : List V, SqT K H l1 xs1 ∧ SqL K H l2 xs2 ∧ SqL K H l3 xs3 ∧ xs2.length = xs1.length ∧ xs3.length = xs1.length ∧ xs1.length = i⟩
section
variable {prog : Program} {w : World} {A : Around} {E : Value → Shared → Prop} {s : Shared} {z TI TO i1 i2 i3 : Addr} {fp1 fp2 fp3 : List Addr} {n i : Nat} {P1 P2 P3 : Nat → Value → Prop} {St1 St2 St3 : Nat → Heap → Prop} {a1 a2 a3 : Value}
theorem next_zipS3_item {Q : Option Value → Shared → Prop} (S : ZipSep3 z TI TO i1 i2 i3 fp1 fp2 fp3) (D1 : Draws prog w A.in1 i1 fp1 n P1 St1) (D2 : Draws prog w A.in1 i2 fp2 n P2 St2) (D3 : Draws prog w A.in1 i3 fp3 n P3 St3)
    (hz : IsZipS s.heap z TI TO .none) (hTI : IsTupOf3 s.heap TI (.ref i1) (.ref i2) (.ref i3)) (hTO : IsTupOf3 s.heap TO a1 a2 a3) (st1 : St1 i s.heap) (st2 : St2 i s.heap) (st3 : St3 i s.heap) (hlt : i < n)
    (hQ : ∀ x1 x2 x3 h' tk, P1 i x1 → P2 i x2 → P3 i x3 → IsZipS h' z TI TO (rawInt s.heap.objs.size) → IsTupOf3 h' TO x1 x2 x3 → St1 (i + 1) h' → St2 (i + 1) h' → St3 (i + 1) h' → IsTupOf3 h' s.heap.objs.size x1 x2 x3 → h'.objs.size = s.heap.objs.size + 1 →
      (∀ c o, c ≠ z → c ≠ TO → c ≠ i1 → c ≠ i2 → c ≠ i3 → s.heap.get? c = some o → h'.get? c = some o) → Q (some (.ref s.heap.objs.size)) { s with heap := h', toks := tk }) :
    wpAny (model prog w) A (pyNext (.ref z)) Q E s := by
  have hT : s.TypeIs (.ref z) "zip" := ⟨_, hz, rfl⟩
  unfold pyNext
  exact wpAny_bind (wpAny_attempt (wpAny_callSpecial?_slot (name := Str.ofString "__next__") hT F.slot_zip_next
    (wpAny_call_entry F.slot_zip_next hT F.entry_zip_next
      (zipS3_item S D1 D2 D3 hz hTI hTO st1 st2 st3 hlt fun x1 x2 x3 h' tk y1 y2 y3 b1 b2 d1 d2 d3 b5 b6 b7 => wpAny_pure (hQ x1 x2 x3 h' tk y1 y2 y3 b1 b2 d1 d2 d3 b5 b6 b7)) (F.args_zip_next_1 _))))
theorem next_zipS3_end {Q : Option Value → Shared → Prop} (hh : A.handled = none) (S : ZipSep3 z TI TO i1 i2 i3 fp1 fp2 fp3) (D1 : Draws prog w A.in1 i1 fp1 n P1 St1) (D2 : Draws prog w A.in1 i2 fp2 n P2 St2) (D3 : Draws prog w A.in1 i3 fp3 n P3 St3)
    (hz : IsZipS s.heap z TI TO .none) (hTI : IsTupOf3 s.heap TI (.ref i1) (.ref i2) (.ref i3)) (hTO : IsTupOf3 s.heap TO a1 a2 a3) (st1 : St1 n s.heap) (st2 : St2 n s.heap) (st3 : St3 n s.heap)
    (hQ : ∀ h' tk, (∀ c o, c ≠ z → c ≠ TO → c ≠ i1 → c ≠ i2 → c ≠ i3 → s.heap.get? c = some o → h'.get? c = some o) → Q none { s with heap := h', toks := tk }) : wpAny (model prog w) A (pyNext (.ref z)) Q E s := by
  have hT : s.TypeIs (.ref z) "zip" := ⟨_, hz, rfl⟩
  unfold pyNext
  refine wpAny_bind (wpAny_attempt (wpAny_callSpecial?_slot (name := Str.ofString "__next__") hT F.slot_zip_next
    (wpAny_call_entry F.slot_zip_next hT F.entry_zip_next (zipS3_end (A := A.in1) (by exact hh) S D1 D2 D3 hz hTI hTO st1 st2 st3 fun h' tk e hk he => ?_) (F.args_zip_next_1 _))))
  obtain ⟨o, ho, hc⟩ := he
  refine wpAny_bind (wpAny_isInstance (T := "StopIteration") (b := true) ⟨o, ho, hc⟩ isSubtype_stop ?_)
  exact wpAny_pure (hQ _ _ hk)
end
theorem turn_zipS3 {P : Program} {w : World} {K : PySem.W.Frag} {elts : List Expr} {kk : Nat} {tpos : Pos} {l1 l2 l3 z TI TO i1 i2 i3 : Addr} (S : ZipSep3 z TI TO i1 i2 i3 [i1, l1] [i2, l2] [i3, l3]) (hl1 : l1 ≠ i1) (hl2 : l2 ≠ i2) (hl3 : l3 ≠ i3) :
    Turn P w K (.Tuple elts kk tpos) (ItS3 K l1 l2 l3) [z, TI, TO, i1, i2, i3] z (fun i h => IsZipS h z TI TO .none ∧ IsTupOf3 h TI (.ref i1) (.ref i2) (.ref i3) ∧ (∃ a1 a2 a3, IsTupOf3 h TO a1 a2 a3) ∧ h.IsTupleIter i1 l1 i ∧ h.IsListIter i2 l2 i ∧ h.IsListIter i3 l3 i) where
  mem := by simp
  obj := fun i h st c hc => by
    obtain ⟨hz, hTI, ⟨a1, a2, a3, hTO⟩, ⟨o1, e1, _, d1⟩, ⟨o2, e2, _, d2⟩, ⟨o3, e3, _, d3⟩⟩ := st
    have e' : c = z ∨ c = TI ∨ c = TO ∨ c = i1 ∨ c = i2 ∨ c = i3 := by simpa using hc
    rcases e' with q | q | q | q | q | q
    · rw [q]; exact ⟨_, hz, fun v q => nomatch q⟩
    · rw [q]; exact ⟨_, hTI, fun v q => nomatch q⟩
    · rw [q]; exact ⟨_, hTO, fun v q => nomatch q⟩
    · rw [q]; exact ⟨o1, e1, fun v q => by rw [d1] at q; cases q⟩
    · rw [q]; exact ⟨o2, e2, fun v q => by rw [d2] at q; cases q⟩
    · rw [q]; exact ⟨o3, e3, fun v q => by rw [d3] at q; cases q⟩
  keep := fun i h h' st k => by
    obtain ⟨hz, hTI, ⟨a1, a2, a3, hTO⟩, h1, h2, h3⟩ := st
    exact ⟨k z (by simp) _ hz, k TI (by simp) _ hTI, ⟨a1, a2, a3, k TO (by simp) _ hTO⟩, h1.at fun o q => k i1 (by simp) o q, h2.at fun o q => k i2 (by simp) o q, h3.at fun o q => k i3 (by simp) o q⟩
  item := by
    intro X hP hw hK hc i pins s σ H E I hf st hg
    subst hP hw hK
    obtain ⟨hz, hTI, ⟨a1, a2, a3, hTO⟩, h1, h2, h3⟩ := st
    obtain ⟨xs1, xs2, xs3, x1, x2, x3, hq1, hq2, hq3, hn2, hn3, hx1, hx2, hx3⟩ := hg
    obtain ⟨its1, rv1, p1, _⟩ := I.tuple hq1
    obtain ⟨u1, hu1, ru1⟩ := rv1.get hx1
    obtain ⟨its2, rv2, p2, _⟩ := I.list hq2
    obtain ⟨u2, hu2, ru2⟩ := rv2.get hx2
    obtain ⟨its3, rv3, p3, _⟩ := I.list hq3
    obtain ⟨u3, hu3, ru3⟩ := rv3.get hx3
    have hzl : z < s.heap.objs.size := Heap.lt_size hz
    have hlt : i < its1.toArray.size := by
      rw [List.size_toArray]
      exact (List.getElem?_eq_some_iff.mp hu1).1
    have en2 : its2.toArray.size = its1.toArray.size := by
      rw [List.size_toArray, List.size_toArray, ← rv2.length, ← rv1.length, hn2]
    have D2 : Draws X.prog X.w X.A.in1 i2 [i2, l2] its1.toArray.size _ _ := en2 ▸ (Draws.list (A := X.A.in1) (I.ok.hd hc) i2 l2 hl2 its2.toArray)
    have en3 : its3.toArray.size = its1.toArray.size := by
      rw [List.size_toArray, List.size_toArray, ← rv3.length, ← rv1.length, hn3]
    have D3 : Draws X.prog X.w X.A.in1 i3 [i3, l3] its1.toArray.size _ _ := en3 ▸ (Draws.list (A := X.A.in1) (I.ok.hd hc) i3 l3 hl3 its3.toArray)
    refine next_zipS3_item S (Draws.tuple (A := X.A.in1) (I.ok.hd hc) i1 l1 hl1 its1.toArray) D2 D3 hz hTI hTO ⟨h1, p1⟩ ⟨h2, p2.isList⟩ ⟨h3, p3.isList⟩ hlt fun v1 v2 v3 h' tk hv1 hv2 hv3 z' TO' sn1 sn2 sn3 hT hsz hk => ?_
    have ev1 : v1 = u1 := by
      rw [List.getElem?_toArray, hu1] at hv1
      exact (Option.some.inj hv1).symm
    subst ev1
    have ev2 : v2 = u2 := by
      rw [List.getElem?_toArray, hu2] at hv2
      exact (Option.some.inj hv2).symm
    subst ev2
    have ev3 : v3 = u3 := by
      rw [List.getElem?_toArray, hu3] at hv3
      exact (Option.some.inj hv3).symm
    subst ev3
    refine ⟨_, rfl, go_zipS (s := { s with heap := h', toks := tk }) z' fun h'' z'' sb => ?_⟩
    have hT2 : h''.get? s.heap.objs.size = some { cls := .type "tuple", data := .seq #[v1, v2, v3] } := (sb.2 _ (Nat.ne_of_gt hzl)).trans hT
    have new : ObjOk X.prog X.w (upd H s.heap.objs.size (.tup [x1, x2, x3])) h'' s.heap.objs.size (.tup [x1, x2, x3]) :=
      ⟨by show 3 ≤ sizeLine; decide, [v1, v2, v3], .cons ru1 (.cons ru2 (.cons ru3 (.nil))), ⟨_, hT2, rfl, _, rfl⟩⟩
    have I1 : Inv X pins σ (upd H s.heap.objs.size (.tup [x1, x2, x3])) { s with heap := h'', toks := tk } :=
      I.turnedNew (t' := tk) (ch := [z, TI, TO, i1, i2, i3]) (fun c o hb q => (sb.2 c (fun q' => hb (by simp [q']))).trans (hk c o (fun q' => hb (by simp [q'])) (fun q' => hb (by simp [q'])) (fun q' => hb (by simp [q'])) (fun q' => hb (by simp [q'])) (fun q' => hb (by simp [q'])) q)) hf (Nat.le_refl _) new
    refine ⟨.ref s.heap.objs.size, _, I1, rfl, ⟨_, x1, x2, x3, rfl, I.hok.fresh (Nat.le_refl _), rfl, fun l hl => by rw [I.tuple_inj hl hq1]; exact hx1, fun l hl => by rw [I.list_inj hl hq2]; exact hx2, fun l hl => by rw [I.list_inj hl hq3]; exact hx3⟩, ⟨z'', ?_, ⟨v1, v2, v3, ?_⟩, ?_, ?_, ?_⟩, fun c hcm => ?_⟩
    · exact (sb.2 _ S.TIz).trans (hk _ _ S.TIz S.TITO S.TIi1 S.TIi2 S.TIi3 hTI)
    · exact (sb.2 _ S.TOz).trans TO'
    · exact sn1.1.at fun o q => (sb.2 _ (Ne.symm S.zi1)).trans q
    · exact sn2.1.at fun o q => (sb.2 _ (Ne.symm S.zi2)).trans q
    · exact sn3.1.at fun o q => (sb.2 _ (Ne.symm S.zi3)).trans q
    · have hlt : c < s.heap.objs.size := by
        have e' : c = z ∨ c = TI ∨ c = TO ∨ c = i1 ∨ c = i2 ∨ c = i3 := by simpa using hcm
        rcases e' with q | q | q | q | q | q
        · rw [q]; exact hzl
        · rw [q]; exact Heap.lt_size hTI
        · rw [q]; exact Heap.lt_size hTO
        · rw [q]; obtain ⟨_, e1, _⟩ := h1; exact Heap.lt_size e1
        · rw [q]; obtain ⟨_, e1, _⟩ := h2; exact Heap.lt_size e1
        · rw [q]; obtain ⟨_, e1, _⟩ := h3; exact Heap.lt_size e1
      rw [upd_ne (Nat.ne_of_lt hlt)]
      exact (hf c hcm).1
  done := by
    intro X hP hw hK hc i pins s σ H E I hf st hg
    subst hP hw hK
    obtain ⟨hz, hTI, ⟨a1, a2, a3, hTO⟩, h1, h2, h3⟩ := st
    obtain ⟨xs1, xs2, xs3, hq1, hq2, hq3, hn2, hn3, hend⟩ := hg
    obtain ⟨its1, rv1, p1, _⟩ := I.tuple hq1
    obtain ⟨its2, rv2, p2, _⟩ := I.list hq2
    obtain ⟨its3, rv3, p3, _⟩ := I.list hq3
    have ei : its1.toArray.size = i := by rw [List.size_toArray, ← rv1.length, hend]
    subst ei
    have en2 : its2.toArray.size = its1.toArray.size := by
      rw [List.size_toArray, List.size_toArray, ← rv2.length, ← rv1.length, hn2]
    have D2 : Draws X.prog X.w X.A.in1 i2 [i2, l2] its1.toArray.size _ _ := en2 ▸ (Draws.list (A := X.A.in1) (I.ok.hd hc) i2 l2 hl2 its2.toArray)
    have en3 : its3.toArray.size = its1.toArray.size := by
      rw [List.size_toArray, List.size_toArray, ← rv3.length, ← rv1.length, hn3]
    have D3 : Draws X.prog X.w X.A.in1 i3 [i3, l3] its1.toArray.size _ _ := en3 ▸ (Draws.list (A := X.A.in1) (I.ok.hd hc) i3 l3 hl3 its3.toArray)
    exact next_zipS3_end (I.ok.hd hc) S (Draws.tuple (A := X.A.in1) (I.ok.hd hc) i1 l1 hl1 its1.toArray) D2 D3 hz hTI hTO ⟨h1, p1⟩ ⟨h2, p2.isList⟩ ⟨h3, p3.isList⟩ fun h' tk hk => ⟨rfl, I.turnedL (t' := tk) (ch := [z, TI, TO, i1, i2, i3]) (fun c o hb q =>
      hk c o (fun q' => hb (by simp [q'])) (fun q' => hb (by simp [q'])) (fun q' => hb (by simp [q'])) (fun q' => hb (by simp [q'])) (fun q' => hb (by simp [q'])) q) hf⟩
  self := fun A i s Q E st h => iter_zipS st.1 h
theorem typeCall_zipS3 (a1 a2 a3 : Value) : checkTypeCall "zip" ⟨[a1, a2, a3], [(Str.ofString "strict", .bool true)]⟩ = pure () := by kernel_rfl
theorem newCall_zipS3 (a1 a2 a3 : Value) : checkBuiltinCall "zip.__new__" ⟨[.type "zip", a1, a2, a3], [(Str.ofString "strict", .bool true)]⟩ = pure () := by kernel_rfl
theorem args_zipS3 (obj a1 a2 a3 : Value) : argsOk "object.__init__" ⟨[obj, a1, a2, a3], [(Str.ofString "strict", .bool true)]⟩ := by unfold argsOk; kernel_rfl
abbrev gsT3 (h : Heap) (o1 o2 o3 : Obj) : Heap := (((h.push o1).push o2).push o3).push { cls := .type "tuple", data := .seq #[.ref h.objs.size, .ref (h.push o1).objs.size, .ref ((h.push o1).push o2).objs.size] }
abbrev gsO3 (h : Heap) (o1 o2 o3 : Obj) : Heap := (gsT3 h o1 o2 o3).push { cls := .type "tuple", data := .seq #[.none, .none, .none] }
abbrev gsZ3 (h : Heap) (o1 o2 o3 : Obj) : Heap := (gsO3 h o1 o2 o3).push { cls := .type "zip", data := .fields #[.none, .bool false, .bool true, .ref (((h.push o1).push o2).push o3).objs.size, .ref (gsT3 h o1 o2 o3).objs.size] }
theorem new_zipS3 {v1 v2 v3 : Value} {o1 o2 o3 : Obj} {H1 H2 H3 : Heap → Prop} (B1 : Begins v1 o1 H1) (B2 : Begins v2 o2 H2) (B3 : Begins v3 o3 H3) :
    Meets (Builtin.«zip.__new__» ⟨[.type "zip", v1, v2, v3], [(Str.ofString "strict", .bool true)]⟩) (fun _ R s => (H1 s.heap ∧ H2 s.heap ∧ H3 s.heap) ∧
      R (.ok (.ret (.ref (gsO3 s.heap o1 o2 o3).objs.size))) { s with heap := gsZ3 s.heap o1 o2 o3 }) :=
  .of_wp fun prog w A R s h => by
    obtain ⟨hp, g, d, tk, os⟩ := s; obtain ⟨⟨h1, h2, h3⟩, h⟩ := h
    have hsub := sub_zip
    have e1 : (Str.ofString "strict" != ("strict" : Str)) = false := by decide +kernel
    have q1 : ∀ {A' : Around} {E : Value → Shared → Prop} {Q : Value → Shared → Prop}, Q (.ref hp.objs.size) ⟨(hp.push o1), g, d, tk, os⟩ → wpAny (model prog w) A' (pyIter v1) Q E ⟨hp, g, d, tk, os⟩ :=
      fun q => B1.iter prog w _ _ ⟨hp, g, d, tk, os⟩ _ (B1.keeps _ _ h1 fun b o' e => e) q
    have q2 : ∀ {A' : Around} {E : Value → Shared → Prop} {Q : Value → Shared → Prop}, Q (.ref (hp.push o1).objs.size) ⟨((hp.push o1).push o2), g, d, tk, os⟩ → wpAny (model prog w) A' (pyIter v2) Q E ⟨(hp.push o1), g, d, tk, os⟩ :=
      fun q => B2.iter prog w _ _ ⟨(hp.push o1), g, d, tk, os⟩ _ (B2.keeps _ _ h2 fun b o' e => (Heap.get?_push_of_some _ e)) q
    have q3 : ∀ {A' : Around} {E : Value → Shared → Prop} {Q : Value → Shared → Prop}, Q (.ref ((hp.push o1).push o2).objs.size) ⟨(((hp.push o1).push o2).push o3), g, d, tk, os⟩ → wpAny (model prog w) A' (pyIter v3) Q E ⟨((hp.push o1).push o2), g, d, tk, os⟩ :=
      fun q => B3.iter prog w _ _ ⟨((hp.push o1).push o2), g, d, tk, os⟩ _ (B3.keeps _ _ h3 fun b o' e => (Heap.get?_push_of_some _ (Heap.get?_push_of_some _ e))) q
    wp_walk using q1, q2, q3
    exact ⟨_, rfl, h⟩
section
variable {prog : Program} {w : World} {A : Around} {E : Value → Shared → Prop} {s : Shared}
theorem begin_zipS3 {v1 v2 v3 : Value} {o1 o2 o3 : Obj} {H1 H2 H3 : Heap → Prop} {Q : Value → Shared → Prop} (B1 : Begins v1 o1 H1) (B2 : Begins v2 o2 H2) (B3 : Begins v3 o3 H3) (h1 : H1 s.heap) (h2 : H2 s.heap) (h3 : H3 s.heap)
    (h : ∀ h', IsZipS h' (s.heap.objs.size + 5) (s.heap.objs.size + 3) (s.heap.objs.size + 4) .none → IsTupOf3 h' (s.heap.objs.size + 3) (.ref s.heap.objs.size) (.ref (s.heap.objs.size + 1)) (.ref (s.heap.objs.size + 2)) →
      IsTupOf3 h' (s.heap.objs.size + 4) .none .none .none → h'.get? s.heap.objs.size = some o1 → h'.get? (s.heap.objs.size + 1) = some o2 → h'.get? (s.heap.objs.size + 2) = some o3 →
      (∀ c o, s.heap.get? c = some o → h'.get? c = some o) → Q (.ref (s.heap.objs.size + 5)) { s with heap := h' }) :
    wpAny (model prog w) A (call (.type "zip") [v1, v2, v3] [(Str.ofString "strict", .bool true)]) Q E s := by
  refine callType_newKw F.called_zip (by decide) (typeCall_zipS3 _ _ _) (newCall_zipS3 _ _ _) (fun obj => args_zipS3 obj _ _ _) F.entry_zip_new
    (new_zipS3 B1 B2 B3) ⟨⟨h1, h2, h3⟩, ?_⟩
  have z1 : (s.heap.push o1).objs.size = s.heap.objs.size + 1 := by rw [Heap.size_push]
  have z2 : ((s.heap.push o1).push o2).objs.size = s.heap.objs.size + 2 := by rw [Heap.size_push, z1]
  have z3 : (((s.heap.push o1).push o2).push o3).objs.size = s.heap.objs.size + 3 := by rw [Heap.size_push, z2]
  have zT : (gsT3 s.heap o1 o2 o3).objs.size = s.heap.objs.size + 4 := by rw [Heap.size_push, z3]
  have zO : (gsO3 s.heap o1 o2 o3).objs.size = s.heap.objs.size + 5 := by rw [Heap.size_push, zT]
  have gZ : (gsZ3 s.heap o1 o2 o3).get? (gsO3 s.heap o1 o2 o3).objs.size = some { cls := .type "zip", data := .fields #[.none, .bool false, .bool true, .ref (((s.heap.push o1).push o2).push o3).objs.size, .ref (gsT3 s.heap o1 o2 o3).objs.size] } := Heap.get?_push_size _ rfl
  have gO : (gsZ3 s.heap o1 o2 o3).get? (gsT3 s.heap o1 o2 o3).objs.size = some { cls := .type "tuple", data := .seq #[.none, .none, .none] } := Heap.get?_push_of_some _ (Heap.get?_push_size _ rfl)
  have gT : (gsZ3 s.heap o1 o2 o3).get? (((s.heap.push o1).push o2).push o3).objs.size = some { cls := .type "tuple", data := .seq #[.ref s.heap.objs.size, .ref (s.heap.push o1).objs.size, .ref ((s.heap.push o1).push o2).objs.size] } := Heap.get?_push_of_some _ (Heap.get?_push_of_some _ (Heap.get?_push_size _ rfl))
  have g1 : (gsZ3 s.heap o1 o2 o3).get? s.heap.objs.size = some o1 := (Heap.get?_push_of_some _ (Heap.get?_push_of_some _ (Heap.get?_push_of_some _ (Heap.get?_push_of_some _ (Heap.get?_push_of_some _ (Heap.get?_push_size _ B1.free))))))
  have g2 : (gsZ3 s.heap o1 o2 o3).get? (s.heap.push o1).objs.size = some o2 := (Heap.get?_push_of_some _ (Heap.get?_push_of_some _ (Heap.get?_push_of_some _ (Heap.get?_push_of_some _ (Heap.get?_push_size _ B2.free)))))
  have g3 : (gsZ3 s.heap o1 o2 o3).get? ((s.heap.push o1).push o2).objs.size = some o3 := (Heap.get?_push_of_some _ (Heap.get?_push_of_some _ (Heap.get?_push_of_some _ (Heap.get?_push_size _ B3.free))))
  rw [zO, zT, z3] at gZ
  rw [zT] at gO
  rw [z3, z2, z1] at gT
  rw [z1] at g2
  rw [z2] at g3
  show _ ∧ _
  rw [zO]
  exact ⟨⟨_, gZ, rfl⟩, h _ gZ gT gO g1 g2 g3 fun c o e => (Heap.get?_push_of_some _ (Heap.get?_push_of_some _ (Heap.get?_push_of_some _ (Heap.get?_push_of_some _ (Heap.get?_push_of_some _ (Heap.get?_push_of_some _ e))))))⟩
end
def iZipS3 (K : PySem.W.Frag) (ta : TA) (tk : TA) : TI := fun σ H R => ta σ H fun vs H0 => tk σ H0 fun ws H1 => ∃ l1 l2 l3 xs1 xs2 xs3, vs = [.ref l1, .ref l2, .ref l3] ∧ ws = [.bl true] ∧ SqT K H1 l1 xs1 ∧ SqL K H1 l2 xs2 ∧ SqL K H1 l3 xs3 ∧ R (ItS3 K l1 l2 l3) H1
theorem pi_zipS3 {X : Cx} {e1 e2 e3 : Expr} {ta tk : TA} {p pos kpos tpos : Pos} {kx : Expr} {elts : List Expr} {kk : Nat} (hg : Gl X "zip") (hm : X.mg "zip" = none) (ha : PA X [e1, e2, e3] ta) (hk : PK X [⟨some "strict", kx, kpos⟩] tk)
    (hs : starEach [e1, e2, e3] X.env = (false, eval e1 X.env) :: starEach [e2, e3] X.env) (hpl : (backTo pos (starEach [e1, e2, e3] X.env)).any (·.1) = false) (hall : (backToKw pos (keywordEach [⟨some "strict", kx, kpos⟩] X.env)).all (·.1.isSome) = true)
    (hkn : (backToKw pos (keywordEach [⟨some "strict", kx, kpos⟩] X.env)).any (·.1.isNone) = false) (hks : (backToKw pos (keywordEach [⟨some "strict", kx, kpos⟩] X.env)).filterMap (·.1) = [Str.ofString "strict"]) :
    PI X (.Tuple elts kk tpos) (.Call (.Name "zip" p) [e1, e2, e3] [⟨some "strict", kx, kpos⟩] pos) (iZipS3 X.K ta tk) := by
  refine ⟨fun pins s σ H R I h => ?_⟩
  refine wpAny_Call_Name_kw (ld_blt I hg hm PyProof.Rows.boot_zip (callWith_typeKw hpl hkn ?_) (by decide) (by decide))
  have hA := ha.run pos pins s σ H _ I h
  rw [hs] at hA ⊢
  refine PyProof.Rows.evalArgs_kwB hall (thn hA fun us s0 ⟨vs, H0, I0, r0, q0⟩ => thn (hk.run pos pins s0 σ H0 _ I0 q0) fun ws s1 ⟨zs, H1, I1, r1, l1, l2, l3, xs1, xs2, xs3, ex, ez, hq1, hq2, hq3, q⟩ => ?_)
  subst ex ez
  rw [hks]
  cases r0 with
  | cons ra1 r0 =>
    cases r0 with
    | cons ra2 r0 =>
      cases r0 with
      | cons ra3 r0 =>
        cases r0
        cases r1 with
        | cons rk r1 =>
          cases r1
          cases rk
          cases ra1
          cases ra2
          cases ra3
          obtain ⟨its1, rv1, p1, _⟩ := I1.tuple hq1
          have lt1 : l1 < s1.heap.objs.size := (let ⟨_, ho, _⟩ := p1; Heap.lt_size ho)
          obtain ⟨its2, rv2, p2, _⟩ := I1.list hq2
          have lt2 : l2 < s1.heap.objs.size := p2.lt
          obtain ⟨its3, rv3, p3, _⟩ := I1.list hq3
          have lt3 : l3 < s1.heap.objs.size := p3.lt
          have fr : ∀ c, c ∈ [s1.heap.objs.size + 5, s1.heap.objs.size + 3, s1.heap.objs.size + 4, s1.heap.objs.size, s1.heap.objs.size + 1, s1.heap.objs.size + 2] → FpOk X pins H1 c := fun c hcm => by
            have hle : s1.heap.objs.size ≤ c := by
              have e' : c = s1.heap.objs.size + 5 ∨ c = s1.heap.objs.size + 3 ∨ c = s1.heap.objs.size + 4 ∨ c = s1.heap.objs.size ∨ c = s1.heap.objs.size + 1 ∨ c = s1.heap.objs.size + 2 := by simpa using hcm
              omega
            exact I1.fpOk hle (I1.hok.fresh hle)
          refine begin_zipS3 (begins_tuple l1 its1.toArray) (begins_list l2 its2.toArray) (begins_list l3 its3.toArray) p1 p2.isList p3.isList fun h' hz hTI hTO g1 g2 g3 hkp => iter_zipS hz ?_
          have I2 : Inv X pins σ H1 { s1 with heap := h' } := I1.kept (t' := s1.toks) hkp
          exact ⟨s1.heap.objs.size + 5, [s1.heap.objs.size + 5, s1.heap.objs.size + 3, s1.heap.objs.size + 4, s1.heap.objs.size, s1.heap.objs.size + 1, s1.heap.objs.size + 2], _, _, H1, rfl, I2, turn_zipS3 (zip_sep3 (fun b hb => by rw [List.mem_singleton.mp hb]; exact lt1) (fun b hb => by rw [List.mem_singleton.mp hb]; exact lt2) (fun b hb => by rw [List.mem_singleton.mp hb]; exact lt3)) (Nat.ne_of_lt lt1) (Nat.ne_of_lt (Nat.lt_of_lt_of_le lt2 (Nat.le_add_right _ _))) (Nat.ne_of_lt (Nat.lt_of_lt_of_le lt3 (Nat.le_add_right _ _))), ⟨hz, hTI, ⟨_, _, _, hTO⟩, ⟨_, g1, rfl, rfl⟩, ⟨_, g2, rfl, rfl⟩, ⟨_, g3, rfl, rfl⟩⟩, fr, q⟩
end ZS
set_option Elab.async false
set_option linter.all false
set_option maxRecDepth 100000
set_option maxHeartbeats 1000000
namespace DL
open PySem PySem.Spec PyProof.Rows L2 ZS
/-! zip(.., strict=True) of data of one length -/
theorem wk_zipS2 {K : PySem.W.Frag} {G : Hp} {a b : Addr} {xs ys : List V} {α : Type} {l : List α} {f g : α → PyData} (h1 : SqL K G a xs) (h2 : SqL K G b ys) (r1 : DpAll K G xs (l.map f)) (r2 : DpAll K G ys (l.map g)) : Wk K G (ItS2 K a b) (l.map fun x => .tuple [f x, g x]) :=
  ⟨fun i d Gc Hc hd s1 s2 => by
    rw [List.getElem?_map] at hd
    obtain ⟨x, hx, rfl⟩ := Option.map_eq_some_iff.mp hd
    obtain ⟨v1, hv1, p1⟩ := dpa_get (i := i) (d := f x) r1 (by rw [List.getElem?_map, hx]; rfl)
    obtain ⟨v2, hv2, p2⟩ := dpa_get (i := i) (d := g x) r2 (by rw [List.getElem?_map, hx]; rfl)
    refine ⟨⟨xs, ys, v1, v2, s2.seq (s1.seq h1), s2.seq (s1.seq h2), by rw [dpa_len r1, dpa_len r2, List.length_map, List.length_map], hv1, hv2⟩, fun x' H2 ⟨T, u1, u2, e1, e2, e3, q1, q2⟩ => ?_⟩
    subst e1
    subst e3
    have ev1 := (q1 xs (s2.seq (s1.seq h1))).symm.trans hv1
    have ev2 := (q2 ys (s2.seq (s1.seq h2))).symm.trans hv2
    cases Option.some.inj ev1
    cases Option.some.inj ev2
    obtain ⟨f', t⟩ := new_tup (ds := [f x, g x]) s2 e2 (.cons (dp_mono s1 p1) (.cons (dp_mono s1 p2) .nil))
    exact ⟨_, f', t⟩,
  fun Gc Hc s1 s2 => ⟨xs, ys, s2.seq (s1.seq h1), s2.seq (s1.seq h2), by rw [dpa_len r1, dpa_len r2, List.length_map, List.length_map], by rw [dpa_len r1, List.length_map, List.length_map]⟩⟩
theorem wk_zipS3 {K : PySem.W.Frag} {G : Hp} {a b c : Addr} {xs ys zs : List V} {α : Type} {l : List α} {f g h : α → PyData} (h1 : SqT K G a xs) (h2 : SqL K G b ys) (h3 : SqL K G c zs) (r1 : DpAll K G xs (l.map f)) (r2 : DpAll K G ys (l.map g)) (r3 : DpAll K G zs (l.map h)) : Wk K G (ItS3 K a b c) (l.map fun x => .tuple [f x, g x, h x]) :=
  ⟨fun i d Gc Hc hd s1 s2 => by
    rw [List.getElem?_map] at hd
    obtain ⟨x, hx, rfl⟩ := Option.map_eq_some_iff.mp hd
    obtain ⟨v1, hv1, p1⟩ := dpa_get (i := i) (d := f x) r1 (by rw [List.getElem?_map, hx]; rfl)
    obtain ⟨v2, hv2, p2⟩ := dpa_get (i := i) (d := g x) r2 (by rw [List.getElem?_map, hx]; rfl)
    obtain ⟨v3, hv3, p3⟩ := dpa_get (i := i) (d := h x) r3 (by rw [List.getElem?_map, hx]; rfl)
    refine ⟨⟨xs, ys, zs, v1, v2, v3, same_t s2 (same_t s1 h1), s2.seq (s1.seq h2), s2.seq (s1.seq h3), by rw [dpa_len r1, dpa_len r2, List.length_map, List.length_map], by rw [dpa_len r1, dpa_len r3, List.length_map, List.length_map], hv1, hv2, hv3⟩, fun x' H2 ⟨T, u1, u2, u3, e1, e2, e3, q1, q2, q3⟩ => ?_⟩
    subst e1
    subst e3
    have ev1 := (q1 xs (same_t s2 (same_t s1 h1))).symm.trans hv1
    have ev2 := (q2 ys (s2.seq (s1.seq h2))).symm.trans hv2
    have ev3 := (q3 zs (s2.seq (s1.seq h3))).symm.trans hv3
    cases Option.some.inj ev1
    cases Option.some.inj ev2
    cases Option.some.inj ev3
    obtain ⟨f', t⟩ := new_tup (ds := [f x, g x, h x]) s2 e2 (.cons (dp_mono s1 p1) (.cons (dp_mono s1 p2) (.cons (dp_mono s1 p3) .nil)))
    exact ⟨_, f', t⟩,
  fun Gc Hc s1 s2 => ⟨xs, ys, zs, same_t s2 (same_t s1 h1), s2.seq (s1.seq h2), s2.seq (s1.seq h3), by rw [dpa_len r1, dpa_len r2, List.length_map, List.length_map], by rw [dpa_len r1, dpa_len r3, List.length_map, List.length_map], by rw [dpa_len r1, List.length_map, List.length_map]⟩⟩
section
variable {C : Cc} {Γ : Gm} {e1 e2 e3 : Expr} {pos p cp kpos tpos : Pos} {j kk : Nat} {elts : List Expr} {α : Type} {l : List α} {f g h : α → PyData}
theorem di_zipS2 (hx : IsB C "zip") (h1 : DE C e1 Γ (tD (.list (l.map f)))) (h2 : DE C e2 Γ (tD (.list (l.map g)))) (hs : ∀ env : Env, starEach [e1, e2] env = (false, eval e1 env) :: starEach [e2] env := by intro _; rfl) (hs2 : ∀ env : Env, starEach [e2] env = (false, eval e2 env) :: starEach [] env := by intro _; rfl) :
    DI C (.Tuple elts kk tpos) (.Call (.Name "zip" p) [e1, e2] [⟨some "strict", .Constant (.bool true) j cp, kpos⟩] pos) Γ (· = l.map fun x => .tuple [f x, g x]) := fun X ok =>
  ⟨_, pi_zipS2 (by show X.env.scope.names.lookup _ = _; rw [ok.sc]; exact hx.g) (by rw [ok.mg]; exact hx.m) (pa_cons pe_w (pa_cons pe_w pa_nil (hs2 _)) (hs _)) (pk_cons pe_bl pk_nil) (hs _) (by rw [hs, hs2]; rfl) rfl rfl rfl, fun G0 W G σ H R s q => by
    refine h1 X ok G0 W G σ H _ s fun x G1 H1 f1 p1 => ?_
    refine h2 X ok G0 W G1 σ H1 _ (s.step f1) fun y G2 H2 f2 p2 => ?_
    obtain ⟨a, xs, rfl, q1, r1⟩ := dp_lst p1
    obtain ⟨b, ys, rfl, q2, r2⟩ := dp_lst p2
    refine ⟨a, b, xs, ys, rfl, rfl, by rw [ok.K]; exact f2.s.seq (f2.g.seq q1), by rw [ok.K]; exact f2.s.seq q2, ?_⟩
    rw [ok.K]
    exact q _ _ G2 H2 rfl (f1.trans f2) (wk_zipS2 (f2.g.seq q1) q2 (dpa_mono f2.g r1) r2)⟩
theorem di_zipS3 (hx : IsB C "zip") (h1 : DE C e1 Γ (tD (.tuple (l.map f)))) (h2 : DE C e2 Γ (tD (.list (l.map g)))) (h3 : DE C e3 Γ (tD (.list (l.map h)))) (hs : ∀ env : Env, starEach [e1, e2, e3] env = (false, eval e1 env) :: starEach [e2, e3] env := by intro _; rfl)
    (hs2 : ∀ env : Env, starEach [e2, e3] env = (false, eval e2 env) :: starEach [e3] env := by intro _; rfl) (hs3 : ∀ env : Env, starEach [e3] env = (false, eval e3 env) :: starEach [] env := by intro _; rfl) :
    DI C (.Tuple elts kk tpos) (.Call (.Name "zip" p) [e1, e2, e3] [⟨some "strict", .Constant (.bool true) j cp, kpos⟩] pos) Γ (· = l.map fun x => .tuple [f x, g x, h x]) := fun X ok =>
  ⟨_, pi_zipS3 (by show X.env.scope.names.lookup _ = _; rw [ok.sc]; exact hx.g) (by rw [ok.mg]; exact hx.m) (pa_cons pe_w (pa_cons pe_w (pa_cons pe_w pa_nil (hs3 _)) (hs2 _)) (hs _)) (pk_cons pe_bl pk_nil) (hs _) (by rw [hs, hs2, hs3]; rfl) rfl rfl rfl, fun G0 W G σ H R s q => by
    refine h1 X ok G0 W G σ H _ s fun x G1 H1 f1 p1 => ?_
    refine h2 X ok G0 W G1 σ H1 _ (s.step f1) fun y G2 H2 f2 p2 => ?_
    refine h3 X ok G0 W G2 σ H2 _ ((s.step f1).step f2) fun z G3 H3 f3 p3 => ?_
    obtain ⟨a, xs, rfl, q1, r1⟩ := dp_tup p1
    obtain ⟨b, ys, rfl, q2, r2⟩ := dp_lst p2
    obtain ⟨c, zs, rfl, q3, r3⟩ := dp_lst p3
    have g1 := f2.g.trans f3.g
    refine ⟨a, b, c, xs, ys, zs, rfl, rfl, by rw [ok.K]; exact same_t f3.s (same_t g1 q1), by rw [ok.K]; exact f3.s.seq (f3.g.seq q2), by rw [ok.K]; exact f3.s.seq q3, ?_⟩
    rw [ok.K]
    exact q _ _ G3 H3 rfl (f1.trans (f2.trans f3)) (wk_zipS3 (same_t g1 q1) (f3.g.seq q2) q3 (dpa_mono g1 r1) (dpa_mono f3.g r2) r3)⟩
end
end DL
set_option Elab.async false
set_option linter.all false
set_option maxRecDepth 100000
set_option maxHeartbeats 1000000
namespace Tb
open PySem PySem.Spec PyProof.Rows L2 DL
/-! ### data -/
abbrev Tri := Int × Int × Int
def eT (t : Tri) : PyData := .tuple [.int t.1, .int t.2.1, .int t.2.2]
abbrev Fig := List Tri
def eF (f : Fig) : PyData := .tuple (f.map eT)
def eFl (f : Fig) : PyData := .list (f.map eT)
def eIs (l : List Int) : PyData := .list (l.map .int)
def eIt (l : List Int) : PyData := .tuple (l.map .int)
section
variable {E : Ev} {f : Addr} {fd : FuncData}
abbrev FnP (K : PySem.W.Frag) (x : Str) (st : Stmt) (f : Addr) (fd : FuncData) : Prop := FunD K x x (defArgs st) (defBody st) (defScope st) [] [] f fd
/-! ### counts: signed, rows_of_notes, fraction -/
def rSigned : List Ty → Ty → Prop := fun Ts T => ∃ (l : List PyData) (n : Int), Ts = [tD (.tuple l), tD (.int n)] ∧ T = tD (.int (if (l.length : Int) % 2 = 0 then n else -n))
theorem scSigned : FnScope ["some", "found"] ["some", "found"] (defScope sSigned) := ⟨rfl, rfl, rfl, by decide +kernel, rfl, by decide +kernel, by decide +kernel⟩
theorem ok_signed (hl : E.mg "len" = none) (F : FnP E.K "signed" sSigned f fd) : Ok E 1 f fd ["some", "found"] rSigned := by
  refine defOk F scSigned (fun Ts T ⟨l, n, e, _⟩ => by subst e; rfl) ?_
  rintro Ts T ⟨l, n, rfl, rfl⟩
  refine ds_ret (d_if (dt_eqI (d_mod (by decide) (lenT hl (dv 0)) d_int) d_int) (fun h => (dv 1 : DE _ _ _ (tD (.int n))).is ?_) (fun h => (d_neg (dv 1)).is ?_)) (Ty.le_refl _)
  · rw [if_pos (of_decide_eq_true h)]
  · rw [if_neg (of_decide_eq_false h)]
def rRowsOfNotes : List Ty → Ty → Prop := fun Ts T => ∃ (m h : Int), Ts = [tD (.int m), tD (.int h)] ∧ 0 ≤ m ∧ m ≤ 4 ∧ 0 ≤ h ∧ h ≤ 6 ∧ T = tD (.int (m ^ h.toNat))
theorem scRowsOfNotes : FnScope ["many", "height", "found", "step"] ["many", "height"] (defScope sRowsOfNotes) := ⟨rfl, rfl, rfl, by decide +kernel, rfl, by decide +kernel, by decide +kernel⟩
theorem upD_len (lo : Int) (n : Nat) : (upD lo n).length = n := by
  unfold upD
  rw [List.length_map, List.length_range]
theorem ok_rows_of_notes (hr : E.mg "range" = none) (F : FnP E.K "rows_of_notes" sRowsOfNotes f fd) : Ok E 1 f fd ["many", "height"] rRowsOfNotes := by
  refine defOk F scRowsOfNotes (fun Ts T ⟨m, h, e, _⟩ => by subst e; rfl) ?_
  rintro Ts T ⟨m, h, rfl, m0, m4, h0, h6, rfl⟩
  have nd := scRowsOfNotes.nd
  refine ds_set d_int (stn 2) ?_
  refine ds_for (di_range1 (isb hr) (dv 1) (by omega) (by omega)) (dg_name (stn 3)) (fun i Γ => Γ = [some (sD (.int m)), some (sD (.int h)), some (sD (.int (m ^ i))), none]) (by rw [Int.pow_zero]; rfl) ?_ ?_
  · rintro i d Γ1 hd rfl
    refine ⟨_, _, gr_name, ds_augMul (show CMul (m ^ i) m from .inr ⟨by omega, by omega⟩) rfl (dv 0) (stn 2) (ds_nil rfl ⟨rfl, rfl, ?_, trivial⟩)⟩
    rw [Int.pow_succ]
  · rintro Γ1 rfl
    rw [upD_len]
    exact ds_ret (dv 2) (Ty.le_refl _)
/-- Euclid's step -/
theorem gcd_step {x y : Int} (hx : 0 ≤ x) (hy : 0 ≤ y) : y.gcd (x % y) = x.gcd y := by
  obtain ⟨n, rfl⟩ := Int.eq_ofNat_of_zero_le hx
  obtain ⟨m, rfl⟩ := Int.eq_ofNat_of_zero_le hy
  rw [← Int.natCast_emod]
  show Nat.gcd m (n % m) = Nat.gcd n m
  rw [Nat.gcd_comm n m, Nat.gcd_comm m (n % m), ← Nat.gcd_rec]
def rFraction : List Ty → Ty → Prop := fun Ts T => ∃ (a b : Int), Ts = [tD (.int a), tD (.int b)] ∧ 0 ≤ a ∧ 0 < b ∧ b < 1000000 ∧ a < 1000000 ∧ T = tD (.tuple [.int (a / (a.gcd b)), .int (b / (a.gcd b))])
theorem scFraction : FnScope ["over", "under", "one", "other"] ["over", "under"] (defScope sFraction) := ⟨rfl, rfl, rfl, by decide +kernel, rfl, by decide +kernel, by decide +kernel⟩
theorem sw2 {x y : Str} {px py pt : Pos} {kt k2 : Nat} {pt2 : Pos} {a b : Expr} {sc : Scope} (h : ∀ env : Env, env.scope = sc → swappedStores [.Tuple [.Name x px, .Name y py] kt pt] (.Tuple [a, b] k2 pt2) env = pure (some [x, y])) : ∀ env : Env, env.scope = sc → swappedStores [.Tuple [.Name x px, .Name y py] kt pt] (.Tuple [a, b] k2 pt2) env = pure (some [x, y]) := h
theorem ok_fraction (F : FnP E.K "fraction" sFraction f fd) : Ok E 1 f fd ["over", "under"] rFraction := by
  refine defOk F scFraction (fun Ts T ⟨m, h, e, _⟩ => by subst e; rfl) ?_
  rintro Ts T ⟨a, b, rfl, a0, b0, b6, a6, rfl⟩
  have nd := scFraction.nd
  have g0 : 0 < ((a.gcd b : Nat) : Int) := Int.natCast_pos.mpr (Int.gcd_pos_of_ne_zero_right a (by omega))
  have gb : ((a.gcd b : Nat) : Int) ≤ b := Int.le_of_dvd b0 (Int.gcd_dvd_right ..)
  refine ds_par2 (das_cons (dv 0) (das_cons (dv 1) das_nil)) (stn 2) (stn 3) (by decide) rfl rfl ?_ (fun env h => by cases env; cases h; rfl)
  refine ds_while (fun m Γ => ∃ x y : Int, Γ = [some (sD (.int a)), some (sD (.int b)), some (sD (.int x)), some (sD (.int y))] ∧ 0 ≤ x ∧ 0 ≤ y ∧ x.gcd y = a.gcd b ∧ m = y.toNat) b.toNat ⟨a, b, rfl, a0, by omega, rfl, rfl⟩ ?_
  rintro m Γ1 ⟨x, y, rfl, x0, y0, eg, rfl⟩
  refine ⟨_, dt_neI (dv 3) d_int, fun h => ?_, fun h => ?_⟩
  · have hy : y ≠ 0 := by simpa using h
    refine ds_par2 (das_cons (dv 3) (das_cons (d_mod (show 0 < y by omega) (dv 2) (dv 3)) das_nil)) (stn 2) (stn 3) (by decide) rfl rfl ?_ (fun env h => by cases env; cases h; rfl)
    refine ds_nil ⟨(x % y).toNat, ?_, y, x % y, rfl, y0, Int.emod_nonneg _ hy, ?_, rfl⟩ Gle.refl
    · have := Int.emod_lt_of_pos x (show 0 < y by omega)
      have := Int.emod_nonneg x hy
      omega
    · rw [← eg]
      exact gcd_step x0 y0
  · have hy : y = 0 := by simpa using h
    subst hy
    have ex : x = ((a.gcd b : Nat) : Int) := by
      rw [← eg, Int.gcd_zero_right, Int.natAbs_of_nonneg x0]
    subst ex
    have hd : CDiv a ((a.gcd b : Nat) : Int) := ⟨g0, by omega⟩
    have hd2 : CDiv b ((a.gcd b : Nat) : Int) := ⟨g0, by omega⟩
    exact ds_ret (d_tup (dd_cons (d_fdiv hd (dv 0) (dv 2)) (dd_cons (d_fdiv hd2 (dv 1) (dv 2)) dd_nil))) (Ty.le_refl _)
end
end Tb
set_option Elab.async false
set_option linter.all false
set_option maxRecDepth 100000
set_option maxHeartbeats 1000000
namespace Tb
open PySem PySem.Spec PyProof.Rows L2 DL
/-! ### books: pads_of, share, bar, need_barred -/
def padsOf (f : Fig) : List Int := f.map (·.1)
def shareB (f g : Fig) : Bool := (padsOf g).any fun p => decide (p ∈ padsOf f)
def dictOf (f : Fig) : List (Int × Int) := f.foldl (fun m t => putI m t.1 t.2.1) []
def barB (f g : Fig) : Bool := g.any fun t => match lookI (dictOf f) t.1 with
  | some n => !decide (n = t.2.1)
  | none => false
section
variable {E : Ev} {f : Addr} {fd : FuncData}
def rPadsOf : List Ty → Ty → Prop := fun Ts T => ∃ (g : Fig), Ts = [tD (eF g)] ∧ g.length ≤ 1000 ∧ T = tL ((padsOf g).map .int)
theorem scPadsOf : FnScope ["figure", "pad", "note", "depth"] ["figure"] (defScope sPadsOf) := ⟨rfl, rfl, rfl, by decide +kernel, rfl, by decide +kernel, by decide +kernel⟩
theorem ok_pads_of (F : FnP E.K "pads_of" sPadsOf f fd) : Ok E 1 f fd ["figure"] rPadsOf := by
  refine defOk F scPadsOf (fun Ts T ⟨g, e, _⟩ => by subst e; rfl) ?_
  rintro Ts T ⟨g, rfl, hl, rfl⟩
  have nd := scPadsOf.nd
  refine ds_ret ((lc_map eT g (fun t => .int t.1) [("pad", 1), ("note", 2), ("depth", 3)] (di_tup (dv 0)) nd (dg_tup3 (stn 1) (stn 2) (stn 3)) (Nat.le_trans hl (by decide)) fun t _ => ⟨_, gr_tup3, dv 1⟩).isL ?_) (Ty.le_refl _)
  unfold padsOf
  rw [List.map_map]
  rfl
def rShare : List Ty → Ty → Prop := fun Ts T => ∃ (g h : Fig), Ts = [tD (eF g), tD (eF h)] ∧ g.length ≤ 1000 ∧ h.length ≤ 1000 ∧ T = tD (.bool (shareB g h))
theorem scShare : FnScope ["one", "other", "mine", "pad"] ["one", "other"] (defScope sShare) := ⟨rfl, rfl, rfl, by decide +kernel, rfl, by decide +kernel, by decide +kernel⟩
theorem ok_share (ha : E.mg "any" = none) (KP : Kn E 1 "pads_of" rPadsOf) (F : FnP E.K "share" sShare f fd) : Ok E 2 f fd ["one", "other"] rShare := by
  refine defOk F scShare (fun Ts T ⟨g, h, e, _⟩ => by subst e; rfl) ?_
  rintro Ts T ⟨g, h, rfl, hg, hh, rfl⟩
  have nd := scShare.nd
  refine ds_set (cl1 KP (dv 0) ⟨g, rfl, hg, rfl⟩) (stn 2) ?_
  refine ds_ret (anyL (bs := (padsOf h).map fun p => decide (p ∈ padsOf g)) ha ((lc_map PyData.int (padsOf h) (fun p => .bool (decide (p ∈ padsOf g))) [("pad", 3)] (di_list (cl1 KP (dv 1) ⟨h, rfl, hh, rfl⟩).w) nd (dg_name (stn 3)) ?_ fun t _ => ⟨_, gr_name, inL (dv 3) (dv 2)⟩).isL ?_)) ?_
  · unfold padsOf
    rw [List.length_map]
    exact Nat.le_trans hh (by decide)
  · rw [List.map_map]
    rfl
  · intro K H v p
    unfold shareB
    rw [List.any_map] at p
    exact p
def rBar : List Ty → Ty → Prop := fun Ts T => ∃ (g h : Fig), Ts = [tD (eF g), tD (eF h)] ∧ g.length ≤ 1000 ∧ h.length ≤ 1000 ∧ T = tD (.bool (barB g h))
theorem scBar : FnScope ["one", "other", "wants", "pad", "note", "depth"] ["one", "other"] (defScope sBar) := ⟨rfl, rfl, rfl, by decide +kernel, rfl, by decide +kernel, by decide +kernel⟩
theorem ok_bar (ha : E.mg "any" = none) (F : FnP E.K "bar" sBar f fd) : Ok E 1 f fd ["one", "other"] rBar := by
  refine defOk F scBar (fun Ts T ⟨g, h, e, _⟩ => by subst e; rfl) ?_
  rintro Ts T ⟨g, h, rfl, hg, hh, rfl⟩
  have nd := scBar.nd
  refine ds_set (dc_val eT g (fun t => t.1) (fun t => t.2.1) [("pad", 3), ("note", 4), ("depth", 5)] (di_tup (dv 0)) nd (dg_tup3 (stn 3) (stn 4) (stn 5)) (Nat.le_trans hg (by decide)) fun t _ => ⟨_, gr_tup3, dv 3, dv 4⟩) (stn 2) ?_ (fun env l h => by cases env; cases h; rfl)
  refine ds_ret (anyL (bs := h.map fun t => match lookI (dictOf g) t.1 with | some n => !decide (n = t.2.1) | none => false) ha ((lc_map eT h (fun t => .bool (match lookI (dictOf g) t.1 with | some n => !decide (n = t.2.1) | none => false)) [("pad", 3), ("note", 4), ("depth", 5)] (di_tup (dv 1)) nd (dg_tup3 (stn 3) (stn 4) (stn 5)) (Nat.le_trans hh (by decide)) fun t _ => ⟨_, gr_tup3, ?_⟩).isL ?_)) ?_
  · refine (d_and (l := match lookI (dictOf g) t.1 with | some n => !decide (n = t.2.1) | none => false) (d_din (kvs := dictOf g) (k := t.1) (dv 3) (dv 2)) (fun hk => ?_)).is ?_
    · obtain ⟨n, hn⟩ := Option.isSome_iff_exists.mp hk
      rw [hn]
      exact d_one (d_neI (d_dget (kvs := dictOf g) (dv 2) (dv 3) hn) (dv 4))
    · cases lookI (dictOf g) t.1 <;> rfl
  · rw [List.map_map]
    rfl
  · intro K H v p
    unfold barB
    rw [List.any_map] at p
    exact p
def eB (figs : List Fig) : PyData := .tuple (figs.map eF)
def rNeedBarred : List Ty → Ty → Prop := fun Ts T => ∃ (figs : List Fig), Ts = [tD (eB figs)] ∧ figs.length ≤ 1000 ∧ (∀ g ∈ figs, g.length ≤ 1000) ∧ (∀ (i j : Nat) (g h : Fig), i < j → figs[i]? = some g → figs[j]? = some h → shareB g h = true → barB g h = true) ∧ T = tD .none
theorem scNeedBarred : FnScope ["figures", "one", "other"] ["figures"] (defScope sNeedBarred) := ⟨rfl, rfl, rfl, by decide +kernel, rfl, by decide +kernel, by decide +kernel⟩
theorem upD_get {lo : Int} {n i : Nat} {d : PyData} (h : (upD lo n)[i]? = some d) : i < n ∧ d = .int (lo + (i : Nat)) := by
  have hl := (List.getElem?_eq_some_iff.mp h).1
  rw [upD_len] at hl
  unfold upD at h
  rw [List.getElem?_map, List.getElem?_range hl] at h
  exact ⟨hl, (Option.some.inj h).symm⟩
theorem at_nat {l : List PyData} {i : Int} {j : Nat} {d : PyData} (e : i = (j : Nat)) (h : l[j]? = some d) : atI l i = some d := by
  subst e
  exact atI_nat h
theorem ok_need_barred (hl : E.mg "len" = none) (hr : E.mg "range" = none) (KS : Kn E 2 "share" rShare) (KB : Kn E 1 "bar" rBar) (F : FnP E.K "need_barred" sNeedBarred f fd) : Ok E 3 f fd ["figures"] rNeedBarred := by
  refine defOk F scNeedBarred (fun Ts T ⟨g, e, _⟩ => by subst e; rfl) ?_
  rintro Ts T ⟨figs, rfl, h1, h2, h3, rfl⟩
  have nd := scNeedBarred.nd
  have len : (figs.map eF).length = figs.length := List.length_map ..
  have z0 : DS _ [] [some (sD (eB figs)), none, none] (retP (tD .none)) := ds_nil (C := defC E ["figures", "one", "other"] (defScope sNeedBarred) 2) (Ty.le_refl _) Gle.refl
  refine ds_for (di_range1 (isb hr) (lenT hl (dv 0)) (by omega) (by rw [len]; omega)) (dg_name (stn 1)) (fun i Γ => Γ = [some (sD (eB figs)), none, none]) rfl ?_ ?_
  · rintro i d Γ1 hd rfl
    obtain ⟨hi, rfl⟩ := upD_get hd
    rw [len] at hi
    have hi' : i < figs.length := by omega
    refine ⟨_, _, gr_name, ?_⟩
    refine ds_for (di_range2 (isb hr) (d_add (dv 1) d_int) (lenT hl (dv 0)) (by omega) (by omega) (by omega) (by rw [len]; omega)) (dg_name (stn 2)) (fun j Γ => Γ = [some (sD (eB figs)), some (sD (.int (0 + (i : Nat)))), none]) rfl ?_ ?_
    · rintro j d2 Γ2 hd2 rfl
      obtain ⟨hj, rfl⟩ := upD_get hd2
      rw [len] at hj
      have hj' : i + 1 + j < figs.length := by omega
      refine ⟨_, _, gr_name, ?_⟩
      obtain ⟨g, hg⟩ : ∃ g, figs[i]? = some g := ⟨_, List.getElem?_eq_getElem hi'⟩
      obtain ⟨g2, hg2⟩ : ∃ g, figs[i + 1 + j]? = some g := ⟨_, List.getElem?_eq_getElem hj'⟩
      have ga : atI (figs.map eF) (0 + (i : Nat)) = some (eF g) := at_nat (j := i) (by omega) (by rw [List.getElem?_map, hg]; rfl)
      have gb : atI (figs.map eF) (0 + (i : Nat) + 1 + (j : Nat)) = some (eF g2) := at_nat (j := i + 1 + j) (by omega) (by rw [List.getElem?_map, hg2]; rfl)
      have l1 := h2 g (List.mem_of_getElem? hg)
      have l2 := h2 g2 (List.mem_of_getElem? hg2)
      refine ds_pass (DW.dt ((?_ : DW _ _ _ (shareB g g2 && !barB g g2))) |>.is ?_) (ds_nil rfl ⟨rfl, rfl, trivial⟩)
      · exact dw_and (tv (cl2 KS (d_ixT (dv 0) (dv 1) ga) (d_ixT (dv 0) (dv 2) gb) ⟨g, g2, rfl, l1, l2, rfl⟩)) fun _ => dw_and1 (dt_not (tv (cl2 KB (d_ixT (dv 0) (dv 1) ga) (d_ixT (dv 0) (dv 2) gb) ⟨g, g2, rfl, l1, l2, rfl⟩)))
      · have := h3 i (i + 1 + j) g g2 (by omega) hg hg2
        cases e : shareB g g2 with
        | false => rfl
        | true =>
          rw [this e]
          rfl
    · rintro Γ2 rfl
      exact ds_nil rfl ⟨rfl, trivial⟩
  · rintro Γ1 rfl
    exact ds_nil (Γ' := [some (sD (eB figs)), none, none]) (Ty.le_refl _) Gle.refl
end
end Tb
set_option Elab.async false
set_option linter.all false
set_option maxRecDepth 100000
set_option maxHeartbeats 1000000
namespace Tb
open PySem PySem.Spec PyProof.Rows L2 DL
/-! ### books: is_triple, is_figure, need_figures, need_colours, need_tie -/
structure OkTri (cols : List Int) (t : Tri) : Prop where
  p0 : 0 ≤ t.1
  c : ∃ c, cols[t.1.toNat]? = some c ∧ t.2.1 < c
  n0 : 0 ≤ t.2.1
  d1 : 1 ≤ t.2.2
  d3 : t.2.2 ≤ 3
structure OkFig (cols : List Int) (g : Fig) : Prop where
  tri : ∀ t ∈ g, OkTri cols t
  up : g.Pairwise fun s t => s.1 < t.1
  ne : g ≠ []
section
variable {E : Ev} {f : Addr} {fd : FuncData}
theorem at_int {l : List PyData} {i : Int} {d : PyData} (h0 : 0 ≤ i) (h : l[i.toNat]? = some d) : atI l i = some d := at_nat (j := i.toNat) (by omega) h
def rIsTriple : List Ty → Ty → Prop := fun Ts T => ∃ (cols : List Int) (t : Tri) (l : Int), Ts = [tD (eIt cols), tD (eT t), tD (.int l)] ∧ OkTri cols t ∧ l ≤ t.1 ∧ T = tD (.bool true)
theorem scIsTriple : FnScope ["colours", "triple", "least", "pad", "note", "depth"] ["colours", "triple", "least"] (defScope sIsTriple) := ⟨rfl, rfl, rfl, by decide +kernel, rfl, by decide +kernel, by decide +kernel⟩
theorem ok_is_triple (hl : E.mg "len" = none) (hD : ∃ t, E.mg "MOST_DEPTH" = some (.int 3 t)) (F : FnP E.K "is_triple" sIsTriple f fd) : Ok E 1 f fd ["colours", "triple", "least"] rIsTriple := by
  refine defOk F scIsTriple (fun Ts T ⟨_, _, _, e, _⟩ => by subst e; rfl) ?_
  rintro Ts T ⟨cols, t, l, rfl, ok, hlt, rfl⟩
  have nd := scIsTriple.nd
  obtain ⟨c, hc, hcl⟩ := ok.c
  have hp : t.1 < (cols.length : Int) := by
    have := (List.getElem?_eq_some_iff.mp hc).1
    have := ok.p0
    omega
  refine ds_pass ((dt_neI (lenT hl (dv 1)) d_int).is rfl) ?_
  refine ds_unp (dv 1) (dg_tup3 (stn 3) (stn 4) (stn 5)) gr_tup3 ?_
  refine ds_pass ((dt_not (tlelt (dv 2) (dv 3) (lenT hl (dv 0)))).is ?_) ?_
  · rw [List.length_map, decide_eq_true hlt, decide_eq_true hp]
    rfl
  refine ds_ret ((d_and (lelt d_int (dv 4) (d_ixT (d := .int c) (dv 0) (dv 3) (at_int ok.p0 (by rw [List.getElem?_map, hc]; rfl)))) fun _ => d_one (lele d_int (dv 5) (gl hD))).is ?_) (Ty.le_refl _)
  rw [decide_eq_true ok.n0, decide_eq_true hcl, decide_eq_true ok.d1, decide_eq_true ok.d3]
  rfl
def rIsFigure : List Ty → Ty → Prop := fun Ts T => ∃ (cols : List Int) (g : Fig), Ts = [tD (eIt cols), tD (eFl g)] ∧ OkFig cols g ∧ T = tD (.bool true)
theorem scIsFigure : FnScope ["colours", "figure", "least", "triple"] ["colours", "figure"] (defScope sIsFigure) := ⟨rfl, rfl, rfl, by decide +kernel, rfl, by decide +kernel, by decide +kernel⟩
theorem ok_is_figure (hl : E.mg "len" = none) (KT : Kn E 1 "is_triple" rIsTriple) (F : FnP E.K "is_figure" sIsFigure f fd) : Ok E 2 f fd ["colours", "figure"] rIsFigure := by
  refine defOk F scIsFigure (fun Ts T ⟨_, _, e, _⟩ => by subst e; rfl) ?_
  rintro Ts T ⟨cols, g, rfl, ok, rfl⟩
  have nd := scIsFigure.nd
  refine ds_set d_int (stn 2) ?_
  refine ds_for (di_list (dv 1)) (dg_name (stn 3)) (fun i Γ => ∃ l : Int, Γ = [some (sD (eIt cols)), some (sD (eFl g)), some (sD (.int l)), none] ∧ ∀ t, g[i]? = some t → l ≤ t.1) ⟨0, rfl, fun t ht => (ok.tri t (List.mem_of_getElem? ht)).p0⟩ ?_ ?_
  · rintro i d Γ1 hd ⟨l, rfl, hlt⟩
    rw [List.getElem?_map] at hd
    obtain ⟨t, ht, rfl⟩ := Option.map_eq_some_iff.mp hd
    have okt := ok.tri t (List.mem_of_getElem? ht)
    refine ⟨_, _, gr_name, ?_⟩
    refine ds_pass ((dt_not (k := true) (tv (cl3 KT (dv 0) (dv 3) (dv 2) ⟨cols, t, l, rfl, okt, hlt t ht, rfl⟩))).is rfl) ?_
    refine ds_set (d_add (d_ixT (dv 3) d_int rfl) d_int) (stn 2) ?_
    refine ds_nil ⟨t.1 + 1, rfl, fun t' ht' => ?_⟩ ⟨rfl, rfl, rfl, trivial⟩
    have := List.pairwise_iff_getElem.mp ok.up i (i + 1) (List.getElem?_eq_some_iff.mp ht).1 (List.getElem?_eq_some_iff.mp ht').1 (Nat.lt_succ_self i)
    rw [(List.getElem?_eq_some_iff.mp ht).2, (List.getElem?_eq_some_iff.mp ht').2] at this
    omega
  · rintro Γ1 ⟨l, rfl, _⟩
    refine ds_ret ((d_gt (lenL hl (dv 1)) d_int).is ?_) (Ty.le_refl _)
    rw [List.length_map, decide_eq_true]
    have := List.length_pos_iff.mpr ok.ne
    omega
def eFs (figs : List Fig) : PyData := .list (figs.map eFl)
def rNeedFigures : List Ty → Ty → Prop := fun Ts T => ∃ (cols : List Int) (figs : List Fig), Ts = [tD (eIt cols), tD (eFs figs)] ∧ figs.length ≤ 12 ∧ (∀ g ∈ figs, OkFig cols g) ∧ T = tD .none
theorem scNeedFigures : FnScope ["colours", "figures", "at", "figure"] ["colours", "figures"] (defScope sNeedFigures) := ⟨rfl, rfl, rfl, by decide +kernel, rfl, by decide +kernel, by decide +kernel⟩
theorem ok_need_figures (hl : E.mg "len" = none) (he : E.mg "enumerate" = none) (hM : ∃ t, E.mg "MOST_FIGURES" = some (.int 12 t)) (KF : Kn E 2 "is_figure" rIsFigure) (F : FnP E.K "need_figures" sNeedFigures f fd) : Ok E 3 f fd ["colours", "figures"] rNeedFigures := by
  refine defOk F scNeedFigures (fun Ts T ⟨_, _, e, _⟩ => by subst e; rfl) ?_
  rintro Ts T ⟨cols, figs, rfl, hlen, ok, rfl⟩
  have nd := scNeedFigures.nd
  refine ds_pass ((dt_gt (lenL hl (dv 1)) (gl hM)).is ?_) ?_
  · rw [List.length_map, decide_eq_false]
    omega
  refine ds_for (di_enum (isb he) (dv 1)) (dg_tup2 (stn 2) (stn 3)) (fun i Γ => Γ = [some (sD (eIt cols)), some (sD (eFs figs)), none, none]) rfl ?_ ?_
  · rintro i d Γ1 hd rfl
    obtain ⟨x, hx, rfl⟩ := enD_get hd
    rw [List.getElem?_map] at hx
    obtain ⟨g, hg, rfl⟩ := Option.map_eq_some_iff.mp hx
    refine ⟨_, _, gr_tup2, ?_⟩
    exact ds_pass ((dt_not (k := true) (tv (cl2 KF (dv 0) (dv 3) ⟨cols, g, rfl, ok g (List.mem_of_getElem? hg), rfl⟩))).is rfl) (ds_nil rfl ⟨rfl, rfl, trivial⟩)
  · rintro Γ1 rfl
    exact ds_nil (Γ' := [some (sD (eIt cols)), some (sD (eFs figs)), none, none]) (Ty.le_refl _) Gle.refl
def rNeedColours : List Ty → Ty → Prop := fun Ts T => ∃ (cols : List Int), Ts = [tD (eIt cols)] ∧ 1 ≤ cols.length ∧ cols.length ≤ 6 ∧ (∀ c ∈ cols, 1 ≤ c ∧ c ≤ 4) ∧ T = tD .none
theorem scNeedColours : FnScope ["colours", "at", "many"] ["colours"] (defScope sNeedColours) := ⟨rfl, rfl, rfl, by decide +kernel, rfl, by decide +kernel, by decide +kernel⟩
theorem ok_need_colours (hl : E.mg "len" = none) (he : E.mg "enumerate" = none) (hM : ∃ t, E.mg "MOST_PADS" = some (.int 6 t)) (hC : ∃ t, E.mg "MOST_COLOURS" = some (.int 4 t)) (F : FnP E.K "need_colours" sNeedColours f fd) : Ok E 1 f fd ["colours"] rNeedColours := by
  refine defOk F scNeedColours (fun Ts T ⟨_, e, _⟩ => by subst e; rfl) ?_
  rintro Ts T ⟨cols, rfl, h1, h6, ok, rfl⟩
  have nd := scNeedColours.nd
  refine ds_pass ((dt_not (tlele d_int (lenT hl (dv 0)) (gl hM))).is ?_) ?_
  · rw [List.length_map, decide_eq_true (show (1 : Int) ≤ (cols.length : Nat) by omega), decide_eq_true (show ((cols.length : Nat) : Int) ≤ 6 by omega)]
    rfl
  refine ds_for (di_enumT (isb he) (dv 0)) (dg_tup2 (stn 1) (stn 2)) (fun i Γ => Γ = [some (sD (eIt cols)), none, none]) rfl ?_ ?_
  · rintro i d Γ1 hd rfl
    obtain ⟨x, hx, rfl⟩ := enD_get hd
    rw [List.getElem?_map] at hx
    obtain ⟨c, hc, rfl⟩ := Option.map_eq_some_iff.mp hx
    refine ⟨_, _, gr_tup2, ?_⟩
    refine ds_pass ((dt_not (tlele d_int (dv 2) (gl hC))).is ?_) (ds_nil rfl ⟨rfl, trivial⟩)
    have := ok c (List.mem_of_getElem? hc)
    rw [decide_eq_true this.1, decide_eq_true this.2]
    rfl
  · rintro Γ1 rfl
    exact ds_nil (Γ' := [some (sD (eIt cols)), none, none]) (Ty.le_refl _) Gle.refl
def eTie (t : Int × Int) : PyData := .tuple [.int t.1, .int t.2]
def rNeedTie : List Ty → Ty → Prop := fun Ts T => ∃ (n : Int) (t : Int × Int), Ts = [tD (.int n), tD (eTie t)] ∧ 0 ≤ t.1 ∧ t.1 < n ∧ 0 ≤ t.2 ∧ t.2 < n ∧ t.1 ≠ t.2 ∧ T = tD .none
theorem scNeedTie : FnScope ["points", "tie", "start", "goal", "point"] ["points", "tie"] (defScope sNeedTie) := ⟨rfl, rfl, rfl, by decide +kernel, rfl, by decide +kernel, by decide +kernel⟩
theorem ok_need_tie (F : FnP E.K "need_tie" sNeedTie f fd) : Ok E 1 f fd ["points", "tie"] rNeedTie := by
  refine defOk F scNeedTie (fun Ts T ⟨_, _, e, _⟩ => by subst e; rfl) ?_
  rintro Ts T ⟨n, ⟨a, b⟩, rfl, a0, an, b0, bn, hne, rfl⟩
  have nd := scNeedTie.nd
  refine ds_unp (dv 1) (dg_tup2 (stn 2) (stn 3)) gr_tup2 ?_
  refine ds_for (di_tup (dv 1)) (dg_name (stn 4)) (fun i Γ => Γ = [some (sD (.int n)), some (sD (eTie (a, b))), some (sD (.int a)), some (sD (.int b)), none]) rfl ?_ ?_
  · rintro i d Γ1 hd rfl
    obtain ⟨c, rfl, hc⟩ : ∃ c : Int, d = .int c ∧ 0 ≤ c ∧ c < n := by
      match i, hd with
      | 0, hd => exact ⟨a, (Option.some.inj hd).symm, a0, an⟩
      | 1, hd => exact ⟨b, (Option.some.inj hd).symm, b0, bn⟩
    refine ⟨_, _, gr_name, ds_pass ((dt_not (tlelt d_int (dv 4) (dv 0))).is ?_) (ds_nil rfl ⟨rfl, rfl, rfl, rfl, trivial⟩)⟩
    rw [decide_eq_true hc.1, decide_eq_true hc.2]
    rfl
  · rintro Γ1 rfl
    exact ds_pass ((dt_eqI (dv 2) (dv 3)).is (decide_eq_false hne)) (ds_nil (Γ' := [some (sD (.int n)), some (sD (eTie (a, b))), some (sD (.int a)), some (sD (.int b)), none]) (Ty.le_refl _) Gle.refl)
end
end Tb
set_option Elab.async false
set_option linter.all false
set_option maxRecDepth 100000
set_option maxHeartbeats 1000000
namespace DL
open PySem PySem.Spec PyProof.Rows L2
section
variable {C : Cc} {Γ : Gm} {T Ta : Ty} {e a b c : Expr} {pos p : Pos}
theorem tupL {ds : List PyData} (hm : C.E.mg ("tuple" : Str) = none) (ha : DE C e Γ (tL ds)) (hg : C.sc.names.lookup ("tuple" : Str) = some .globalImplicit := by rfl) (he : ∀ env : Env, starEach [e] env = (false, eval e env) :: starEach [] env := by intro _; rfl) : DE C (.Call (.Name "tuple" p) [e] [] pos) Γ (tD (.tuple ds)) := d_tupleL he ⟨hg, hm⟩ (ha.le tL_le)
theorem tupD {ds : List PyData} (hm : C.E.mg ("tuple" : Str) = none) (ha : DE C e Γ (tD (.list ds))) (hg : C.sc.names.lookup ("tuple" : Str) = some .globalImplicit := by rfl) (he : ∀ env : Env, starEach [e] env = (false, eval e env) :: starEach [] env := by intro _; rfl) : DE C (.Call (.Name "tuple" p) [e] [] pos) Γ (tD (.tuple ds)) := d_tupleL he ⟨hg, hm⟩ ha
theorem tupT {ds : List PyData} (hm : C.E.mg ("tuple" : Str) = none) (ha : DE C e Γ (tD (.tuple ds))) (hg : C.sc.names.lookup ("tuple" : Str) = some .globalImplicit := by rfl) (he : ∀ env : Env, starEach [e] env = (false, eval e env) :: starEach [] env := by intro _; rfl) : DE C (.Call (.Name "tuple" p) [e] [] pos) Γ (tD (.tuple ds)) := d_tupleT he ⟨hg, hm⟩ ha
theorem listT {ds : List PyData} (hm : C.E.mg ("list" : Str) = none) (ha : DE C e Γ (tD (.tuple ds))) (hg : C.sc.names.lookup ("list" : Str) = some .globalImplicit := by rfl) (he : ∀ env : Env, starEach [e] env = (false, eval e env) :: starEach [] env := by intro _; rfl) : DEo C (.Call (.Name "list" p) [e] [] pos) Γ ds := do_list he ⟨hg, hm⟩ (.inl ha)
theorem listL {ds : List PyData} (hm : C.E.mg ("list" : Str) = none) (ha : DE C e Γ (tD (.list ds))) (hg : C.sc.names.lookup ("list" : Str) = some .globalImplicit := by rfl) (he : ∀ env : Env, starEach [e] env = (false, eval e env) :: starEach [] env := by intro _; rfl) : DEo C (.Call (.Name "list" p) [e] [] pos) Γ ds := do_list he ⟨hg, hm⟩ (.inr ha)
end
end DL
namespace Tb
open PySem PySem.Spec PyProof.Rows L2 DL
/-! ### Book -/
/-- ints within bounds, rising: no more than the bounds hold -/
theorem rise_len {n : Int} : ∀ {l : List Int} {lo : Int}, l.Pairwise (· < ·) → (∀ x ∈ l, lo ≤ x ∧ x < n) → (l.length : Int) ≤ max 0 (n - lo)
  | [], lo, _, _ => by simp; omega
  | x :: l, lo, hp, h => by
    have h1 := h x (List.mem_cons_self ..)
    have h2 := List.pairwise_cons.mp hp
    have ih := rise_len (n := n) (l := l) (lo := x + 1) h2.2 fun y hy => ⟨by have := h2.1 y hy; omega, (h y (List.mem_cons_of_mem _ hy)).2⟩
    rw [List.length_cons]
    omega
theorem OkTri.lt {cols : List Int} {t : Tri} (h : OkTri cols t) : t.1 < (cols.length : Int) := by
  obtain ⟨c, hc, _⟩ := h.c
  have := (List.getElem?_eq_some_iff.mp hc).1
  have := h.p0
  omega
theorem OkFig.rise {cols : List Int} {g : Fig} (h : OkFig cols g) : (padsOf g).Pairwise (· < ·) := List.pairwise_map.mpr h.up
theorem OkFig.len {cols : List Int} {g : Fig} (h : OkFig cols g) : g.length ≤ cols.length := by
  have := rise_len (n := cols.length) (lo := 0) h.rise fun x hx => by
    obtain ⟨t, ht, rfl⟩ := List.mem_map.mp hx
    exact ⟨(h.tri t ht).p0, (h.tri t ht).lt⟩
  unfold padsOf at this
  rw [List.length_map] at this
  omega
structure OkBook (cols : List Int) (figs : List Fig) : Prop where
  c1 : 1 ≤ cols.length
  c6 : cols.length ≤ 6
  c4 : ∀ c ∈ cols, 1 ≤ c ∧ c ≤ 4
  f12 : figs.length ≤ 12
  fig : ∀ g ∈ figs, OkFig cols g
  bar : ∀ (i j : Nat) (g h : Fig), i < j → figs[i]? = some g → figs[j]? = some h → shareB g h = true → barB g h = true
theorem OkBook.g6 {cols : List Int} {figs : List Fig} (h : OkBook cols figs) {g : Fig} (hg : g ∈ figs) : g.length ≤ 6 := Nat.le_trans (h.fig g hg).len h.c6
theorem OkBook.gK {cols : List Int} {figs : List Fig} (h : OkBook cols figs) {g : Fig} (hg : g ∈ figs) : g.length ≤ 1000 := Nat.le_trans (h.g6 hg) (by decide)
abbrev bkT (A : Addr) (cols : List Int) (figs : List Fig) : Ty := tI A ["hues", "shapes"] [("hues", tD (eIt cols)), ("shapes", tD (eB figs))]
structure BkC (E : Ev) (A : Addr) : Prop where
  cl : Cls E.K A
  hues : NoAttr E.K A "hues"
  shapes : NoAttr E.K A "shapes"
section
variable {E : Ev} {f : Addr} {fd : FuncData} {A : Addr}
abbrev FnM (K : PySem.W.Frag) (c x q : Str) (st : Stmt) (kws : List (Str × V)) (f : Addr) (fd : FuncData) : Prop := FunD K x q (defArgs st) (defBody st) (defScope st) [] kws f fd
abbrev bkF (cols : List Int) (figs : List Fig) : List (Str × Fd) := [("hues", fv (tD (eIt cols))), ("shapes", fv (tD (eB figs)))]
def rBookInit : RO := fun fts Ts fts' T => ∃ cols figs, fts = [] ∧ Ts = [tD (eIt cols), tD (eFs figs)] ∧ OkBook cols figs ∧ fts' = bkF cols figs ∧ T = tD .none
theorem scBookInit : FnScope ["self", "colours", "figures", "figure", "triple"] ["self", "colours", "figures"] (defScope sBookInit) := ⟨rfl, rfl, rfl, by decide +kernel, rfl, by decide +kernel, by decide +kernel⟩
theorem ok_book_init (bc : BkC E A) (ht : E.mg "tuple" = none) (KC : Kn E 1 "need_colours" rNeedColours) (KF : Kn E 3 "need_figures" rNeedFigures) (KB : Kn E 3 "need_barred" rNeedBarred) {kws : List (Str × V)} (F : FnM E.K "Book" "__init__" "Book.__init__" sBookInit kws f fd) :
    FnOk E.P E.w E.K E.mg E.base CX0 4 f fd ["self", "colours", "figures"] (spO E.K A rBookInit) := by
  refine def_okO (P := E.P) (w := E.w) (mg := E.mg) (base := E.base) F scBookInit (fun fts Ts fts' T ⟨_, _, _, e, _⟩ => by subst e; rfl) ?_
  rintro p fts Ts fts' T ⟨cols, figs, rfl, rfl, ok, rfl, rfl⟩
  have nd := scBookInit.nd
  refine ds_expr (cl1 KC (dv 1) ⟨cols, rfl, ok.c1, ok.c6, ok.c4, rfl⟩) ?_
  refine ds_expr (cl2 KF (dv 1) (dv 2) ⟨cols, figs, rfl, ok.f12, ok.fig, rfl⟩) ?_
  refine ds_fset 0 (tupT ht (dv 1)) bc.cl bc.hues ?_
  refine ds_fset 0 (tupL (ds := figs.map eF) ht (lc_map eFl figs eF [("figure", 3)] (di_list (dv 2)) nd (dg_name (stn 3)) (Nat.le_trans ok.f12 (by decide)) fun g hg => ⟨_, gr_name, ?_⟩)) bc.cl bc.shapes ?_
  · exact tupL (ds := g.map eT) ht (lc_map eT g eT [("triple", 4)] (di_list (dv 3)) nd (dg_name (stn 4)) (Nat.le_trans (ok.g6 hg) (by decide)) fun t _ => ⟨_, gr_name, tupT ht (dv 4)⟩)
  · exact ds_expr (cl1 KB (d_fldO 0 bc.cl bc.shapes) ⟨figs, rfl, Nat.le_trans ok.f12 (by decide), fun g hg => ok.gK hg, ok.bar, rfl⟩) (ds_nil ⟨rfl, Ty.le_refl _⟩ Gle.refl)
def rBookColours (A : Addr) : List Ty → Ty → Prop := fun Ts T => ∃ cols figs, Ts = [bkT A cols figs] ∧ T = tD (eIt cols)
theorem scBookColours : FnScope ["self"] ["self"] (defScope sBookColours) := ⟨rfl, rfl, rfl, by decide +kernel, rfl, by decide +kernel, by decide +kernel⟩
theorem ok_book_colours (bc : BkC E A) (F : FnM E.K "Book" "colours" "Book.colours" sBookColours [] f fd) : Ok E 1 f fd ["self"] (rBookColours A) := by
  refine defOk F scBookColours (fun Ts T ⟨_, _, e, _⟩ => by subst e; rfl) ?_
  rintro Ts T ⟨cols, figs, rfl, rfl⟩
  exact ds_ret (fld (dv 0) (fldI bc.cl bc.hues rfl)) (Ty.le_refl _)
def rBookPads (A : Addr) : List Ty → Ty → Prop := fun Ts T => ∃ cols figs, Ts = [bkT A cols figs] ∧ T = tD (.int (cols.length : Nat))
theorem scBookPads : FnScope ["self"] ["self"] (defScope sBookPads) := ⟨rfl, rfl, rfl, by decide +kernel, rfl, by decide +kernel, by decide +kernel⟩
theorem ok_book_pads (bc : BkC E A) (hl : E.mg "len" = none) (F : FnM E.K "Book" "pads" "Book.pads" sBookPads [] f fd) : Ok E 1 f fd ["self"] (rBookPads A) := by
  refine defOk F scBookPads (fun Ts T ⟨_, _, e, _⟩ => by subst e; rfl) ?_
  rintro Ts T ⟨cols, figs, rfl, rfl⟩
  refine ds_ret ((lenT (ds := cols.map .int) hl (fld (dv 0) (fldI bc.cl bc.hues rfl))).is ?_) (Ty.le_refl _)
  rw [List.length_map]
def rBookFigures (A : Addr) : List Ty → Ty → Prop := fun Ts T => ∃ cols figs, Ts = [bkT A cols figs] ∧ T = tL (figs.map eF)
theorem scBookFigures : FnScope ["self"] ["self"] (defScope sBookFigures) := ⟨rfl, rfl, rfl, by decide +kernel, rfl, by decide +kernel, by decide +kernel⟩
theorem ok_book_figures (bc : BkC E A) (hl : E.mg "list" = none) (F : FnM E.K "Book" "figures" "Book.figures" sBookFigures [] f fd) : Ok E 1 f fd ["self"] (rBookFigures A) := by
  refine defOk F scBookFigures (fun Ts T ⟨_, _, e, _⟩ => by subst e; rfl) ?_
  rintro Ts T ⟨cols, figs, rfl, rfl⟩
  exact ds_ret (DEo.l (listT (ds := figs.map eF) hl (fld (dv 0) (fldI bc.cl bc.shapes rfl)))) (Ty.le_refl _)
def rBookShape (A : Addr) : List Ty → Ty → Prop := fun Ts T => ∃ cols figs k g, Ts = [bkT A cols figs, tD (.int (k : Nat))] ∧ figs[k]? = some g ∧ T = tD (eF g)
theorem scBookShape : FnScope ["self", "at"] ["self", "at"] (defScope sBookShape) := ⟨rfl, rfl, rfl, by decide +kernel, rfl, by decide +kernel, by decide +kernel⟩
theorem ok_book_shape (bc : BkC E A) (hl : E.mg "len" = none) (F : FnM E.K "Book" "shape" "Book.shape" sBookShape [] f fd) : Ok E 1 f fd ["self", "at"] (rBookShape A) := by
  refine defOk F scBookShape (fun Ts T ⟨_, _, _, _, e, _⟩ => by subst e; rfl) ?_
  rintro Ts T ⟨cols, figs, k, g, rfl, hk, rfl⟩
  have hlt := (List.getElem?_eq_some_iff.mp hk).1
  refine ds_pass ((dt_not (tlelt d_int (dv 1) (lenT (ds := figs.map eF) hl (fld (dv 0) (fldI bc.cl bc.shapes rfl))))).is ?_) ?_
  · rw [List.length_map, decide_eq_true (show (0 : Int) ≤ (k : Nat) by omega), decide_eq_true (show ((k : Nat) : Int) < (figs.length : Nat) by omega)]
    rfl
  · exact ds_ret (d_ixT (ds := figs.map eF) (fld (dv 0) (fldI bc.cl bc.shapes rfl)) (dv 1) (at_nat (j := k) rfl (by rw [List.getElem?_map, hk]; rfl))) (Ty.le_refl _)
end
end Tb
set_option Elab.async false
set_option linter.all false
set_option maxRecDepth 100000
set_option maxHeartbeats 1000000
namespace DL
open PySem PySem.Spec PyProof.Rows L2
section
variable {C : Cc} {Γ : Gm} {T Ta : Ty} {e a b c : Expr} {pos p : Pos}
theorem o_cat {ds es : List PyData} (hl : ds.length + es.length ≤ 1000000) : Op2 C (fun _ => rCat) (tL ds) (tL es) (tL (ds ++ es)) := fun G H x y Q s ⟨p, xs, e, hq, r⟩ ⟨p', ys, e', hq', r'⟩ q => by
  refine ⟨p, p', xs, ys, e, e', s _ _ hq, s _ _ hq', small_line (by rw [dpa_len r, dpa_len r']; exact hl), fun m hm => ?_⟩
  obtain ⟨f', t⟩ := new_tL s hm (dpa_app r r')
  exact q _ _ _ f' t
theorem d_lst1x {α : Type} {F : α → Prop} {dd : α → PyData} (h : DE C e Γ (tEx F fun z => tD (dd z))) (hs : ∀ env : Env, starEach [e] env = (false, eval e env) :: starEach [] env := by intro _; rfl) : DE C (.List [e] pos) Γ (tEx F fun z => tL [dd z]) := by
  intro X ok G0 W G σ H Q s q
  refine w_pe (pe_lst (pa_cons pe_w pa_nil (hs _))) ?_
  refine h X ok G0 W G σ H _ s fun v G1 H1 f1 ⟨z, fz, pv⟩ => ?_
  refine ⟨small_line (n := 1) (by decide), fun p hp => ?_⟩
  obtain ⟨f, t⟩ := new_tL f1.s hp (DpAll.cons pv .nil)
  exact q _ _ _ (f1.trans f) ⟨z, fz, t⟩
theorem tEx_le {α : Type} {F : α → Prop} {U U' : α → Ty} (h : ∀ z, F z → (U z).le (U' z)) : (tEx F U).le (tEx F U') := fun K H v ⟨z, fz, p⟩ => ⟨z, fz, h z fz K H v p⟩
end
end DL
namespace Tb
open PySem PySem.Spec PyProof.Rows L2 DL
theorem perm_map_inv {α β : Type} (f : α → β) {l' : List β} {m : List β} (p : l'.Perm m) : ∀ {l : List α}, m = l.map f → ∃ l2 : List α, l2.Perm l ∧ l' = l2.map f := by
  induction p with
  | nil =>
    intro l e
    cases l with
    | nil => exact ⟨[], .refl _, rfl⟩
    | cons => cases e
  | cons x p ih =>
    intro l e
    cases l with
    | nil => cases e
    | cons a l =>
      rw [List.map_cons] at e
      injection e with e1 e2
      obtain ⟨l2, p2, e3⟩ := ih e2
      exact ⟨a :: l2, p2.cons a, by rw [List.map_cons, e1, e3]⟩
  | swap x y zs =>
    intro l e
    match l, e with
    | a :: b :: l, e =>
      rw [List.map_cons, List.map_cons] at e
      injection e with e1 e2
      injection e2 with e2 e3
      exact ⟨b :: a :: l, .swap .., by rw [List.map_cons, List.map_cons, e1, e2, e3]⟩
  | trans p q ih1 ih2 =>
    intro l e
    obtain ⟨l2, p2, e2⟩ := ih2 e
    obtain ⟨l1, p1, e1⟩ := ih1 e2
    exact ⟨l1, p1.trans p2, e1⟩
/-! ### Book.parts -/
structure PartsOk (n : Nat) (ps : List (List Int)) : Prop where
  el : ∀ p ∈ ps, ∀ x ∈ p, 0 ≤ x ∧ x < (n : Int)
  len : ps.length ≤ 18
  each : ∀ p ∈ ps, p.length ≤ 6
section
variable {E : Ev} {f : Addr} {fd : FuncData} {A : Addr}
def rBookParts (A : Addr) : List Ty → Ty → Prop := fun Ts T => ∃ cols figs, Ts = [bkT A cols figs] ∧ OkBook cols figs ∧ T = tEx (fun ps : List (List Int) => PartsOk cols.length ps) fun ps => tL (ps.map lI)
theorem scBookParts : FnScope ["self", "found", "figure", "mine", "bound", "apart", "pad", "part"] ["self"] (defScope sBookParts) := ⟨rfl, rfl, rfl, by decide +kernel, rfl, by decide +kernel, by decide +kernel⟩
structure PInv (n i : Nat) (fs : List (List Int)) : Prop where
  el : ∀ p ∈ fs, ∀ x ∈ p, 0 ≤ x ∧ x < (n : Int)
  len : fs.length ≤ n + i
  tot : fs.flatten.length = n
theorem flat_filter (q : List Int → Bool) : ∀ fs : List (List Int), (fs.filter q).flatten.length + (fs.filter fun p => !q p).flatten.length = fs.flatten.length
  | [] => rfl
  | p :: fs => by
    have ih := flat_filter q fs
    rw [List.filter_cons, List.filter_cons]
    cases h : q p with
    | true => simp only [Bool.not_true, if_true, List.flatten_cons, List.length_append] ; simp only [Bool.false_eq_true, if_false]; omega
    | false => simp only [Bool.not_false, if_true, List.flatten_cons, List.length_append] ; simp only [Bool.false_eq_true, if_false]; omega
theorem PInv.next {n i : Nat} {fs : List (List Int)} (h : PInv n i fs) (q : List Int → Bool) {ns : List Int} (hp : ns.Perm (fs.filter q).flatten) : PInv n (i + 1) ((fs.filter fun p => !q p) ++ [ns]) := by
  refine ⟨fun p hpm x hx => ?_, ?_, ?_⟩
  · rcases List.mem_append.mp hpm with hm | hm
    · exact h.el p ((List.mem_filter.mp hm).1) x hx
    · rw [List.mem_singleton.mp hm] at hx
      obtain ⟨p', hp', hx'⟩ := List.mem_flatten.mp (hp.mem_iff.mp hx)
      exact h.el p' ((List.mem_filter.mp hp').1) x hx'
  · rw [List.length_append]
    have := List.length_filter_le (fun p => !q p) fs
    have := h.len
    show _ + 1 ≤ _
    omega
  · have e1 := flat_filter q fs
    have e2 := hp.length_eq
    have e3 := h.tot
    rw [List.flatten_append, List.length_append]
    show _ + ([ns] : List (List Int)).flatten.length = n
    rw [List.flatten_cons, List.flatten_nil, List.append_nil]
    omega
theorem part_len : ∀ {fs : List (List Int)} {p : List Int}, p ∈ fs → p.length ≤ fs.flatten.length
  | q :: fs, p, h => by
    rw [List.flatten_cons, List.length_append]
    rcases List.mem_cons.mp h with e | h
    · subst e
      omega
    · have := part_len h
      omega
theorem ok_book_parts (bc : BkC E A) (ha : E.mg "any" = none) (hl : E.mg "len" = none) (hr : E.mg "range" = none) (hs : E.mg "sorted" = none) (KP : Kn E 1 "pads_of" rPadsOf) (F : FnM E.K "Book" "parts" "Book.parts" sBookParts [] f fd) : Ok E 2 f fd ["self"] (rBookParts A) := by
  refine defOk F scBookParts (fun Ts T ⟨_, _, e, _⟩ => by subst e; rfl) ?_
  rintro Ts T ⟨cols, figs, rfl, ok, rfl⟩
  have nd := scBookParts.nd
  have c6 := ok.c6
  refine ds_lcM 1 (fun k : Nat => .int (0 + (k : Nat))) (List.range cols.length) (fun k => lI [0 + (k : Nat)]) [("pad", 6)] (di_range1 (isb hr) ((lenT (ds := cols.map .int) hl (fld (dv 0) (fldI bc.cl bc.hues rfl))).is (d' := .int (cols.length : Nat)) (by rw [List.length_map])) (by omega) (by omega)) nd (dg_name (stn 6)) (by rw [List.length_range]; omega) (fun k _ => ⟨_, gr_name, d_lst (dd_cons (dv 6) dd_nil)⟩) ?_ (stn 1)
  refine ds_for (di_tup (ds := figs.map eF) (fld (dv 0) (fldI bc.cl bc.shapes rfl))) (dg_name (stn 2)) (fun i Γ => ∃ fs : List (List Int), Γ = [some (sv (bkT A cols figs)), some (sv (tL (fs.map lI))), none, none, none, none, none, none] ∧ PInv cols.length i fs) ⟨(List.range cols.length).map fun k => [0 + ((k : Nat) : Int)], by rw [List.map_map]; rfl, ?_⟩ ?_ ?_
  · refine ⟨fun p hp x hx => ?_, by rw [List.length_map, List.length_range]; omega, ?_⟩
    · obtain ⟨k, hk, rfl⟩ := List.mem_map.mp hp
      have := List.mem_range.mp hk
      have := List.mem_singleton.mp hx
      omega
    · have gen : ∀ n : Nat, ((List.range n).map fun k : Nat => [(0 : Int) + (k : Nat)]).flatten.length = n := fun n => by
        induction n with
        | zero => rfl
        | succ n ih =>
          rw [List.range_succ, List.map_append, List.flatten_append, List.length_append, ih]
          rfl
      exact gen _
  · rintro i d Γ1 hd ⟨fs, rfl, inv⟩
    rw [List.getElem?_map] at hd
    obtain ⟨g, hg, rfl⟩ := Option.map_eq_some_iff.mp hd
    have hgm : g ∈ figs := List.mem_of_getElem? hg
    have hi : i < figs.length := (List.getElem?_eq_some_iff.mp hg).1
    have f12 := ok.f12
    have hfl : fs.length ≤ 18 := by have := inv.len; omega
    refine ⟨_, _, gr_name, ?_⟩
    refine ds_set (cl1 KP (dv 2) ⟨g, rfl, ok.gK hgm, rfl⟩) (stn 3) ?_
    refine ds_lcI 4 lI fs (fun p => p.any fun x => decide (x ∈ padsOf g)) lI [("part", 7)] (di_list (dv 1 : DE _ _ _ (tL (fs.map lI))).w) nd (dg_name (stn 7)) (by omega) (fun p hp => ⟨_, gr_name, (tv (anyL (bs := p.map fun x => decide (x ∈ padsOf g)) ha ((lc_map PyData.int p (fun x => .bool (decide (x ∈ padsOf g))) [("pad", 6)] (di_list (dv 7)) nd (dg_name (stn 6)) ?_ fun x _ => ⟨_, gr_name, inL (dv 6) (dv 3)⟩).isL (by rw [List.map_map]; rfl)))).is (by rw [List.any_map]; rfl), fun _ => dv 7⟩) ?_ (stn 4)
    · have := part_len hp
      have := inv.tot
      omega
    refine ds_lcI 5 lI fs (fun p => !p.any fun x => decide (x ∈ padsOf g)) lI [("part", 7)] (di_list (dv 1 : DE _ _ _ (tL (fs.map lI))).w) nd (dg_name (stn 7)) (by omega) (fun p hp => ⟨_, gr_name, (dt_not (tv (anyL (bs := p.map fun x => decide (x ∈ padsOf g)) ha ((lc_map PyData.int p (fun x => .bool (decide (x ∈ padsOf g))) [("pad", 6)] (di_list (dv 7)) nd (dg_name (stn 6)) ?_ fun x _ => ⟨_, gr_name, inL (dv 6) (dv 3)⟩).isL (by rw [List.map_map]; rfl))))).is (by rw [List.any_map]; rfl), fun _ => dv 7⟩) ?_ (stn 5)
    · have := part_len hp
      have := inv.tot
      omega
    refine ds_set (d_op (r := fun _ => rCat) (fun _ _ => op_cat) (dv 5) (d_lst1x ((d_sortedI (ns := (fs.filter fun p => p.any fun x => decide (x ∈ padsOf g)).flatten) (isb hs) (DE.le (d_flat (ls := (fs.filter fun p => p.any fun x => decide (x ∈ padsOf g)).map (List.map PyData.int)) 7 6 (DE.le (dv 4) ?_) nd ?_ (stn 7) (stn 6) (Or.inl rfl) (Or.inl rfl) (Nat.le_of_ble_eq_true rfl) (Nat.le_of_ble_eq_true rfl) (by decide)) ?_) (by intro _; rfl)).le (tEx_le (U' := fun ns' : List Int => tD (lI ns')) fun _ _ => tL_le))) (op2_exR fun ns hns => o_cat (es := [lI ns]) ?_)) (stn 1) ?_
    · rw [List.map_map]
      exact tL_le
    · rw [← List.map_flatten, List.length_map]
      have e1 := flat_filter (fun p => p.any fun x => decide (x ∈ padsOf g)) fs
      have := inv.tot
      omega
    · rw [← List.map_flatten]
      exact tL_le
    · rw [List.length_map]
      have := List.length_filter_le (fun p : List Int => !p.any fun x => decide (x ∈ padsOf g)) fs
      show _ + 1 ≤ _
      omega
    · refine ds_open (n := 1) (Nat.le_of_ble_eq_true rfl) fun ns hns => ?_
      refine ds_nil (Γ' := [some (sv (bkT A cols figs)), some (sv (tL (((fs.filter fun p => !p.any fun x => decide (x ∈ padsOf g)) ++ [ns]).map lI))), none, none, none, none, none, none]) ⟨_, rfl, inv.next _ hns⟩ ⟨rfl, ?_, trivial⟩
      rw [List.map_append]
      rfl
  · rintro Γ1 ⟨fs, rfl, inv⟩
    have f12 := ok.f12
    rw [List.length_map] at inv
    refine ds_ret ((d_sortedR (enc := lI) (fun X h => cr_sortedLL h) (ls := fs) trivial (isb hs) (dv 1 : DE _ _ _ (tL (fs.map lI))).w (by intro _; rfl))) fun K H v ⟨ls, hp, p⟩ => ⟨ls, ⟨fun p hp' => inv.el p (hp.mem_iff.mp hp'), ?_, fun p hp' => ?_⟩, p⟩
    · have := hp.length_eq
      have := inv.len
      omega
    · have := part_len (hp.mem_iff.mp hp')
      have := inv.tot
      omega
end
end Tb
set_option Elab.async false
set_option linter.all false
set_option maxRecDepth 100000
set_option maxHeartbeats 1000000
namespace Tb
open PySem PySem.Spec PyProof.Rows L2 DL
/-! ### Book.apart_sets, sinks -/
theorem enD_len (ds : List PyData) : (enD ds).length = ds.length := by
  unfold enD
  rw [List.length_mapIdx]
def zs (s : List Nat) : List Int := s.map fun k => ((k : Nat) : Int)
def eN (s : List Nat) : PyData := tIs (zs s)
def apartQ (figs : List Fig) (g : Fig) (s : List Nat) : Bool := !s.any fun k => shareB (figs.getD k []) g
def apartUpto (figs : List Fig) : Nat → List (List Nat)
  | 0 => [[]]
  | i + 1 => apartUpto figs i ++ ((apartUpto figs i).filter (apartQ figs (figs.getD i []))).map fun s => s ++ [i]
theorem apart_len (figs : List Fig) : ∀ i, (apartUpto figs i).length ≤ 2 ^ i
  | 0 => Nat.le_refl _
  | i + 1 => by
    have ih := apart_len figs i
    show ((apartUpto figs i) ++ _).length ≤ _
    rw [List.length_append, List.length_map, Nat.pow_succ]
    have := List.length_filter_le (apartQ figs (figs.getD i [])) (apartUpto figs i)
    omega
theorem apart_mem (figs : List Fig) : ∀ i s, s ∈ apartUpto figs i → ∀ k ∈ s, k < i
  | 0, s, h, k, hk => by
    rw [List.mem_singleton.mp h] at hk
    cases hk
  | i + 1, s, h, k, hk => by
    rcases List.mem_append.mp h with h | h
    · exact Nat.lt_succ_of_lt (apart_mem figs i s h k hk)
    · obtain ⟨s', hs', rfl⟩ := List.mem_map.mp h
      rcases List.mem_append.mp hk with hk | hk
      · exact Nat.lt_succ_of_lt (apart_mem figs i s' (List.mem_filter.mp hs').1 k hk)
      · rw [List.mem_singleton.mp hk]
        exact Nat.lt_succ_self _
theorem apart_slen (figs : List Fig) : ∀ i s, s ∈ apartUpto figs i → s.length ≤ i
  | 0, s, h => by
    rw [List.mem_singleton.mp h]
    exact Nat.le_refl _
  | i + 1, s, h => by
    rcases List.mem_append.mp h with h | h
    · exact Nat.le_succ_of_le (apart_slen figs i s h)
    · obtain ⟨s', hs', rfl⟩ := List.mem_map.mp h
      rw [List.length_append]
      exact Nat.succ_le_succ (apart_slen figs i s' (List.mem_filter.mp hs').1)
theorem apart_head (figs : List Fig) : ∀ i, ∃ r, apartUpto figs i = [] :: r
  | 0 => ⟨[], rfl⟩
  | i + 1 => by
    obtain ⟨r, e⟩ := apart_head figs i
    have : apartUpto figs (i + 1) = apartUpto figs i ++ ((apartUpto figs i).filter (apartQ figs (figs.getD i []))).map fun s => s ++ [i] := rfl
    rw [this]
    generalize ((apartUpto figs i).filter (apartQ figs (figs.getD i []))).map (fun s => s ++ [i]) = m
    rw [e]
    exact ⟨r ++ m, rfl⟩
section
variable {E : Ev} {f : Addr} {fd : FuncData} {A : Addr}
def rBookApart (A : Addr) : List Ty → Ty → Prop := fun Ts T => ∃ cols figs, Ts = [bkT A cols figs] ∧ OkBook cols figs ∧ T = tEx (fun l : List (List Nat) => l.Perm (apartUpto figs figs.length)) fun l => tL (l.map eN)
theorem scBookApart : FnScope ["self", "found", "at", "figure", "more", "some", "one"] ["self"] (defScope sBookApartSets) := ⟨rfl, rfl, rfl, by decide +kernel, rfl, by decide +kernel, by decide +kernel⟩
theorem ok_book_apart (bc : BkC E A) (ha : E.mg "any" = none) (he : E.mg "enumerate" = none) (hs : E.mg "sorted" = none) (KS : Kn E 2 "share" rShare) (F : FnM E.K "Book" "apart_sets" "Book.apart_sets" sBookApartSets [] f fd) : Ok E 3 f fd ["self"] (rBookApart A) := by
  refine defOk F scBookApart (fun Ts T ⟨_, _, e, _⟩ => by subst e; rfl) ?_
  rintro Ts T ⟨cols, figs, rfl, ok, rfl⟩
  have nd := scBookApart.nd
  have f12 := ok.f12
  refine ds_set (d_lstL (dd_cons (d_tup dd_nil) dd_nil)) (stn 1) ?_
  refine ds_for (di_enumT (ds := figs.map eF) (isb he) (fld (dv 0) (fldI bc.cl bc.shapes rfl))) (dg_tup2 (stn 2) (stn 3)) (fun i Γ => Γ = [some (sv (bkT A cols figs)), some (sv (tL ((apartUpto figs i).map eN))), none, none, none, none, none]) rfl ?_ ?_
  · rintro i d Γ1 hd rfl
    obtain ⟨x, hx, rfl⟩ := enD_get hd
    rw [List.getElem?_map] at hx
    obtain ⟨g, hg, rfl⟩ := Option.map_eq_some_iff.mp hx
    have hgm : g ∈ figs := List.mem_of_getElem? hg
    have hi : i < figs.length := (List.getElem?_eq_some_iff.mp hg).1
    have gd : figs.getD i [] = g := by rw [List.getD_eq_getElem?_getD, hg]; rfl
    have hp : 2 ^ i ≤ 2 ^ 12 := Nat.pow_le_pow_right (by decide) (by omega)
    have al := apart_len figs i
    refine ⟨_, _, gr_tup2, ?_⟩
    refine ds_lcI 4 eN (apartUpto figs i) (apartQ figs g) (fun s => eN (s ++ [i])) [("some", 5)] (di_list (dv 1 : DE _ _ _ (tL ((apartUpto figs i).map eN))).w) nd (dg_name (stn 5)) (by omega) (fun s hsm => ⟨_, gr_name, (dt_not (tv (anyL (bs := s.map fun k => shareB (figs.getD k []) g) ha ((lc_map (fun k : Nat => .int (k : Nat)) s (fun k => .bool (shareB (figs.getD k []) g)) [("one", 6)] (di_tup ((dv 5 : DE _ _ _ (tD (eN s))).is (by unfold eN zs; rw [tIs, List.map_map]; rfl))) nd (dg_name (stn 6)) ?_ fun k hk => ⟨_, gr_name, ?_⟩).isL (by rw [List.map_map]; rfl))))).is (by unfold apartQ; rw [List.any_map]; rfl), fun _ => ?_⟩) ?_ (stn 4)
    · have := apart_slen figs i s hsm
      omega
    · have hk' : k < figs.length := by
        have := apart_mem figs i s hsm k hk
        omega
      obtain ⟨g2, hg2⟩ : ∃ g2, figs[k]? = some g2 := ⟨_, List.getElem?_eq_getElem hk'⟩
      have gd2 : figs.getD k [] = g2 := by rw [List.getD_eq_getElem?_getD, hg2]; rfl
      rw [gd2]
      exact cl2 KS (d_ixT (ds := figs.map eF) (fld (dv 0) (fldI bc.cl bc.shapes rfl)) (dv 6) (at_nat (j := k) rfl (by rw [List.getElem?_map, hg2]; rfl))) (dv 3) ⟨g2, g, rfl, ok.gK (List.mem_of_getElem? hg2), ok.gK hgm, rfl⟩
    · refine (d_catT (ds := (zs s).map .int) (es := [.int (i : Nat)]) ?_ (dv 5) (d_tup (dd_cons (dv 2) dd_nil))).is ?_
      · unfold zs
        rw [List.length_map, List.length_map]
        have := apart_slen figs i s hsm
        show _ + 1 ≤ _
        omega
      · unfold eN zs
        rw [tIs, List.map_append, List.map_append]
        rfl
    · refine ds_set (d_catL (ds := (apartUpto figs i).map eN) (es := ((apartUpto figs i).filter (apartQ figs g)).map fun s => eN (s ++ [i])) ?_ (dv 1) (dv 4)) (stn 1) (ds_nil rfl ⟨rfl, ?_, trivial⟩)
      · rw [List.length_map, List.length_map]
        have := List.length_filter_le (apartQ figs g) (apartUpto figs i)
        omega
      · have : apartUpto figs (i + 1) = apartUpto figs i ++ ((apartUpto figs i).filter (apartQ figs (figs.getD i []))).map fun s => s ++ [i] := rfl
        rw [this, gd, List.map_append, List.map_map]
        rfl
  · rintro Γ1 rfl
    rw [enD_len, List.length_map]
    obtain ⟨r, er⟩ := apart_head figs figs.length
    refine ds_ret ((d_sortedR (enc := tIs) (fun X h => cr_sortedTT h) (ls := (apartUpto figs figs.length).map zs) (by rw [er]; rfl) (isb hs) ((dv 1 : DE _ _ _ (tL ((apartUpto figs figs.length).map eN))).w.is (by rw [List.map_map]; rfl)) (by intro _; rfl))) fun K H v ⟨ls, hp, p⟩ => ?_
    obtain ⟨l2, p2, rfl⟩ := perm_map_inv zs hp rfl
    have p' : (tL ((l2.map zs).map tIs)).P K H v := p
    rw [List.map_map] at p'
    exact ⟨l2, p2, p'⟩
end
end Tb
set_option Elab.async false
set_option linter.all false
set_option maxRecDepth 100000
set_option maxHeartbeats 1000000
namespace Tb
open PySem PySem.Spec PyProof.Rows L2 DL
/-! ### sinks -/
def b2i (b : Bool) : Int := if b then 1 else 0
def sinkFig (ties : List (Int × Int)) (p : Int) : Fig := (ties.zipIdx.filter fun q => decide (p ∈ [q.1.1, q.1.2])).map fun q => (((q.2 : Nat) : Int), b2i (decide (q.1.1 = p)), 1)
def sinkAll (ties : List (Int × Int)) (n : Nat) : List Fig := (List.range n).map fun p => sinkFig ties ((p : Nat) : Int)
def sinkFigs (ties : List (Int × Int)) (n : Nat) : List Fig := (sinkAll ties n).filter fun g => !decide (g = [])
def twos (n : Nat) : List Int := List.replicate n 2
structure OkTies (n : Nat) (ties : List (Int × Int)) : Prop where
  n1 : 1 ≤ n
  n7 : n ≤ 7
  l1 : 1 ≤ ties.length
  l6 : ties.length ≤ 6
  t : ∀ t ∈ ties, 0 ≤ t.1 ∧ t.1 < (n : Int) ∧ 0 ≤ t.2 ∧ t.2 < (n : Int) ∧ t.1 ≠ t.2
theorem zipIdx_rise {α : Type} : ∀ (l : List α) (k : Nat), (l.zipIdx k).Pairwise fun a b => a.2 < b.2
  | [], k => List.Pairwise.nil
  | x :: l, k => by
    rw [List.zipIdx_cons]
    refine List.pairwise_cons.mpr ⟨fun y hy => ?_, zipIdx_rise l (k + 1)⟩
    have := List.le_snd_of_mem_zipIdx hy
    exact this
theorem sinkFig_mem {ties : List (Int × Int)} {p : Int} {t : Tri} (h : t ∈ sinkFig ties p) : ∃ (k : Nat) (tie : Int × Int), ties[k]? = some tie ∧ p ∈ [tie.1, tie.2] ∧ t = ((k : Int), b2i (decide (tie.1 = p)), 1) := by
  obtain ⟨q, hq, rfl⟩ := List.mem_map.mp h
  obtain ⟨h1, h2⟩ := List.mem_filter.mp hq
  exact ⟨q.2, q.1, by have := List.mem_zipIdx' h1; rw [this.2]; exact List.getElem?_eq_getElem this.1, of_decide_eq_true h2, rfl⟩
theorem b2i_01 (b : Bool) : 0 ≤ b2i b ∧ b2i b < 2 := by
  cases b <;> decide
theorem sinkFig_ok {ties : List (Int × Int)} {p : Int} (hne : sinkFig ties p ≠ []) : OkFig (twos ties.length) (sinkFig ties p) := by
  refine ⟨fun t ht => ?_, ?_, hne⟩
  · obtain ⟨k, tie, hk, hp, rfl⟩ := sinkFig_mem ht
    have hl := (List.getElem?_eq_some_iff.mp hk).1
    refine ⟨Int.natCast_nonneg k, ⟨2, ?_, (b2i_01 _).2⟩, (b2i_01 _).1, (by show (1 : Int) ≤ 1; decide), (by show (1 : Int) ≤ 3; decide)⟩
    show (twos ties.length)[((k : Nat) : Int).toNat]? = _
    rw [Int.toNat_natCast]
    unfold twos
    rw [List.getElem?_replicate, if_pos hl]
  · unfold sinkFig
    refine List.pairwise_map.mpr ?_
    refine ((zipIdx_rise ties 0).filter _).imp fun {a b} h => ?_
    show ((a.2 : Nat) : Int) < (b.2 : Nat)
    omega
/-! dicts of figures with rising pads -/
theorem putI_new {m : List (Int × Int)} {k v : Int} (h : ∀ q ∈ m, q.1 ≠ k) : putI m k v = m ++ [(k, v)] := by
  unfold putI
  rw [if_neg]
  intro z
  obtain ⟨q, hq, e⟩ := List.any_eq_true.mp z
  exact h q hq (of_decide_eq_true e)
theorem fold_put : ∀ (f : Fig) (m : List (Int × Int)), (∀ q ∈ m, ∀ t ∈ f, q.1 ≠ t.1) → (f.Pairwise fun s t => s.1 < t.1) → f.foldl (fun m t => putI m t.1 t.2.1) m = m ++ f.map fun t => (t.1, t.2.1)
  | [], m, _, _ => by simp
  | t :: f, m, h, hp => by
    have h2 := List.pairwise_cons.mp hp
    rw [List.foldl_cons, putI_new fun q hq => h q hq t (List.mem_cons_self ..), fold_put f _ ?_ h2.2, List.map_cons, List.append_assoc]
    · rfl
    · intro q hq u hu
      rcases List.mem_append.mp hq with hq | hq
      · exact h q hq u (List.mem_cons_of_mem _ hu)
      · rw [List.mem_singleton.mp hq]
        have := h2.1 u hu
        show t.1 ≠ u.1
        omega
theorem dictOf_eq {f : Fig} (hp : f.Pairwise fun s t => s.1 < t.1) : dictOf f = f.map fun t => (t.1, t.2.1) := by
  unfold dictOf
  rw [fold_put f [] (fun q hq => by cases hq) hp, List.nil_append]
theorem look_mem : ∀ {f : Fig} {t : Tri}, (f.Pairwise fun s t => s.1 < t.1) → t ∈ f → lookI (f.map fun t => (t.1, t.2.1)) t.1 = some t.2.1
  | u :: f, t, hp, h => by
    have h2 := List.pairwise_cons.mp hp
    unfold lookI
    rw [List.map_cons, List.find?_cons]
    rcases List.mem_cons.mp h with e | h
    · subst e
      rw [decide_eq_true (show (t.1, t.2.1).1 = t.1 from rfl)]
      rfl
    · have := h2.1 t h
      rw [decide_eq_false (show ¬ (u.1, u.2.1).1 = t.1 from by show ¬ u.1 = t.1; omega)]
      exact look_mem h2.2 h
theorem share_iff {f g : Fig} : shareB f g = true ↔ ∃ s ∈ f, ∃ t ∈ g, s.1 = t.1 := by
  unfold shareB padsOf
  rw [List.any_eq_true]
  constructor
  · rintro ⟨p, hp, h⟩
    obtain ⟨t, ht, rfl⟩ := List.mem_map.mp hp
    obtain ⟨s, hs, e⟩ := List.mem_map.mp (of_decide_eq_true h)
    exact ⟨s, hs, t, ht, e⟩
  · rintro ⟨s, hs, t, ht, e⟩
    exact ⟨t.1, List.mem_map.mpr ⟨t, ht, rfl⟩, decide_eq_true (List.mem_map.mpr ⟨s, hs, e⟩)⟩
theorem bar_of {f g : Fig} (hp : f.Pairwise fun s t => s.1 < t.1) {s t : Tri} (hs : s ∈ f) (ht : t ∈ g) (e : s.1 = t.1) (hn : s.2.1 ≠ t.2.1) : barB f g = true := by
  unfold barB
  refine List.any_eq_true.mpr ⟨t, ht, ?_⟩
  rw [dictOf_eq hp, ← e, look_mem hp hs]
  show (!decide (s.2.1 = t.2.1)) = true
  rw [decide_eq_false hn]
  rfl
theorem sink_bar {ties : List (Int × Int)} {p q : Int} (hpq : p ≠ q) (h : shareB (sinkFig ties p) (sinkFig ties q) = true) (hne : sinkFig ties p ≠ []) : barB (sinkFig ties p) (sinkFig ties q) = true := by
  obtain ⟨s, hs, t, ht, e⟩ := share_iff.mp h
  refine bar_of (sinkFig_ok hne).up hs ht e ?_
  obtain ⟨k, tie, hk, hp, rfl⟩ := sinkFig_mem hs
  obtain ⟨k', tie', hk', hq, rfl⟩ := sinkFig_mem ht
  have ek : k = k' := by
    have : ((k : Nat) : Int) = ((k' : Nat) : Int) := e
    omega
  subst ek
  rw [hk] at hk'
  cases Option.some.inj hk'
  show b2i (decide (tie.1 = p)) ≠ b2i (decide (tie.1 = q))
  by_cases h1 : tie.1 = p
  · have h2 : ¬ tie.1 = q := fun z => hpq (h1.symm.trans z)
    rw [decide_eq_true h1, decide_eq_false h2]
    decide
  · by_cases h2 : tie.1 = q
    · rw [decide_eq_false h1, decide_eq_true h2]
      decide
    · exfalso
      have e1 : p = tie.2 := by
        rcases List.mem_cons.mp hp with z | z
        · exact absurd z.symm h1
        · exact List.mem_singleton.mp z
      have e2 : q = tie.2 := by
        rcases List.mem_cons.mp hq with z | z
        · exact absurd z.symm h2
        · exact List.mem_singleton.mp z
      exact hpq (e1.trans e2.symm)
/-- figures in order of their points -/
theorem sinkFigs_pair (ties : List (Int × Int)) (n : Nat) : (sinkFigs ties n).Pairwise fun f g => shareB f g = true → barB f g = true := by
  unfold sinkFigs sinkAll
  refine List.pairwise_filter.mpr ?_
  refine List.pairwise_map.mpr ?_
  refine List.pairwise_lt_range.imp fun {a b} h h1 h2 hs => ?_
  refine sink_bar (by omega) hs ?_
  simpa using h1
theorem sinkFigs_ok {n : Nat} {ties : List (Int × Int)} (h : OkTies n ties) : OkBook (twos ties.length) (sinkFigs ties n) := by
  refine ⟨?_, ?_, ?_, ?_, fun g hg => ?_, fun i j g g' hij hg hg' hs => ?_⟩
  · unfold twos
    rw [List.length_replicate]
    exact h.l1
  · unfold twos
    rw [List.length_replicate]
    exact h.l6
  · intro c hc
    rw [List.eq_of_mem_replicate hc]
    decide
  · unfold sinkFigs sinkAll
    have := List.length_filter_le (fun g => !decide (g = [])) ((List.range n).map fun p => sinkFig ties ((p : Nat) : Int))
    rw [List.length_map, List.length_range] at this
    exact Nat.le_trans this (Nat.le_trans h.n7 (by decide))
  · unfold sinkFigs sinkAll at hg
    obtain ⟨h1, h2⟩ := List.mem_filter.mp hg
    obtain ⟨p, _, rfl⟩ := List.mem_map.mp h1
    exact sinkFig_ok (by simpa using h2)
  · have := List.pairwise_iff_getElem.mp (sinkFigs_pair ties n) i j (List.getElem?_eq_some_iff.mp hg).1 (List.getElem?_eq_some_iff.mp hg').1 hij
    rw [(List.getElem?_eq_some_iff.mp hg).2, (List.getElem?_eq_some_iff.mp hg').2] at this
    exact this hs
section
variable {E : Ev} {f : Addr} {fd : FuncData} {A : Addr}
theorem shaped_fl (g : Fig) : SeqAt.shaped (eFl g) = true := by
  have h1 : ∀ g : Fig, PyData.depthAll (g.map eT) ≤ 1 := fun g => by
    induction g with
    | nil => simp [PyData.depthAll]
    | cons t g ih => simp [PyData.depthAll, PyData.depth, eT] ; omega
  unfold SeqAt.shaped
  rw [Bool.and_eq_true]
  constructor
  · show PyData.canLay0 (.list (g.map eT)) = true
    have : ∀ g : Fig, PyData.canLayAll0 (g.map eT) = true := fun g => by
      induction g with
      | nil => simp [PyData.canLayAll0]
      | cons t g ih => simp [PyData.canLayAll0, PyData.canLay0, eT] ; exact ih
    simp [PyData.canLay0, this]
  · refine decide_eq_true ?_
    have := h1 g
    show PyData.depth (.list (g.map eT)) ≤ 64
    simp [PyData.depth]
    omega
theorem eqv_nil (g : Fig) : PyData.eqv (eFl g) (.list []) = decide (g = []) := by
  cases g with
  | nil => simp [eFl, PyData.eqv, PyData.eqvAll]
  | cons t g => simp [eFl, PyData.eqv, PyData.eqvAll]
theorem enD_zip (l : List (Int × Int)) : enD (l.map eTie) = l.zipIdx.map fun q => .tuple [.int (q.2 : Nat), eTie q.1] := by
  apply List.ext_getElem?
  intro i
  unfold enD
  rw [List.getElem?_mapIdx, List.getElem?_map, List.getElem?_map, List.getElem?_zipIdx]
  cases l[i]? with
  | none => rfl
  | some x => simp
def rSinks (A : Addr) : List Ty → Ty → Prop := fun Ts T => ∃ (n : Nat) (ties : List (Int × Int)), Ts = [tD (.int (n : Nat)), tD (.list (ties.map eTie))] ∧ OkTies n ties ∧ T = bkT A (twos ties.length) (sinkFigs ties n)
theorem scSinks : FnScope ["points", "ties", "tie", "found", "point", "pad", "figure"] ["points", "ties"] (defScope sSinks) := ⟨rfl, rfl, rfl, by decide +kernel, rfl, by decide +kernel, by decide +kernel⟩
theorem ok_sinks (hl : E.mg "len" = none) (hr : E.mg "range" = none) (he : E.mg "enumerate" = none) (hi : E.mg "int" = none) (hM : ∃ t, E.mg "MOST_PADS" = some (.int 6 t)) (hP : ∃ t, E.mg "MOST_POINTS" = some (.int 7 t)) (KT : Kn E 1 "need_tie" rNeedTie) (KB : KnI E 4 "Book" A "figures" rBookInit) (F : FnP E.K "sinks" sSinks f fd) : Ok E 6 f fd ["points", "ties"] (rSinks A) := by
  refine defOk F scSinks (fun Ts T ⟨_, _, e, _⟩ => by subst e; rfl) ?_
  rintro Ts T ⟨n, ties, rfl, ok, rfl⟩
  have nd := scSinks.nd
  have n1 := ok.n1
  have n7 := ok.n7
  have l1 := ok.l1
  have l6 := ok.l6
  refine ds_pass ((dt_not (tlele d_int (lenL hl (dv 1)) (gl hM))).is ?_) ?_
  · rw [List.length_map, decide_eq_true (show (1 : Int) ≤ (ties.length : Nat) by omega), decide_eq_true (show ((ties.length : Nat) : Int) ≤ 6 by omega)]
    rfl
  refine ds_pass ((dt_not (tlele d_int (dv 0) (gl hP))).is ?_) ?_
  · rw [decide_eq_true (show (1 : Int) ≤ (n : Nat) by omega), decide_eq_true (show ((n : Nat) : Int) ≤ 7 by omega)]
    rfl
  refine ds_for (di_list (dv 1)) (dg_name (stn 2)) (fun i Γ => Γ = [some (sD (.int (n : Nat))), some (sD (.list (ties.map eTie))), none, none, none, none, none]) rfl ?_ ?_
  · rintro i d Γ1 hd rfl
    rw [List.getElem?_map] at hd
    obtain ⟨t, ht, rfl⟩ := Option.map_eq_some_iff.mp hd
    obtain ⟨a1, a2, a3, a4, a5⟩ := ok.t t (List.mem_of_getElem? ht)
    exact ⟨_, _, gr_name, ds_expr (cl2 KT (dv 0) (dv 2) ⟨n, t, rfl, a1, a2, a3, a4, a5, rfl⟩) (ds_nil rfl ⟨rfl, rfl, trivial⟩)⟩
  rintro Γ1 rfl
  refine ds_setO (do_lst dd_nil) (stn 3) ?_
  refine ds_for (di_range1 (isb hr) (dv 0) (by omega) (by omega)) (dg_name (stn 4)) (fun i Γ => Γ = [some (sD (.int (n : Nat))), some (sD (.list (ties.map eTie))), none, some (so ((sinkAll ties i).map eFl)), none, none, none]) rfl ?_ ?_
  · rintro i d Γ1 hd rfl
    obtain ⟨hi', rfl⟩ := upD_get hd
    refine ⟨_, _, gr_name, ?_⟩
    refine ds_app (n := 3) (ds := (sinkAll ties i).map eFl) (d := eFl (sinkFig ties ((i : Nat) : Int))) rfl rfl (Or.inl rfl) ((lc_ifE (lc_if (fun q : (Int × Int) × Nat => .tuple [.int (q.2 : Nat), eTie q.1]) ties.zipIdx (fun q => decide (((i : Nat) : Int) ∈ [q.1.1, q.1.2])) (fun q => eT (((q.2 : Nat) : Int), b2i (decide (q.1.1 = ((i : Nat) : Int))), 1)) [("pad", 5), ("tie", 2)] (by rw [← enD_zip]; exact di_enum (isb he) (dv 1)) nd (dg_tup2 (stn 5) (stn 2)) ?_ (fun q hq => ⟨_, gr_tup2, ?_, fun _ => ?_⟩))).le ?_) rfl ?_ ?_
    · rw [List.length_zipIdx]
      omega
    · exact (dt_inT (i := ((i : Nat) : Int)) (ns := [q.1.1, q.1.2]) ((dv 4 : DE _ _ _ (tD (.int (0 + ((i : Nat) : Int))))).is (by rw [Int.zero_add])) (dv 2) (by with_unfolding_all rfl))
    · refine d_tup (dd_cons (dv 5) (dd_cons ((d_intB (by intro _; rfl) (isb hi) (d_eqI (i := q.1.1) (j := ((i : Nat) : Int)) (d_ixT (dv 2) d_int rfl) ((dv 4 : DE _ _ _ (tD (.int (0 + ((i : Nat) : Int))))).is (by rw [Int.zero_add]))))) (dd_cons d_int dd_nil)))
    · refine fun K H v p => ?_
      have p' := tL_le _ _ _ p
      have e : eFl (sinkFig ties ((i : Nat) : Int)) = .list ((ties.zipIdx.filter fun q => decide (((i : Nat) : Int) ∈ [q.1.1, q.1.2])).map fun q => eT (((q.2 : Nat) : Int), b2i (decide (q.1.1 = ((i : Nat) : Int))), 1)) := by
        unfold eFl sinkFig
        rw [List.map_map]
        rfl
      rw [e]
      exact p'
    · unfold sinkAll
      rw [List.length_map, List.length_map, List.length_range]
      omega
    · refine ds_nil rfl ⟨rfl, rfl, ?_, trivial⟩
      unfold sinkAll
      rw [List.range_succ, List.map_append, List.map_append]
      rfl
  · rintro Γ1 rfl
    rw [upD_len, Int.toNat_natCast]
    refine ds_freeze (n := 3) rfl rfl ?_
    refine ds_ret (d_mkI (names := ["hues", "shapes"]) (tys := [("hues", tD (eIt (twos ties.length))), ("shapes", tD (eB (sinkFigs ties n)))]) (ds_mkI KB (Ta := tD (eIt (twos ties.length))) (Tb := tD (eFs (sinkFigs ties n))) ?_ ?_ ⟨twos ties.length, sinkFigs ties n, rfl, rfl, sinkFigs_ok ok, rfl, rfl⟩) namesOk_map (tysOf_cons rfl (tysOf_cons rfl tysOf_nil))) (Ty.le_refl _)
    · refine (d_mulT (ds := [.int 2]) (by simp) ?_ ?_ (by decide) (d_tup (dd_cons d_int dd_nil)) (lenL hl (dv 1))).is ?_
      · rw [List.length_map]
        omega
      · rw [List.length_map]
        omega
      · rw [List.length_map, Int.toNat_natCast]
        unfold eIt twos
        congr 1
        generalize ties.length = m
        induction m with
        | zero => rfl
        | succ m ih =>
          rw [List.replicate_succ, List.replicate_succ, List.map_cons, List.flatten_cons, ih]
          rfl
    · refine ((lc_ifE (lc_if eFl (sinkAll ties n) (fun g => !decide (g = [])) eFl [("figure", 6)] (di_list (dv 3 : DE _ _ _ (tL ((sinkAll ties n).map eFl))).w) nd (dg_name (stn 6)) ?_ (fun g hg => ⟨_, gr_name, (dt_ne (shaped_fl g) (by decide +kernel) (dv 6) (d_lst dd_nil)).is ?_, fun _ => dv 6⟩)))).le tL_le
      · unfold sinkAll
        rw [List.length_map, List.length_range]
        omega
      · rw [eqv_nil]
end
end Tb
set_option Elab.async false
set_option linter.all false
set_option maxRecDepth 100000
set_option maxHeartbeats 1000000
namespace Tb
open PySem PySem.Spec PyProof.Rows L2 DL
/-! ### rows that end: shortest, least_row, note_at, behind, has_notes -/
abbrev eR (l : List Int) : PyData := .tuple [eIt l, .tuple []]
abbrev eRows (rs : List (List Int)) : PyData := .tuple (rs.map eR)
theorem do_some {C : Cc} {e : Expr} {Γ : Gm} {i : Int} (h : DE C e Γ (tD (.int i))) : DO C (some e) Γ (some i) := h
theorem do_none {C : Cc} {Γ : Gm} : DO C none Γ none := trivial
theorem shaped_nil : SeqAt.shaped (.tuple []) = true := by decide +kernel
section
variable {E : Ev} {f : Addr} {fd : FuncData} {A : Addr}
def rShortest : List Ty → Ty → Prop := fun Ts T => Ts = [tD (.tuple [])] ∧ T = tD (.tuple [])
theorem scShortest : FnScope ["turn", "size"] ["turn"] (defScope sShortest) := ⟨rfl, rfl, rfl, by decide +kernel, rfl, by decide +kernel, by decide +kernel⟩
theorem ok_shortest (hl : E.mg "len" = none) (hr : E.mg "range" = none) (F : FnP E.K "shortest" sShortest f fd) : Ok E 1 f fd ["turn"] rShortest := by
  refine defOk F scShortest (fun Ts T ⟨e, _⟩ => by subst e; rfl) ?_
  rintro Ts T ⟨rfl, rfl⟩
  have nd := scShortest.nd
  refine ds_for (di_range2 (isb hr) d_int (d_add (lenT hl (dv 0)) d_int) (by decide) (by decide) (by decide) (by decide)) (dg_name (stn 1)) (fun i Γ => Γ = [some (sD (.tuple [])), none]) rfl ?_ ?_
  · rintro i d Γ1 hd rfl
    have := (upD_get hd).1
    exact absurd this (by
      show ¬ i < ((((0 : Nat) : Int) + 1) - 1).toNat
      simp)
  · rintro Γ1 rfl
    exact ds_ret (dv 0) (Ty.le_refl _)
def rLeastRow : List Ty → Ty → Prop := fun Ts T => ∃ l : List Int, (Ts = [tD (eIs l), tD (.list [])] ∨ Ts = [tD (eIt l), tD (.tuple [])]) ∧ T = tD (eR l)
theorem scLeastRow : FnScope ["lead", "turn", "ahead", "again"] ["lead", "turn"] (defScope sLeastRow) := ⟨rfl, rfl, rfl, by decide +kernel, rfl, by decide +kernel, by decide +kernel⟩
theorem ok_least_row (ht : E.mg "tuple" = none) (KS : Kn E 1 "shortest" rShortest) (F : FnP E.K "least_row" sLeastRow f fd) : Ok E 2 f fd ["lead", "turn"] rLeastRow := by
  refine defOk F scLeastRow (fun Ts T ⟨_, e, _⟩ => by rcases e with e | e <;> subst e <;> rfl) ?_
  rintro Ts T ⟨l, e, rfl⟩
  have nd := scLeastRow.nd
  have rest : ∀ (Sa Sb : Sl), DS (defC E ["lead", "turn", "ahead", "again"] (defScope sLeastRow) 1) ((defBody sLeastRow).drop 1) [some Sa, some Sb, some (sD (eIt l)), some (sD (.tuple []))] (retP (tD (eR l))) := fun Sa Sb => by
    refine ds_while (fun m Γ => Γ = [some Sa, some Sb, some (sD (eIt l)), some (sD (.tuple []))]) 0 rfl ?_
    rintro m Γ1 rfl
    refine ⟨false, ?_, (fun z => by cases z), fun _ => ds_ret (d_tup (dd_cons (dv 2) (dd_cons (dv 3) dd_nil))) (Ty.le_refl _)⟩
    exact DW.dt (dw_and (k := false) (l := false) ((dt_ne shaped_nil shaped_nil (dv 3) (d_tup dd_nil)).is rfl) fun z => by cases z)
  rcases e with rfl | rfl
  · exact ds_par2 (das_cons (tupD (ds := l.map .int) ht (dv 0)) (das_cons (cl1 KS (tupD (ds := []) ht (dv 1)) ⟨rfl, rfl⟩) das_nil)) (stn 2) (stn 3) (by decide) rfl rfl (rest _ _) (fun env h => by cases env; cases h; rfl)
  · exact ds_par2 (das_cons (tupT (ds := l.map .int) ht (dv 0)) (das_cons (cl1 KS (tupT (ds := []) ht (dv 1)) ⟨rfl, rfl⟩) das_nil)) (stn 2) (stn 3) (by decide) rfl rfl (rest _ _) (fun env h => by cases env; cases h; rfl)
def rNoteAt : List Ty → Ty → Prop := fun Ts T => ∃ (l : List Int) (k : Nat) (x : Int), Ts = [tD (eR l), tD (.int (k : Nat))] ∧ l[k]? = some x ∧ T = tD (.int x)
theorem scNoteAt : FnScope ["row", "depth", "lead", "turn"] ["row", "depth"] (defScope sNoteAt) := ⟨rfl, rfl, rfl, by decide +kernel, rfl, by decide +kernel, by decide +kernel⟩
theorem ok_note_at (hl : E.mg "len" = none) (F : FnP E.K "note_at" sNoteAt f fd) : Ok E 1 f fd ["row", "depth"] rNoteAt := by
  refine defOk F scNoteAt (fun Ts T ⟨_, _, _, e, _⟩ => by subst e; rfl) ?_
  rintro Ts T ⟨l, k, x, rfl, hx, rfl⟩
  have nd := scNoteAt.nd
  have hk := (List.getElem?_eq_some_iff.mp hx).1
  refine ds_unp (dv 0) (dg_tup2 (stn 2) (stn 3)) gr_tup2 ?_
  refine ds_pass (DW.dt (dw_or (k := false) (l := false) ((dt_lt (dv 1) d_int).is (decide_eq_false (by omega))) fun _ => dw_or1 (DW.dt (dw_and (k := false) (l := false) ((dt_ge (dv 1) (lenT (ds := l.map .int) hl (dv 2))).is (decide_eq_false (by rw [List.length_map]; omega))) fun z => by cases z)))) ?_
  exact ds_ret (d_ifT ((dt_lt (dv 1) (lenT (ds := l.map .int) hl (dv 2))).is (decide_eq_true (by rw [List.length_map]; omega))) (d_ixT (ds := l.map .int) (dv 2) (dv 1) (at_nat (j := k) rfl (by rw [List.getElem?_map, hx]; rfl)))) (Ty.le_refl _)
def rBehind : List Ty → Ty → Prop := fun Ts T => ∃ (l : List Int) (k : Nat), Ts = [tD (eR l), tD (.int (k : Nat))] ∧ k ≤ l.length ∧ l.length ≤ 1000 ∧ T = tD (eR (l.drop k))
theorem scBehind : FnScope ["row", "many", "lead", "turn", "step"] ["row", "many"] (defScope sBehind) := ⟨rfl, rfl, rfl, by decide +kernel, rfl, by decide +kernel, by decide +kernel⟩
theorem cut_drop (ds : List PyData) (k : Nat) (h : k ≤ ds.length) : DL.cutD ds (some (k : Nat)) none = ds.drop k := by
  have e1 : HT.sIx ds.length 0 (some ((k : Nat) : Int)) = k := by
    unfold HT.sIx
    simp only [Int.toNat_natCast]
    rw [if_neg (by omega)]
    exact Nat.min_eq_left h
  have e2 : HT.sIx ds.length ds.length none = ds.length := rfl
  unfold DL.cutD
  rw [e1, e2]
  rw [List.take_of_length_le]
  rw [List.length_drop]
  exact Nat.le_refl _
theorem ok_behind (hl : E.mg "len" = none) (KL : Kn E 2 "least_row" rLeastRow) (F : FnP E.K "behind" sBehind f fd) : Ok E 3 f fd ["row", "many"] rBehind := by
  refine defOk F scBehind (fun Ts T ⟨_, _, e, _⟩ => by subst e; rfl) ?_
  rintro Ts T ⟨l, k, rfl, hk, hl1, rfl⟩
  have nd := scBehind.nd
  refine ds_unp (dv 0) (dg_tup2 (stn 2) (stn 3)) gr_tup2 ?_
  refine ds_ifT ((dt_le (dv 1) (lenT (ds := l.map .int) hl (dv 2))).is (decide_eq_true (by rw [List.length_map]; omega))) ?_
  refine ds_ret (cl2 KL ((d_slT (ds := l.map .int) (l := some (k : Nat)) (u := none) (dv 2) (do_some (i := ((k : Nat) : Int)) (dv 1)) do_none).is (d' := eIt (l.drop k)) ?_) (dv 3) ⟨l.drop k, .inr rfl, rfl⟩) (Ty.le_refl _)
  rw [cut_drop _ _ (by rw [List.length_map]; exact hk), ← List.map_drop]
  rfl
def rHasNotes : List Ty → Ty → Prop := fun Ts T => ∃ (l : List Int) (d : Int), Ts = [tD (eR l), tD (.int d)] ∧ T = tD (.bool (decide (d ≤ (l.length : Nat))))
theorem scHasNotes : FnScope ["row", "many", "lead", "turn"] ["row", "many"] (defScope sHasNotes) := ⟨rfl, rfl, rfl, by decide +kernel, rfl, by decide +kernel, by decide +kernel⟩
theorem ok_has_notes (hl : E.mg "len" = none) (F : FnP E.K "has_notes" sHasNotes f fd) : Ok E 1 f fd ["row", "many"] rHasNotes := by
  refine defOk F scHasNotes (fun Ts T ⟨_, _, e, _⟩ => by subst e; rfl) ?_
  rintro Ts T ⟨l, d, rfl, rfl⟩
  have nd := scHasNotes.nd
  refine ds_unp (dv 0) (dg_tup2 (stn 2) (stn 3)) gr_tup2 ?_
  refine ds_ret ((d_or (k := false) ((d_ne shaped_nil shaped_nil (dv 3) (d_tup dd_nil)).is rfl) fun _ => d_one (d_ge (lenT (ds := l.map .int) hl (dv 2)) (dv 1))).is ?_) (Ty.le_refl _)
  rw [List.length_map]
  rfl
end
end Tb
set_option Elab.async false
set_option linter.all false
set_option maxRecDepth 100000
set_option maxHeartbeats 1000000
namespace Tb
open PySem PySem.Spec PyProof.Rows L2 DL
/-! ### tearing: stands_on, standing_on, torn_off, torn_all, on_part, sweep_of -/
abbrev Rws := List (List Int)
def rowAt (rs : Rws) (p : Int) : List Int := rs.getD p.toNat []
def stB (rs : Rws) (t : Tri) : Bool := decide (t.2.2 ≤ ((rowAt rs t.1).length : Nat)) && decide ((rowAt rs t.1).headD 0 = t.2.1)
def standsB (rs : Rws) (g : Fig) : Bool := g.all (stB rs)
def tear1 (rs : Rws) (t : Tri) : Rws := rs.set t.1.toNat ((rowAt rs t.1).drop t.2.2.toNat)
def tornOff (rs : Rws) (g : Fig) : Rws := g.foldl tear1 rs
/-- rows of as many notes as the walk can bear -/
structure OkRows (n : Nat) (rs : Rws) : Prop where
  len : rs.length = n
  row : ∀ l ∈ rs, l.length ≤ 1000
theorem row_get {rs : Rws} {p : Int} (h0 : 0 ≤ p) (h : p < (rs.length : Nat)) : rs[p.toNat]? = some (rowAt rs p) := by
  have hl : p.toNat < rs.length := by omega
  unfold rowAt
  rw [List.getD_eq_getElem?_getD, List.getElem?_eq_getElem hl]
  rfl
theorem row_at {rs : Rws} {p : Int} (h0 : 0 ≤ p) (h : p < (rs.length : Nat)) : atI (rs.map eR) p = some (eR (rowAt rs p)) := at_int h0 (by rw [List.getElem?_map, row_get h0 h]; rfl)
theorem OkRows.get {n : Nat} {rs : Rws} (h : OkRows n rs) (p : Int) : (rowAt rs p).length ≤ 1000 := by
  unfold rowAt
  rw [List.getD_eq_getElem?_getD]
  cases e : rs[p.toNat]? with
  | none => exact Nat.zero_le _
  | some l => exact h.row l (List.mem_of_getElem? e)
theorem rowAt_set_ne {rs : Rws} {p q : Int} {l : List Int} (hp : 0 ≤ p) (hq : 0 ≤ q) (h : p ≠ q) : rowAt (rs.set p.toNat l) q = rowAt rs q := by
  unfold rowAt
  rw [List.getD_eq_getElem?_getD, List.getD_eq_getElem?_getD, List.getElem?_set_ne (by omega)]
theorem rowAt_set {rs : Rws} {p : Int} {l : List Int} (hp : 0 ≤ p) (h : p < (rs.length : Nat)) : rowAt (rs.set p.toNat l) p = l := by
  unfold rowAt
  rw [List.getD_eq_getElem?_getD, List.getElem?_set_self (by omega)]
  rfl
theorem tear1_len {rs : Rws} {t : Tri} : (tear1 rs t).length = rs.length := List.length_set ..
theorem OkRows.tear1 {n : Nat} {rs : Rws} (h : OkRows n rs) (t : Tri) : OkRows n (tear1 rs t) := ⟨by rw [tear1_len, h.len], fun l hl => by
  rcases List.mem_or_eq_of_mem_set hl with hl | e
  · exact h.row l hl
  · subst e
    rw [List.length_drop]
    have := h.get t.1
    omega⟩
theorem OkRows.torn {n : Nat} : ∀ {g : Fig} {rs : Rws}, OkRows n rs → OkRows n (tornOff rs g)
  | [], _, h => h
  | t :: g, _, h => OkRows.torn (g := g) (h.tear1 t)
section
variable {E : Ev} {f : Addr} {fd : FuncData} {A : Addr}
def rStandsOn : List Ty → Ty → Prop := fun Ts T => ∃ (cols : List Int) (g : Fig) (rs : Rws), Ts = [tD (eF g), tD (eRows rs)] ∧ OkFig cols g ∧ rs.length = cols.length ∧ T = tD (.bool (standsB rs g))
theorem scStandsOn : FnScope ["figure", "rows", "pad", "note", "depth"] ["figure", "rows"] (defScope sStandsOn) := ⟨rfl, rfl, rfl, by decide +kernel, rfl, by decide +kernel, by decide +kernel⟩
theorem ok_stands_on (KH : Kn E 1 "has_notes" rHasNotes) (KN : Kn E 1 "note_at" rNoteAt) (F : FnP E.K "stands_on" sStandsOn f fd) : Ok E 2 f fd ["figure", "rows"] rStandsOn := by
  refine defOk F scStandsOn (fun Ts T ⟨_, _, _, e, _⟩ => by subst e; rfl) ?_
  rintro Ts T ⟨cols, g, rs, rfl, ok, hlen, rfl⟩
  have nd := scStandsOn.nd
  refine ds_for (ds := g.map eT) (di_tup (dv 0)) (dg_tup3 (stn 2) (stn 3) (stn 4)) (fun i Γ => Γ = [some (sD (eF g)), some (sD (eRows rs)), none, none, none] ∧ (g.take i).all (stB rs) = true) ⟨rfl, rfl⟩ ?_ ?_
  · rintro i d Γ1 hd ⟨rfl, hall⟩
    rw [List.getElem?_map] at hd
    obtain ⟨t, ht, rfl⟩ := Option.map_eq_some_iff.mp hd
    have hm := List.mem_of_getElem? ht
    have okt := ok.tri t hm
    have ra := row_at (rs := rs) okt.p0 (by rw [hlen]; exact okt.lt)
    have e1 : g.take (i + 1) = g.take i ++ [t] := by
      rw [List.take_add_one, ht]
      rfl
    refine ⟨_, _, gr_tup3, ?_⟩
    refine ds_if (k := !stB rs t) (DT.is (DW.dt (dw_or (k := !decide (t.2.2 ≤ ((rowAt rs t.1).length : Nat))) (l := !decide ((rowAt rs t.1).headD 0 = t.2.1)) (dt_not (tv (cl2 KH (d_ixT (ds := rs.map eR) (dv 1) (dv 2) ra) (dv 4) ⟨rowAt rs t.1, t.2.2, rfl, rfl⟩))) fun hk => dw_or1 ?_)) ?_) (fun hk => ?_) (fun hk => ?_)
    · have h1 : t.2.2 ≤ ((rowAt rs t.1).length : Nat) := by simpa using hk
      have h2 := okt.d1
      obtain ⟨x, r, er⟩ : ∃ x r, rowAt rs t.1 = x :: r := by
        cases e : rowAt rs t.1 with
        | nil =>
          rw [e] at h1
          exact absurd h1 (by show ¬ t.2.2 ≤ ((0 : Nat) : Int); omega)
        | cons x r => exact ⟨x, r, rfl⟩
      rw [er]
      rw [er] at ra
      exact dt_neI (cl2 KN (d_ixT (ds := rs.map eR) (dv 1) (dv 2) ra) d_int ⟨x :: r, 0, x, rfl, rfl, rfl⟩) (dv 3)
    · unfold stB
      rw [Bool.not_and]
    · have hs : standsB rs g = false := by
        unfold standsB
        rw [List.all_eq_false]
        exact ⟨t, hm, by simpa using hk⟩
      rw [hs]
      exact ds_ret d_bl (Ty.le_refl _)
    · refine ds_nil (Γ' := [some (sD (eF g)), some (sD (eRows rs)), none, none, none]) (ds_nil ⟨rfl, ?_⟩ Gle.refl) ⟨rfl, rfl, trivial⟩
      rw [e1, List.all_append, hall]
      simpa using hk
  · rintro Γ1 ⟨rfl, hall⟩
    rw [List.length_map, List.take_length] at hall
    have hs : standsB rs g = true := hall
    rw [hs]
    exact ds_ret d_bl (Ty.le_refl _)
def standList (rs : Rws) (figs : List Fig) : List Nat := (figs.zipIdx.filter fun q => standsB rs q.1).map (·.2)
def rStandingOn (A : Addr) : List Ty → Ty → Prop := fun Ts T => ∃ (cols : List Int) (figs : List Fig) (rs : Rws), Ts = [bkT A cols figs, tD (eRows rs)] ∧ OkBook cols figs ∧ rs.length = cols.length ∧ T = tL ((zs (standList rs figs)).map .int)
theorem scStandingOn : FnScope ["book", "rows", "at", "figure"] ["book", "rows"] (defScope sStandingOn) := ⟨rfl, rfl, rfl, by decide +kernel, rfl, by decide +kernel, by decide +kernel⟩
theorem enF_zip (l : List Fig) : enD (l.map eF) = l.zipIdx.map fun q => .tuple [.int (q.2 : Nat), eF q.1] := by
  apply List.ext_getElem?
  intro i
  unfold enD
  rw [List.getElem?_mapIdx, List.getElem?_map, List.getElem?_map, List.getElem?_zipIdx]
  cases l[i]? with
  | none => rfl
  | some x => simp
theorem ok_standing_on (he : E.mg "enumerate" = none) (KF : KnM E 1 A "figures" (rBookFigures A)) (KS : Kn E 2 "stands_on" rStandsOn) (F : FnP E.K "standing_on" sStandingOn f fd) : Ok E 3 f fd ["book", "rows"] (rStandingOn A) := by
  refine defOk F scStandingOn (fun Ts T ⟨_, _, _, e, _⟩ => by subst e; rfl) ?_
  rintro Ts T ⟨cols, figs, rs, rfl, ok, hlen, rfl⟩
  have nd := scStandingOn.nd
  have f12 := ok.f12
  refine ds_ret ((lc_ifE (lc_if (fun q : Fig × Nat => .tuple [.int (q.2 : Nat), eF q.1]) figs.zipIdx (fun q => standsB rs q.1) (fun q => .int (q.2 : Nat)) [("at", 2), ("figure", 3)] (by rw [← enF_zip]; exact di_enum (isb he) (me0 KF (dv 0) insI ⟨cols, figs, rfl, rfl⟩).w) nd (dg_tup2 (stn 2) (stn 3)) ?_ (fun q hq => ⟨_, gr_tup2, tv ?_, fun _ => dv 2⟩))).isL ?_) (Ty.le_refl _)
  · rw [List.length_zipIdx]
    omega
  · exact cl2 KS (dv 3) (dv 1) ⟨cols, q.1, rs, rfl, ok.fig q.1 (List.fst_mem_of_mem_zipIdx hq), hlen, rfl⟩
  · unfold standList zs
    rw [List.map_map, List.map_map]
    rfl
def rTornOff : List Ty → Ty → Prop := fun Ts T => ∃ (cols : List Int) (g : Fig) (rs : Rws), Ts = [tD (eF g), tD (eRows rs)] ∧ OkFig cols g ∧ OkRows cols.length rs ∧ standsB rs g = true ∧ T = tD (eRows (tornOff rs g))
theorem scTornOff : FnScope ["figure", "rows", "found", "pad", "note", "depth"] ["figure", "rows"] (defScope sTornOff) := ⟨rfl, rfl, rfl, by decide +kernel, rfl, by decide +kernel, by decide +kernel⟩
theorem torn_keep : ∀ {g : Fig} {rs : Rws} {p : Int}, (∀ t ∈ g, 0 ≤ t.1 ∧ t.1 ≠ p) → 0 ≤ p → rowAt (tornOff rs g) p = rowAt rs p
  | [], _, _, _, _ => rfl
  | t :: g, rs, p, h, hp => by
    show rowAt (tornOff (tear1 rs t) g) p = _
    rw [torn_keep (fun u hu => h u (List.mem_cons_of_mem _ hu)) hp]
    have := h t (List.mem_cons_self ..)
    exact rowAt_set_ne this.1 hp this.2
theorem torn_app (rs : Rws) (g h : Fig) : tornOff rs (g ++ h) = tornOff (tornOff rs g) h := List.foldl_append
theorem ok_torn_off (ht : E.mg "tuple" = none) (hl : E.mg "list" = none) (KB : Kn E 3 "behind" rBehind) (F : FnP E.K "torn_off" sTornOff f fd) : Ok E 4 f fd ["figure", "rows"] rTornOff := by
  refine defOk F scTornOff (fun Ts T ⟨_, _, _, e, _⟩ => by subst e; rfl) ?_
  rintro Ts T ⟨cols, g, rs, rfl, ok, okr, hs, rfl⟩
  have nd := scTornOff.nd
  refine ds_setO (listT (ds := rs.map eR) hl (dv 1)) (stn 2) ?_
  refine ds_for (ds := g.map eT) (di_tup (dv 0)) (dg_tup3 (stn 3) (stn 4) (stn 5)) (fun i Γ => Γ = [some (sD (eF g)), some (sD (eRows rs)), some (so ((tornOff rs (g.take i)).map eR)), none, none, none]) rfl ?_ ?_
  · rintro i d Γ1 hd rfl
    rw [List.getElem?_map] at hd
    obtain ⟨t, hti, rfl⟩ := Option.map_eq_some_iff.mp hd
    have hm := List.mem_of_getElem? hti
    have okt := ok.tri t hm
    have e1 : g.take (i + 1) = g.take i ++ [t] := by
      rw [List.take_add_one, hti]
      rfl
    have okr' : OkRows cols.length (tornOff rs (g.take i)) := okr.torn
    have hlt : t.1 < ((tornOff rs (g.take i)).length : Nat) := by
      rw [okr'.len]
      exact okt.lt
    have ra := row_at (rs := tornOff rs (g.take i)) okt.p0 hlt
    have hkeep : rowAt (tornOff rs (g.take i)) t.1 = rowAt rs t.1 := torn_keep (fun u hu => ⟨(ok.tri u (List.mem_of_mem_take hu)).p0, by
      obtain ⟨j, hj, ej⟩ := List.getElem_of_mem hu
      rw [List.length_take] at hj
      have hjl : j < g.length := by omega
      rw [List.getElem_take] at ej
      have := List.pairwise_iff_getElem.mp ok.up j i hjl (List.getElem?_eq_some_iff.mp hti).1 (by omega)
      rw [ej, (List.getElem?_eq_some_iff.mp hti).2] at this
      omega⟩) okt.p0
    have hst := List.all_eq_true.mp hs t hm
    unfold stB at hst
    rw [Bool.and_eq_true] at hst
    have hd1 := of_decide_eq_true hst.1
    have d1 := okt.d1
    refine ⟨_, _, gr_tup3, ?_⟩
    refine ds_put (n := 2) (ds := (tornOff rs (g.take i)).map eR) (k := t.1.toNat) (d := eR ((rowAt (tornOff rs (g.take i)) t.1).drop t.2.2.toNat)) rfl rfl (Or.inl rfl) (cl2 KB (d_ixO (n := 2) rfl (Or.inl rfl) rfl (dv 3) ra) (dv 5) ⟨rowAt (tornOff rs (g.take i)) t.1, t.2.2.toNat, ?_, ?_, okr'.get _, rfl⟩) ((dv 3 : DE _ _ _ (tD (.int t.1))).is ?_) ?_ rfl (ds_nil rfl ⟨rfl, rfl, ?_, trivial⟩)
    · rw [Int.toNat_of_nonneg (show 0 ≤ t.2.2 by omega)]
    · rw [hkeep]
      omega
    · rw [Int.toNat_of_nonneg okt.p0]
    · rw [List.length_map]
      have := okt.p0
      omega
    · rw [e1, torn_app]
      show _ = some (so (List.map eR (tear1 (tornOff rs (g.take i)) t)))
      unfold tear1
      rw [List.map_set]
  · rintro Γ1 rfl
    rw [List.length_map, List.take_length]
    refine ds_freeze (n := 2) rfl rfl ?_
    exact ds_ret (tupL (ds := (tornOff rs g).map eR) ht (dv 2)) (Ty.le_refl _)
/-- the figures of S stand, one behind another -/
inductive TOk (figs : List Fig) : Rws → List Nat → Prop
  | nil {rs : Rws} : TOk figs rs []
  | cons {rs : Rws} {k : Nat} {S : List Nat} {g : Fig} : figs[k]? = some g → standsB rs g = true → TOk figs (tornOff rs g) S → TOk figs rs (k :: S)
def tornAll (figs : List Fig) : Rws → List Nat → Rws
  | rs, [] => rs
  | rs, k :: S => tornAll figs (tornOff rs (figs.getD k [])) S
theorem OkRows.all {n : Nat} {figs : List Fig} : ∀ {S : List Nat} {rs : Rws}, OkRows n rs → OkRows n (tornAll figs rs S)
  | [], _, h => h
  | k :: S, _, h => OkRows.all (S := S) h.torn
theorem tornAll_app (figs : List Fig) : ∀ (S S' : List Nat) (rs : Rws), tornAll figs rs (S ++ S') = tornAll figs (tornAll figs rs S) S'
  | [], _, _ => rfl
  | k :: S, S', rs => tornAll_app figs S S' _
theorem TOk.at_ {figs : List Fig} : ∀ {S : List Nat} {rs : Rws} {i k : Nat}, TOk figs rs S → S[i]? = some k → ∃ g, figs[k]? = some g ∧ standsB (tornAll figs rs (S.take i)) g = true
  | _, _, 0, _, .cons a b c, h => by
    cases h
    exact ⟨_, a, b⟩
  | _, _, i + 1, k, .cons (k := k0) (S := S) (g := g0) a b c, h => by
    obtain ⟨g, e1, e2⟩ := TOk.at_ (i := i) c h
    refine ⟨g, e1, ?_⟩
    show standsB (tornAll figs (tornOff _ (figs.getD k0 [])) (S.take i)) g = true
    rw [List.getD_eq_getElem?_getD, a]
    exact e2
def rTornAll (A : Addr) : List Ty → Ty → Prop := fun Ts T => ∃ (cols : List Int) (figs : List Fig) (S : List Nat) (rs : Rws), Ts = [bkT A cols figs, tL ((zs S).map .int), tD (eRows rs)] ∧ OkBook cols figs ∧ OkRows cols.length rs ∧ TOk figs rs S ∧ T = tD (eRows (tornAll figs rs S))
theorem scTornAll : FnScope ["book", "some", "rows", "here", "at"] ["book", "some", "rows"] (defScope sTornAll) := ⟨rfl, rfl, rfl, by decide +kernel, rfl, by decide +kernel, by decide +kernel⟩
theorem zs_get {S : List Nat} {i : Nat} {d : PyData} (h : ((zs S).map PyData.int)[i]? = some d) : ∃ k, S[i]? = some k ∧ d = .int (k : Nat) := by
  unfold zs at h
  rw [List.map_map, List.getElem?_map] at h
  obtain ⟨k, hk, rfl⟩ := Option.map_eq_some_iff.mp h
  exact ⟨k, hk, rfl⟩
theorem zs_len (S : List Nat) : ((zs S).map PyData.int).length = S.length := by
  unfold zs
  rw [List.length_map, List.length_map]
theorem ok_torn_all (KS : KnM E 1 A "shape" (rBookShape A)) (KT : Kn E 4 "torn_off" rTornOff) (F : FnP E.K "torn_all" sTornAll f fd) : Ok E 5 f fd ["book", "some", "rows"] (rTornAll A) := by
  refine defOk F scTornAll (fun Ts T ⟨_, _, _, _, e, _⟩ => by subst e; rfl) ?_
  rintro Ts T ⟨cols, figs, S, rs, rfl, ok, okr, tk, rfl⟩
  have nd := scTornAll.nd
  refine ds_set (dv 2 : DE _ _ _ (tD (eRows rs))) (stn 3) ?_
  refine ds_for (ds := (zs S).map .int) (di_list (dv 1 : DE _ _ _ (tL ((zs S).map .int))).w) (dg_name (stn 4)) (fun i Γ => Γ = [some (sv (bkT A cols figs)), some (sv (tL ((zs S).map .int))), some (sD (eRows rs)), some (sD (eRows (tornAll figs rs (S.take i)))), none]) rfl ?_ ?_
  · rintro i d Γ1 hd rfl
    obtain ⟨k, hk, rfl⟩ := zs_get hd
    obtain ⟨g, hg, hst⟩ := tk.at_ hk
    have e1 : S.take (i + 1) = S.take i ++ [k] := by
      rw [List.take_add_one, hk]
      rfl
    refine ⟨_, _, gr_name, ?_⟩
    refine ds_set (cl2 KT (me1 KS (dv 0) insI (dv 4) ⟨cols, figs, k, g, rfl, hg, rfl⟩) (dv 3) ⟨cols, g, tornAll figs rs (S.take i), rfl, ok.fig g (List.mem_of_getElem? hg), okr.all, hst, rfl⟩) (stn 3) (ds_nil rfl ⟨rfl, rfl, rfl, ?_, trivial⟩)
    rw [e1, tornAll_app]
    show _ = some (sD (eRows (tornOff (tornAll figs rs (S.take i)) (figs.getD k []))))
    rw [List.getD_eq_getElem?_getD, hg]
    rfl
  · rintro Γ1 rfl
    rw [zs_len, List.take_length]
    exact ds_ret (dv 3) (Ty.le_refl _)
def onPart (figs : List Fig) (pads : List Int) : List Nat := (figs.zipIdx.filter fun q => decide ((padsOf q.1).headD 0 ∈ pads)).map (·.2)
def rOnPart (A : Addr) : List Ty → Ty → Prop := fun Ts T => ∃ (cols : List Int) (figs : List Fig) (pads : List Int), Ts = [bkT A cols figs, tD (lI pads)] ∧ OkBook cols figs ∧ T = tL ((zs (onPart figs pads)).map .int)
theorem scOnPart : FnScope ["book", "pads", "at", "figure"] ["book", "pads"] (defScope sOnPart) := ⟨rfl, rfl, rfl, by decide +kernel, rfl, by decide +kernel, by decide +kernel⟩
theorem ok_on_part (he : E.mg "enumerate" = none) (KF : KnM E 1 A "figures" (rBookFigures A)) (KP : Kn E 1 "pads_of" rPadsOf) (F : FnP E.K "on_part" sOnPart f fd) : Ok E 2 f fd ["book", "pads"] (rOnPart A) := by
  refine defOk F scOnPart (fun Ts T ⟨_, _, _, e, _⟩ => by subst e; rfl) ?_
  rintro Ts T ⟨cols, figs, pads, rfl, ok, rfl⟩
  have nd := scOnPart.nd
  have f12 := ok.f12
  refine ds_ret ((lc_ifE (lc_if (fun q : Fig × Nat => .tuple [.int (q.2 : Nat), eF q.1]) figs.zipIdx (fun q => decide ((padsOf q.1).headD 0 ∈ pads)) (fun q => .int (q.2 : Nat)) [("at", 2), ("figure", 3)] (by rw [← enF_zip]; exact di_enum (isb he) (me0 KF (dv 0) insI ⟨cols, figs, rfl, rfl⟩).w) nd (dg_tup2 (stn 2) (stn 3)) ?_ (fun q hq => ⟨_, gr_tup2, ?_, fun _ => dv 2⟩))).isL ?_) (Ty.le_refl _)
  · rw [List.length_zipIdx]
    omega
  · have okg := ok.fig q.1 (List.fst_mem_of_mem_zipIdx hq)
    have h0 : atI ((padsOf q.1).map PyData.int) 0 = some (.int ((padsOf q.1).headD 0)) := by
      obtain ⟨g, k⟩ := q
      cases g with
      | nil => exact absurd rfl okg.ne
      | cons t g => exact at_int (Int.le_refl 0) rfl
    exact dt_inL (ns := pads) (d_ixL (cl1 KP (dv 3) ⟨q.1, rfl, Nat.le_trans okg.len (Nat.le_trans ok.c6 (by decide)), rfl⟩).w d_int h0) (dv 1) (by with_unfolding_all rfl)
  · unfold onPart zs
    rw [List.map_map, List.map_map]
    rfl
def sweepL (figs : List Fig) (rs : Rws) (S : List Nat) : List Nat := S.filter fun k => standsB rs (figs.getD k [])
def rSweepOf (A : Addr) : List Ty → Ty → Prop := fun Ts T => ∃ (cols : List Int) (figs : List Fig) (S : List Nat) (rs : Rws), Ts = [bkT A cols figs, tL ((zs S).map .int), tD (eRows rs)] ∧ OkBook cols figs ∧ rs.length = cols.length ∧ S.length ≤ 1000 ∧ (∀ k ∈ S, k < figs.length) ∧ T = tL ((zs (sweepL figs rs S)).map .int)
theorem scSweepOf : FnScope ["book", "some", "rows", "at"] ["book", "some", "rows"] (defScope sSweepOf) := ⟨rfl, rfl, rfl, by decide +kernel, rfl, by decide +kernel, by decide +kernel⟩
theorem ok_sweep_of (KS : KnM E 1 A "shape" (rBookShape A)) (KT : Kn E 2 "stands_on" rStandsOn) (F : FnP E.K "sweep_of" sSweepOf f fd) : Ok E 3 f fd ["book", "some", "rows"] (rSweepOf A) := by
  refine defOk F scSweepOf (fun Ts T ⟨_, _, _, _, e, _⟩ => by subst e; rfl) ?_
  rintro Ts T ⟨cols, figs, S, rs, rfl, ok, hlen, hS, hk, rfl⟩
  have nd := scSweepOf.nd
  refine ds_ret ((lc_ifE (lc_if (fun k : Nat => .int (k : Nat)) S (fun k => standsB rs (figs.getD k [])) (fun k => .int (k : Nat)) [("at", 3)] (di_list ((dv 1 : DE _ _ _ (tL ((zs S).map .int))).w.is (by unfold zs; rw [List.map_map]; rfl))) nd (dg_name (stn 3)) (by omega) (fun k hkm => ⟨_, gr_name, ?_, fun _ => dv 3⟩))).isL ?_) (Ty.le_refl _)
  · obtain ⟨g, hg⟩ : ∃ g, figs[k]? = some g := ⟨_, List.getElem?_eq_getElem (hk k hkm)⟩
    have gd : figs.getD k [] = g := by rw [List.getD_eq_getElem?_getD, hg]; rfl
    rw [gd]
    exact tv (cl2 KT (me1 KS (dv 0) insI (dv 3) ⟨cols, figs, k, g, rfl, hg, rfl⟩) (dv 2) ⟨cols, g, rs, rfl, ok.fig g (List.mem_of_getElem? hg), hlen, rfl⟩)
  · unfold sweepL zs
    rw [List.map_map]
    rfl
end
end Tb
set_option Elab.async false
set_option linter.all false
set_option maxRecDepth 100000
set_option maxHeartbeats 1000000
namespace Tb
open PySem PySem.Spec PyProof.Rows L2 DL
/-! ### plain: tearing takes notes off; standing figures are apart -/
def rt (pads : List Int) (rs : Rws) : Nat := (pads.map fun p => (rowAt rs p).length).sum
theorem row_tear1 (rs : Rws) (t : Tri) (p : Int) : (rowAt (tear1 rs t) p).length ≤ (rowAt rs p).length := by
  unfold tear1 rowAt
  rw [List.getD_eq_getElem?_getD, List.getD_eq_getElem?_getD, List.getD_eq_getElem?_getD, List.getElem?_set]
  by_cases h : t.1.toNat = p.toNat
  · rw [if_pos h, h]
    by_cases hl : p.toNat < rs.length
    · rw [if_pos hl, List.getElem?_eq_getElem hl]
      show (List.drop _ rs[p.toNat]).length ≤ (rs[p.toNat]).length
      rw [List.length_drop]
      omega
    · rw [if_neg hl]
      exact Nat.zero_le _
  · rw [if_neg h]
    exact Nat.le_refl _
theorem row_torn : ∀ (g : Fig) (rs : Rws) (p : Int), (rowAt (tornOff rs g) p).length ≤ (rowAt rs p).length
  | [], _, _ => Nat.le_refl _
  | t :: g, rs, p => Nat.le_trans (row_torn g (tear1 rs t) p) (row_tear1 rs t p)
theorem row_strict : ∀ {g : Fig} {rs : Rws} {t : Tri}, (g.Pairwise fun s t => s.1 < t.1) → (∀ u ∈ g, 0 ≤ u.1) → t ∈ g → 1 ≤ t.2.2 → t.2.2 ≤ ((rowAt rs t.1).length : Nat) → (rowAt (tornOff rs g) t.1).length + 1 ≤ (rowAt rs t.1).length
  | u :: g, rs, t, hp, h0, ht, h1, h2 => by
    have hp2 := List.pairwise_cons.mp hp
    rcases List.mem_cons.mp ht with e | ht
    · subst e
      have a := row_torn g (tear1 rs t) t.1
      have b : (rowAt (tear1 rs t) t.1).length + 1 ≤ (rowAt rs t.1).length := by
        have hl : t.1.toNat < rs.length := by
          rcases Nat.lt_or_ge t.1.toNat rs.length with h | h
          · exact h
          · have : rowAt rs t.1 = [] := by
              unfold rowAt
              rw [List.getD_eq_getElem?_getD, List.getElem?_eq_none h]
              rfl
            rw [this] at h2
            exact absurd h2 (by show ¬ t.2.2 ≤ ((0 : Nat) : Int); omega)
        have e : rowAt (tear1 rs t) t.1 = (rowAt rs t.1).drop t.2.2.toNat := by
          have := rowAt_set (rs := rs) (p := t.1) (l := (rowAt rs t.1).drop t.2.2.toNat) (h0 t (List.mem_cons_self ..)) (by have := h0 t (List.mem_cons_self ..); omega)
          exact this
        rw [e, List.length_drop]
        omega
      exact Nat.le_trans (Nat.succ_le_succ a) b
    · have e : rowAt (tear1 rs u) t.1 = rowAt rs t.1 := rowAt_set_ne (h0 u (List.mem_cons_self ..)) (h0 t (List.mem_cons_of_mem _ ht)) (by have := hp2.1 t ht; omega)
      have ih := row_strict (rs := tear1 rs u) (t := t) hp2.2 (fun v hv => h0 v (List.mem_cons_of_mem _ hv)) ht h1 (by rw [e]; exact h2)
      rw [e] at ih
      exact ih
theorem sum_le {α : Type} {f g : α → Nat} : ∀ {l : List α}, (∀ x ∈ l, f x ≤ g x) → (l.map f).sum ≤ (l.map g).sum
  | [], _ => Nat.le_refl _
  | x :: l, h => by
    have a := h x (List.mem_cons_self ..)
    have b := sum_le (l := l) fun y hy => h y (List.mem_cons_of_mem _ hy)
    rw [List.map_cons, List.map_cons, List.sum_cons, List.sum_cons]
    omega
theorem sum_lt {α : Type} {f g : α → Nat} : ∀ {l : List α} {x : α}, (∀ x ∈ l, f x ≤ g x) → x ∈ l → f x + 1 ≤ g x → (l.map f).sum + 1 ≤ (l.map g).sum
  | y :: l, x, h, hx, hl => by
    rw [List.map_cons, List.map_cons, List.sum_cons, List.sum_cons]
    rcases List.mem_cons.mp hx with e | hx
    · subst e
      have b := sum_le (l := l) fun y hy => h y (List.mem_cons_of_mem _ hy)
      omega
    · have a := h y (List.mem_cons_self ..)
      have b := sum_lt (l := l) (fun z hz => h z (List.mem_cons_of_mem _ hz)) hx hl
      omega
theorem stands_row {rs : Rws} {g : Fig} {t : Tri} (h : standsB rs g = true) (ht : t ∈ g) : t.2.2 ≤ ((rowAt rs t.1).length : Nat) ∧ (rowAt rs t.1).headD 0 = t.2.1 := by
  have := List.all_eq_true.mp h t ht
  unfold stB at this
  rw [Bool.and_eq_true] at this
  exact ⟨of_decide_eq_true this.1, of_decide_eq_true this.2⟩
theorem look_inv : ∀ {f : Fig} {p n : Int}, lookI (f.map fun t => (t.1, t.2.1)) p = some n → ∃ s ∈ f, s.1 = p ∧ s.2.1 = n
  | [], p, n, h => by cases h
  | u :: f, p, n, h => by
    unfold lookI at h
    rw [List.map_cons, List.find?_cons] at h
    by_cases e : u.1 = p
    · rw [decide_eq_true (show (u.1, u.2.1).1 = p from e)] at h
      exact ⟨u, List.mem_cons_self .., e, Option.some.inj h⟩
    · rw [decide_eq_false (show ¬ (u.1, u.2.1).1 = p from e)] at h
      obtain ⟨s, hs, a, b⟩ := look_inv (f := f) h
      exact ⟨s, List.mem_cons_of_mem _ hs, a, b⟩
theorem bar_no {rs : Rws} {g h : Fig} (hg : g.Pairwise fun s t => s.1 < t.1) (hb : barB g h = true) (h1 : standsB rs g = true) (h2 : standsB rs h = true) : False := by
  unfold barB at hb
  obtain ⟨t, ht, e⟩ := List.any_eq_true.mp hb
  rw [dictOf_eq hg] at e
  cases hl : lookI (g.map fun t => (t.1, t.2.1)) t.1 with
  | none =>
    rw [hl] at e
    cases e
  | some n =>
    rw [hl] at e
    obtain ⟨s, hs, a, b⟩ := look_inv hl
    have r1 := (stands_row h1 hs).2
    have r2 := (stands_row h2 ht).2
    rw [a] at r1
    have : n = t.2.1 := by rw [← b, ← r1, r2]
    have e' : (!decide (n = t.2.1)) = true := e
    rw [decide_eq_true this] at e'
    cases e'
theorem stands_apart {cols : List Int} {figs : List Fig} (ok : OkBook cols figs) {rs : Rws} {i j : Nat} {g h : Fig} (hi : figs[i]? = some g) (hj : figs[j]? = some h) (hij : i ≠ j) (h1 : standsB rs g = true) (h2 : standsB rs h = true) : ∀ s ∈ g, ∀ t ∈ h, s.1 ≠ t.1 := by
  intro s hs t ht e
  rcases Nat.lt_or_gt_of_ne hij with hlt | hlt
  · exact bar_no (ok.fig g (List.mem_of_getElem? hi)).up (ok.bar i j g h hlt hi hj (share_iff.mpr ⟨s, hs, t, ht, e⟩)) h1 h2
  · exact bar_no (ok.fig h (List.mem_of_getElem? hj)).up (ok.bar j i h g hlt hj hi (share_iff.mpr ⟨t, ht, s, hs, e.symm⟩)) h2 h1
theorem stand_keep {rs : Rws} {g h : Fig} (hd : ∀ s ∈ g, ∀ t ∈ h, s.1 ≠ t.1) (g0 : ∀ s ∈ g, 0 ≤ s.1) (h0 : ∀ t ∈ h, 0 ≤ t.1) (hs : standsB rs h = true) : standsB (tornOff rs g) h = true := by
  refine List.all_eq_true.mpr fun t ht => ?_
  have e : rowAt (tornOff rs g) t.1 = rowAt rs t.1 := torn_keep (fun u hu => ⟨g0 u hu, hd u hu t ht⟩) (h0 t ht)
  have := List.all_eq_true.mp hs t ht
  unfold stB at this ⊢
  rw [e]
  exact this
theorem tok_of {cols : List Int} {figs : List Fig} (ok : OkBook cols figs) : ∀ {S : List Nat} {rs : Rws}, S.Nodup → (∀ k ∈ S, ∃ g, figs[k]? = some g ∧ standsB rs g = true) → TOk figs rs S
  | [], _, _, _ => .nil
  | k :: S, rs, nd, h => by
    obtain ⟨g, hg, hs⟩ := h k (List.mem_cons_self ..)
    have nd2 := List.nodup_cons.mp nd
    refine .cons hg hs (tok_of ok nd2.2 fun k' hk' => ?_)
    obtain ⟨g', hg', hs'⟩ := h k' (List.mem_cons_of_mem _ hk')
    refine ⟨g', hg', stand_keep (stands_apart ok hg hg' (fun z => nd2.1 (z ▸ hk')) hs hs') (fun s hsm => ((ok.fig g (List.mem_of_getElem? hg)).tri s hsm).p0) (fun s hsm => ((ok.fig g' (List.mem_of_getElem? hg')).tri s hsm).p0) hs'⟩
theorem rt_torn {cols : List Int} {g : Fig} (ok : OkFig cols g) {rs : Rws} (hs : standsB rs g = true) {pads : List Int} (hp : ∃ t ∈ g, t.1 ∈ pads) : rt pads (tornOff rs g) + 1 ≤ rt pads rs := by
  obtain ⟨t, ht, hm⟩ := hp
  exact sum_lt (fun x _ => row_torn g rs x) hm (row_strict ok.up (fun u hu => (ok.tri u hu).p0) ht (ok.tri t ht).d1 (stands_row hs ht).1)
theorem rt_all {cols : List Int} {figs : List Fig} (ok : OkBook cols figs) {pads : List Int} : ∀ {S : List Nat} {rs : Rws}, TOk figs rs S → (∀ k ∈ S, ∀ g, figs[k]? = some g → ∃ t ∈ g, t.1 ∈ pads) → rt pads (tornAll figs rs S) + S.length ≤ rt pads rs
  | _, _, .nil, _ => Nat.le_refl _
  | _, rs, .cons (k := k) (S := S) (g := g) hg hs r, h => by
    have e : figs.getD k [] = g := by rw [List.getD_eq_getElem?_getD, hg]; rfl
    have ih := rt_all ok (pads := pads) r fun k' hk' => h k' (List.mem_cons_of_mem _ hk')
    have a := rt_torn (ok.fig g (List.mem_of_getElem? hg)) hs (h k (List.mem_cons_self ..) g hg)
    show rt pads (tornAll figs (tornOff rs (figs.getD k [])) S) + (S.length + 1) ≤ _
    rw [e]
    omega
theorem TOk.app {figs : List Fig} : ∀ {S S' : List Nat} {rs : Rws}, TOk figs rs S → TOk figs (tornAll figs rs S) S' → TOk figs rs (S ++ S')
  | _, _, _, .nil, h => h
  | _, S', rs, .cons (k := k) (S := S) (g := g) hg hs r, h => by
    refine .cons hg hs (TOk.app r ?_)
    have e : figs.getD k [] = g := by rw [List.getD_eq_getElem?_getD, hg]; rfl
    have h' : TOk figs (tornAll figs (tornOff rs (figs.getD k [])) S) S' := h
    rw [e] at h'
    exact h'
theorem standList_nodup (rs : Rws) (figs : List Fig) : (standList rs figs).Nodup := by
  unfold standList
  refine List.pairwise_map.mpr (((zipIdx_rise figs 0).filter _).imp fun {a b} h => ?_)
  omega
theorem standList_mem {rs : Rws} {figs : List Fig} {k : Nat} (h : k ∈ standList rs figs) : ∃ g, figs[k]? = some g ∧ standsB rs g = true := by
  obtain ⟨q, hq, rfl⟩ := List.mem_map.mp h
  obtain ⟨h1, h2⟩ := List.mem_filter.mp hq
  have := List.mem_zipIdx' h1
  exact ⟨q.1, by rw [this.2]; exact List.getElem?_eq_getElem this.1, h2⟩
theorem onPart_nodup (figs : List Fig) (pads : List Int) : (onPart figs pads).Nodup := by
  unfold onPart
  refine List.pairwise_map.mpr (((zipIdx_rise figs 0).filter _).imp fun {a b} h => ?_)
  omega
theorem onPart_mem {figs : List Fig} {pads : List Int} {k : Nat} (h : k ∈ onPart figs pads) : ∃ g, figs[k]? = some g ∧ (padsOf g).headD 0 ∈ pads := by
  obtain ⟨q, hq, rfl⟩ := List.mem_map.mp h
  obtain ⟨h1, h2⟩ := List.mem_filter.mp hq
  have := List.mem_zipIdx' h1
  exact ⟨q.1, by rw [this.2]; exact List.getElem?_eq_getElem this.1, of_decide_eq_true h2⟩
theorem onPart_len (figs : List Fig) (pads : List Int) : (onPart figs pads).length ≤ figs.length := by
  unfold onPart
  rw [List.length_map]
  have := List.length_filter_le (fun q : Fig × Nat => decide ((padsOf q.1).headD 0 ∈ pads)) figs.zipIdx
  rw [List.length_zipIdx] at this
  exact this
def allPads (n : Nat) : List Int := (List.range n).map fun k => ((k : Nat) : Int)
theorem allPads_mem {n : Nat} {p : Int} (h0 : 0 ≤ p) (h : p < (n : Int)) : p ∈ allPads n := List.mem_map.mpr ⟨p.toNat, List.mem_range.mpr (by omega), Int.toNat_of_nonneg h0⟩
theorem fig_all {cols : List Int} {g : Fig} (ok : OkFig cols g) : ∃ t ∈ g, t.1 ∈ allPads cols.length := by
  cases e : g with
  | nil => exact absurd e ok.ne
  | cons t r =>
    subst e
    have := ok.tri t (List.mem_cons_self ..)
    exact ⟨t, List.mem_cons_self .., allPads_mem this.p0 this.lt⟩
theorem fig_head {cols : List Int} {g : Fig} (ok : OkFig cols g) {pads : List Int} (h : (padsOf g).headD 0 ∈ pads) : ∃ t ∈ g, t.1 ∈ pads := by
  cases e : g with
  | nil => exact absurd e ok.ne
  | cons t r =>
    subst e
    exact ⟨t, List.mem_cons_self .., h⟩
end Tb
set_option Elab.async false
set_option linter.all false
set_option maxRecDepth 100000
set_option maxHeartbeats 1000000
namespace Tb
open PySem PySem.Spec PyProof.Rows L2 DL
/-! ### story_of, need_clear, sweeps_to_end -/
theorem shaped_ints (l : List Int) : SeqAt.shaped (lI l) = true := by
  have h1 : ∀ l : List Int, PyData.depthAll (l.map .int) = 0 := PySem.W.depth_ints
  unfold SeqAt.shaped
  rw [Bool.and_eq_true]
  constructor
  · show PyData.canLay0 (.list (l.map .int)) = true
    have : ∀ l : List Int, PyData.canLayAll0 (l.map .int) = true := fun l => by
      induction l with
      | nil => simp [PyData.canLayAll0]
      | cons t g ih => simp [PyData.canLayAll0, PyData.canLay0] ; exact ih
    simp [PyData.canLay0, this]
  · refine decide_eq_true ?_
    show PyData.depth (.list (l.map .int)) ≤ 64
    simp [PyData.depth, h1]
theorem eqv_ints_nil (l : List Int) : PyData.eqv (lI l) (.list []) = decide (l = []) := by
  cases l with
  | nil => simp [PyData.eqv, PyData.eqvAll]
  | cons t g => simp [PyData.eqv, PyData.eqvAll]
theorem shaped_lnil : SeqAt.shaped (.list []) = true := by decide +kernel
def sumLen (k : Rws) : Nat := (k.map List.length).sum
theorem rt_key (pads : List Int) (rs : Rws) : sumLen (pads.map (rowAt rs)) = rt pads rs := by
  unfold sumLen rt
  rw [List.map_map]
  rfl
section
variable {E : Ev} {f : Addr} {fd : FuncData} {A : Addr}
abbrev endsD (q : Nat × List PyData) : PyData := .tuple [.tuple [.str "ends", .int (q.1 : Nat)], .list q.2]
structure StIn (cols : List Int) (figs : List Fig) (rs : Rws) (pads : List Int) (m : Int) : Prop where
  ok : OkBook cols figs
  okr : OkRows cols.length rs
  pads0 : ∀ p ∈ pads, 0 ≤ p ∧ p < (cols.length : Int)
  plen : pads.length ≤ 1000
  most : ((rt (allPads cols.length) rs : Nat) : Int) ≤ m
  ptot : rt pads rs ≤ 1000
def rStoryOf (A : Addr) : List Ty → Ty → Prop := fun Ts T => ∃ (cols : List Int) (figs : List Fig) (rs : Rws) (pads : List Int) (m : Int), Ts = [bkT A cols figs, tD (eRows rs), tD (lI pads), tD (.int m)] ∧ StIn cols figs rs pads m ∧ T = tEx (fun _ : Nat × List PyData => True) fun q => tD (endsD q)
theorem scStoryOf : FnScope ["book", "rows", "pads", "most", "mine", "here", "sweeps", "many", "known", "some", "key", "pad"] ["book", "rows", "pads", "most"] (defScope sStoryOf) := ⟨rfl, rfl, rfl, by decide +kernel, rfl, by decide +kernel, by decide +kernel⟩
structure StInv (cols : List Int) (figs : List Fig) (rs0 : Rws) (pads : List Int) (here : Rws) (many : Nat) (ds : List PyData) (ks : List Rws) : Prop where
  okr : OkRows cols.length here
  many : many + rt (allPads cols.length) here ≤ rt (allPads cols.length) rs0
  keys : ∀ k ∈ ks, rt pads here ≤ sumLen k
  len : ds.length + rt pads here ≤ 1000000
  klen : ks.length + rt pads here ≤ 1000000
theorem ok_story_of (ht : E.mg "tuple" = none) (hl : E.mg "len" = none) (KO : Kn E 2 "on_part" (rOnPart A)) (KW : Kn E 3 "sweep_of" (rSweepOf A)) (KT : Kn E 5 "torn_all" (rTornAll A)) (F : FnP E.K "story_of" sStoryOf f fd) : Ok E 6 f fd ["book", "rows", "pads", "most"] (rStoryOf A) := by
  refine defOk F scStoryOf (fun Ts T ⟨_, _, _, _, _, e, _⟩ => by subst e; rfl) ?_
  rintro Ts T ⟨cols, figs, rs, pads, m, rfl, hin, rfl⟩
  have nd := scStoryOf.nd
  have ok := hin.ok
  have f12 := ok.f12
  have hmost := hin.most
  have hptot := hin.ptot
  refine ds_unp4 (das_cons (cl2 KO (dv 0) (dv 2) ⟨cols, figs, pads, rfl, ok, rfl⟩) (das_cons (dv 1) (das_consO (do_lst dd_nil) (das_cons d_int das_nil)))) (stn 4) (stn 5) (stn 6) (stn 7) ?_ (by intro _ _; rfl) (fun env h => by cases env; cases h; rfl)
  refine ds_setK (rs := pads.map (rowAt rs)) 8 ((tupL (ds := pads.map fun p => eR (rowAt rs p)) ht (lc_map PyData.int pads (fun p => eR (rowAt rs p)) [("pad", 11)] (di_list (dv 2)) nd (dg_name (stn 11)) (Nat.le_trans hin.plen (by decide)) fun p hp => ⟨_, gr_name, d_ixT (ds := rs.map eR) (dv 5) (dv 11) (row_at (hin.pads0 p hp).1 (by rw [hin.okr.len]; exact (hin.pads0 p hp).2))⟩)).is ?_) d_int (stn 8) ?_
  · rw [DLk.kRows, List.map_map]
    rfl
  refine ds_while (fun mm Γ => ∃ (here : Rws) (many : Nat) (ds : List PyData) (ks : List Rws), mm = rt pads here ∧ StInv cols figs rs pads here many ds ks ∧ Γ = [some (sv (bkT A cols figs)), some (sD (eRows rs)), some (sD (lI pads)), some (sD (.int m)), some (sv (tL ((zs (onPart figs pads)).map .int))), some (sD (eRows here)), some (so ds), some (sD (.int (many : Nat))), some (soK E.P E.w ks), none, none, none])
    (rt pads rs) ⟨rs, 0, [], [pads.map (rowAt rs)], rfl, ⟨hin.okr, by omega, fun k hk => by rw [List.mem_singleton.mp hk, rt_key]; exact Nat.le_refl _, by show 0 + _ ≤ _; omega, by show 1 + _ ≤ _; omega⟩, rfl⟩ ?_
  rintro mm Γ1 ⟨here, many, ds, ks, rfl, inv, rfl⟩
  refine ⟨true, tv d_bl, fun _ => ?_, fun z => by cases z⟩
  have okr := inv.okr
  have ilen := inv.len
  have iklen := inv.klen
  have imany := inv.many
  have hM : ∀ k ∈ onPart figs pads, k < figs.length := fun k hk => by
    obtain ⟨g, hg, _⟩ := onPart_mem hk
    exact (List.getElem?_eq_some_iff.mp hg).1
  have hMl := onPart_len figs pads
  generalize hS : sweepL figs here (onPart figs pads) = S
  have tk : TOk figs here S := by
    subst hS
    refine tok_of ok ((onPart_nodup figs pads).filter _) fun k hk => ?_
    obtain ⟨h1, h2⟩ := List.mem_filter.mp hk
    obtain ⟨g, hg, _⟩ := onPart_mem h1
    have e : figs.getD k [] = g := by rw [List.getD_eq_getElem?_getD, hg]; rfl
    rw [e] at h2
    exact ⟨g, hg, h2⟩
  have hin' : ∀ k ∈ S, ∀ g, figs[k]? = some g → ∃ t ∈ g, t.1 ∈ pads := fun k hk g hg => by
    subst hS
    obtain ⟨g', hg', hp⟩ := onPart_mem (List.mem_filter.mp hk).1
    rw [hg] at hg'
    cases Option.some.inj hg'
    exact fig_head (ok.fig g (List.mem_of_getElem? hg)) hp
  have r1 := rt_all ok tk hin'
  have r2 := rt_all ok (pads := allPads cols.length) tk fun k hk g hg => fig_all (ok.fig g (List.mem_of_getElem? hg))
  have okr2 : OkRows cols.length (tornAll figs here S) := okr.all
  refine ds_set (cl3 KW (dv 0) (dv 4) (dv 5) ⟨cols, figs, onPart figs pads, here, rfl, ok, okr.len, by omega, hM, by rw [hS]⟩) (stn 9) ?_
  refine ds_if (k := decide (zs S = [])) ((dt_eq (shaped_ints (zs S)) shaped_lnil (DE.w (dv 9)) (d_lst dd_nil)).is (eqv_ints_nil _)) (fun _ => ?_) (fun hne => ?_)
  · refine ds_weak (Γ' := [some (sv (bkT A cols figs)), some (sD (eRows rs)), some (sD (lI pads)), some (sD (.int m)), some (sv (tL ((zs (onPart figs pads)).map .int))), some (sD (eRows here)), some (so ds), some (sD (.int (many : Nat))), none, none, none, none]) ⟨rfl, rfl, rfl, rfl, rfl, rfl, rfl, rfl, trivial⟩ ?_
    refine ds_freeze (n := 6) rfl rfl ?_
    exact ds_ret (d_tup (dd_cons (d_tup (dd_cons d_str (dd_cons (lenL (ds := ds) hl (DE.w (dv 6))) dd_nil))) (dd_cons (DE.w (dv 6)) dd_nil))) fun K H v p => ⟨(ds.length, ds), trivial, p⟩
  · have hS0 : S ≠ [] := fun z => by
      subst z
      simp [zs] at hne
    have hSl : 1 ≤ S.length := List.length_pos_iff.mpr hS0
    refine ds_nil (Γ' := [some (sv (bkT A cols figs)), some (sD (eRows rs)), some (sD (lI pads)), some (sD (.int m)), some (sv (tL ((zs (onPart figs pads)).map .int))), some (sD (eRows here)), some (so ds), some (sD (.int (many : Nat))), some (soK E.P E.w ks), some (sv (tL ((zs S).map .int))), none, none]) ?_ Gle.refl
    refine ds_augAdd (i := (many : Nat)) (j := (S.length : Nat)) rfl ((lenL (ds := (zs S).map .int) hl (DE.w (dv 9))).is (by rw [zs_len])) (stn 7) ?_
    refine ds_pass ((dt_gt (dv 7) (dv 3)).is (decide_eq_false (by omega))) ?_
    refine ds_set (cl3 KT (dv 0) (dv 9) (dv 5) ⟨cols, figs, S, here, rfl, ok, okr, tk, rfl⟩) (stn 5) ?_
    refine ds_appK (ds := ds) (ks := ks) 6 8 (DE.w (dv 9)) (by omega) ?_
    refine ds_set (T := tD (DLk.kRows (pads.map (rowAt (tornAll figs here S))))) ((tupL (ds := pads.map fun p => eR (rowAt (tornAll figs here S) p)) ht (lc_map PyData.int pads (fun p => eR (rowAt (tornAll figs here S) p)) [("pad", 11)] (di_list (dv 2)) nd (dg_name (stn 11)) (Nat.le_trans hin.plen (by decide)) fun p hp => ⟨_, gr_name, d_ixT (ds := (tornAll figs here S).map eR) (dv 5) (dv 11) (row_at (hin.pads0 p hp).1 (by rw [okr2.len]; exact (hin.pads0 p hp).2))⟩)).is ?_) (stn 10) ?_
    · rw [DLk.kRows, List.map_map]
      rfl
    have hnew : pads.map (rowAt (tornAll figs here S)) ∉ ks := fun z => by
      have := inv.keys _ z
      rw [rt_key] at this
      omega
    refine ds_pass (dt_kin (ks := ks) 8 (dv 10) hnew) ?_
    refine ds_kput (ks := ks) 8 6 (d_lenO (n := 6) ⟨rfl, hl⟩ rfl (Or.inl rfl) rfl) (dv 10) hnew (by omega) ?_
    refine ds_nil (Γ' := [some (sv (bkT A cols figs)), some (sD (eRows rs)), some (sD (lI pads)), some (sD (.int m)), some (sv (tL ((zs (onPart figs pads)).map .int))), some (sD (eRows (tornAll figs here S))), some (so (ds ++ [.list ((zs S).map .int)])), some (sD (.int ((many + S.length : Nat)))), some (soK E.P E.w (ks ++ [pads.map (rowAt (tornAll figs here S))])), none, none, none])
      ⟨rt pads (tornAll figs here S), by omega, tornAll figs here S, many + S.length, _, _, rfl, ⟨okr2, by omega, fun k hk => ?_, ?_, ?_⟩, rfl⟩ ⟨rfl, rfl, rfl, rfl, rfl, rfl, rfl, ?_, rfl, trivial⟩
    · rcases List.mem_append.mp hk with hk | hk
      · have := inv.keys k hk
        omega
      · rw [List.mem_singleton.mp hk, rt_key]
        exact Nat.le_refl _
    · rw [List.length_append]
      show _ + 1 + _ ≤ _
      omega
    · rw [List.length_append]
      show _ + 1 + _ ≤ _
      omega
    · rw [Int.natCast_add]
end
end Tb
set_option Elab.async false
set_option linter.all false
set_option maxRecDepth 100000
set_option maxHeartbeats 1000000
namespace Tb
open PySem PySem.Spec PyProof.Rows L2 DL
/-! ### need_clear, sweeps_to_end -/
theorem rowAt_le {rs : Rws} (h : ∀ l ∈ rs, l.length ≤ 9) (p : Int) : (rowAt rs p).length ≤ 9 := by
  unfold rowAt
  rw [List.getD_eq_getElem?_getD]
  cases e : rs[p.toNat]? with
  | none => exact Nat.zero_le _
  | some l => exact h l (List.mem_of_getElem? e)
theorem rt_le {rs : Rws} (h : ∀ l ∈ rs, l.length ≤ 9) : ∀ pads : List Int, rt pads rs ≤ 9 * pads.length
  | [] => Nat.le_refl _
  | p :: pads => by
    have a := rowAt_le h p
    have b := rt_le h pads
    unfold rt at b ⊢
    rw [List.map_cons, List.sum_cons, List.length_cons]
    omega
section
variable {E : Ev} {f : Addr} {fd : FuncData} {A : Addr}
structure BrIn (cols : List Int) (figs : List Fig) (rs : Rws) : Prop where
  ok : OkBook cols figs
  len : rs.length = cols.length
  nine : ∀ l ∈ rs, l.length ≤ 9
theorem BrIn.okr {cols : List Int} {figs : List Fig} {rs : Rws} (h : BrIn cols figs rs) : OkRows cols.length rs := ⟨h.len, fun l hl => Nat.le_trans (h.nine l hl) (by decide)⟩
def rNeedClear (A : Addr) : List Ty → Ty → Prop := fun Ts T => ∃ (cols : List Int) (figs : List Fig) (rs : Rws) (m : Int), Ts = [bkT A cols figs, tD (eRows rs), tD (.int m)] ∧ BrIn cols figs rs ∧ 54 ≤ m ∧ T = tD .none
theorem scNeedClear : FnScope ["book", "rows", "most", "pads", "story", "sweeps"] ["book", "rows", "most"] (defScope sNeedClear) := ⟨rfl, rfl, rfl, by decide +kernel, rfl, by decide +kernel, by decide +kernel⟩
theorem ok_need_clear (KP : KnM E 2 A "parts" (rBookParts A)) (KS : Kn E 6 "story_of" (rStoryOf A)) (F : FnP E.K "need_clear" sNeedClear f fd) : Ok E 7 f fd ["book", "rows", "most"] (rNeedClear A) := by
  refine defOk F scNeedClear (fun Ts T ⟨_, _, _, _, e, _⟩ => by subst e; rfl) ?_
  rintro Ts T ⟨cols, figs, rs, m, rfl, hin, hm, rfl⟩
  have nd := scNeedClear.nd
  have c6 := hin.ok.c6
  refine ds_forG (di_listx (me0 KP (dv 0) insI ⟨cols, figs, rfl, hin.ok, rfl⟩)) (dg_name (stn 3)) (fun ds i Γ => Γ = [some (sv (bkT A cols figs)), some (sD (eRows rs)), some (sD (.int m)), none, none, none]) (fun _ _ => rfl) ?_ ?_
  · rintro ds i d Γ1 ⟨ps, hps, rfl⟩ hd rfl
    rw [List.getElem?_map] at hd
    obtain ⟨pads, hp, rfl⟩ := Option.map_eq_some_iff.mp hd
    have hpm := List.mem_of_getElem? hp
    have p6 := hps.each pads hpm
    have a1 := rt_le hin.nine pads
    have a2 := rt_le hin.nine (allPads cols.length)
    have a3 : (allPads cols.length).length = cols.length := by
      unfold allPads
      rw [List.length_map, List.length_range]
    refine ⟨_, _, gr_name, ?_⟩
    refine ds_unpx (cl4 KS (dv 0) (dv 1) (dv 3) (dv 2) ⟨cols, figs, rs, pads, m, rfl, ⟨hin.ok, hin.okr, hps.el pads hpm, by omega, by omega, by omega⟩, rfl⟩) (dg_tup2 (stn 4) (stn 5)) fun q _ => ⟨_, _, gr_tup2, ?_⟩
    refine ds_pass ((dt_eq (d := .str "ends") (d' := .str "again") (by decide +kernel) (by decide +kernel) (d_ixT (dv 4) d_int rfl) d_str).is (by decide +kernel)) (ds_nil rfl ⟨rfl, rfl, rfl, trivial⟩)
  · rintro ds Γ1 ⟨ps, hps, rfl⟩ rfl
    exact ds_nil (Γ' := [some (sv (bkT A cols figs)), some (sD (eRows rs)), some (sD (.int m)), none, none, none]) (Ty.le_refl _) Gle.refl
abbrev eSs (Ss : List (List Nat)) : List PyData := Ss.map fun S => .list ((zs S).map .int)
structure Settled (figs : List Fig) (rs : Rws) (Ss : List (List Nat)) : Prop where
  tk : TOk figs rs Ss.flatten
  fin : standList (tornAll figs rs Ss.flatten) figs = []
def rSweepsToEnd (A : Addr) : List Ty → Ty → Prop := fun Ts T => ∃ (cols : List Int) (figs : List Fig) (rs : Rws), Ts = [bkT A cols figs, tD (eRows rs)] ∧ BrIn cols figs rs ∧ T = tEx (fun Ss : List (List Nat) => Settled figs rs Ss ∧ Ss.flatten.length ≤ 54) fun Ss => tL (eSs Ss)
theorem scSweepsToEnd : FnScope ["book", "rows", "found", "here", "some"] ["book", "rows"] (defScope sSweepsToEnd) := ⟨rfl, rfl, rfl, by decide +kernel, rfl, by decide +kernel, by decide +kernel⟩
theorem ok_sweeps_to_end (KO : Kn E 3 "standing_on" (rStandingOn A)) (KT : Kn E 5 "torn_all" (rTornAll A)) (F : FnP E.K "sweeps_to_end" sSweepsToEnd f fd) : Ok E 6 f fd ["book", "rows"] (rSweepsToEnd A) := by
  refine defOk F scSweepsToEnd (fun Ts T ⟨_, _, _, e, _⟩ => by subst e; rfl) ?_
  rintro Ts T ⟨cols, figs, rs, rfl, hin, rfl⟩
  have nd := scSweepsToEnd.nd
  have ok := hin.ok
  have c6 := ok.c6
  have a2 := rt_le hin.nine (allPads cols.length)
  have a3 : (allPads cols.length).length = cols.length := by
    unfold allPads
    rw [List.length_map, List.length_range]
  refine ds_par2 (das_consO (do_lst dd_nil) (das_cons (dv 1) das_nil)) (stn 2) (stn 3) (by decide) rfl rfl ?_ (fun env h => by cases env; cases h; rfl)
  refine ds_set (cl2 KO (dv 0) (dv 3) ⟨cols, figs, rs, rfl, ok, hin.len, rfl⟩) (stn 4) ?_
  refine ds_while (fun mm Γ => ∃ Ss : List (List Nat), TOk figs rs Ss.flatten ∧ mm = rt (allPads cols.length) (tornAll figs rs Ss.flatten) ∧ Ss.length + mm ≤ 54 ∧ Ss.flatten.length + mm ≤ 54 ∧ Γ = [some (sv (bkT A cols figs)), some (sD (eRows rs)), some (so (eSs Ss)), some (sD (eRows (tornAll figs rs Ss.flatten))), some (sv (tL ((zs (standList (tornAll figs rs Ss.flatten) figs)).map .int)))])
    (rt (allPads cols.length) rs) ⟨[], .nil, rfl, by show 0 + _ ≤ _; omega, by show 0 + _ ≤ _; omega, rfl⟩ ?_
  rintro mm Γ1 ⟨Ss, tk, rfl, h54, h54f, rfl⟩
  generalize hS : standList (tornAll figs rs Ss.flatten) figs = S
  refine ⟨!decide (zs S = []), (dt_ne (shaped_ints (zs S)) shaped_lnil (DE.w (dv 4)) (d_lst dd_nil)).is (by rw [eqv_ints_nil]), fun hne => ?_, fun he => ?_⟩
  · have hS0 : S ≠ [] := fun z => by
      subst z
      simp [zs] at hne
    have hSl : 1 ≤ S.length := List.length_pos_iff.mpr hS0
    have okr : OkRows cols.length (tornAll figs rs Ss.flatten) := hin.okr.all
    have tk2 : TOk figs (tornAll figs rs Ss.flatten) S := by
      subst hS
      exact tok_of ok (standList_nodup _ _) fun k hk => standList_mem hk
    have r2 := rt_all ok (pads := allPads cols.length) tk2 fun k hk g hg => fig_all (ok.fig g (List.mem_of_getElem? hg))
    have ef : (Ss ++ [S]).flatten = Ss.flatten ++ S := by
      rw [List.flatten_append]
      simp
    have et : tornAll figs rs (Ss ++ [S]).flatten = tornAll figs (tornAll figs rs Ss.flatten) S := by
      rw [ef, tornAll_app]
    have okr2 : OkRows cols.length (tornAll figs (tornAll figs rs Ss.flatten) S) := okr.all
    refine ds_app (n := 2) (ds := eSs Ss) rfl rfl (Or.inl rfl) (DE.w (dv 4)) rfl ?_ ?_
    · rw [List.length_map]
      omega
    refine ds_set (cl3 KT (dv 0) (dv 4) (dv 3) ⟨cols, figs, S, tornAll figs rs Ss.flatten, rfl, ok, okr, tk2, rfl⟩) (stn 3) ?_
    refine ds_set (cl2 KO (dv 0) (dv 3) ⟨cols, figs, tornAll figs (tornAll figs rs Ss.flatten) S, rfl, ok, okr2.len, rfl⟩) (stn 4) ?_
    refine ds_nil (Γ' := [some (sv (bkT A cols figs)), some (sD (eRows rs)), some (so (eSs (Ss ++ [S]))), some (sD (eRows (tornAll figs rs (Ss ++ [S]).flatten))), some (sv (tL ((zs (standList (tornAll figs rs (Ss ++ [S]).flatten) figs)).map .int)))]) ⟨rt (allPads cols.length) (tornAll figs rs (Ss ++ [S]).flatten), ?_, Ss ++ [S], ?_, rfl, ?_, ?_, rfl⟩ ?_
    · rw [et]
      omega
    · rw [ef]
      exact tk.app tk2
    · rw [et, List.length_append]
      show _ + 1 + _ ≤ _
      omega
    · rw [et, ef, List.length_append]
      omega
    · rw [et]
      refine ⟨rfl, rfl, ?_, rfl, rfl, trivial⟩
      unfold eSs
      rw [List.map_append]
      rfl
  · have hS0 : S = [] := by
      cases S with
      | nil => rfl
      | cons a b => simp [zs] at he
    refine ds_freeze (n := 2) rfl rfl ?_
    exact ds_ret (T := tL (eSs Ss)) (dv 2) fun K H v p => ⟨Ss, ⟨⟨tk, by rw [hS, hS0]⟩, by omega⟩, p⟩
end
end Tb
set_option Elab.async false
set_option linter.all false
set_option maxRecDepth 100000
set_option maxHeartbeats 1000000
namespace DL
open PySem PySem.Spec PyProof.Rows L2
section
variable {C : Cc} {Γ : Gm} {T Ta : Ty} {e a b c tg : Expr} {pos p p1 p2 : Pos} {R : Po} {rest : List Stmt} {w : Addr → Prop} {A : Addr} {n : Nat} {f : Str}
/-- a list is None: no -/
theorem dt_isNone {ds : List PyData} {p3 : Pos} {j : Nat} (ha : DE C a Γ (tD (.list ds))) (hm : behindInMarks .Is (.Constant .none j p3) = false := by rfl) : DT C (.Compare a [.Is] [.Constant .none j p3] pos) Γ false := by
  intro X ok G0 W G σ H Q s q
  refine w_pt (pt_cmpR op_isN pe_w pe_non hm) ?_
  refine ha X ok G0 W G σ H _ s fun x G1 H1 f1 px => ?_
  obtain ⟨l, xs, rfl, _, _⟩ := dp_lst px
  exact ⟨rfl, false, by rw [decide_eq_false (by intro z; cases z)], q G1 H1 f1⟩
/-- less is known of an own instance's attributes -/
theorem ds_weakI {fts fts' : List (Str × Fd)} {sts : List Stmt} (n : Nat) (hG : Γ[n]? = some (some (soI w A fts))) (hle : All2 (fun (s t : Str × Fd) => s.1 = t.1 ∧ ∀ K W G H v, s.2.s.P K W G H v → t.2.s.P K W G H v) fts fts') (hr : DS C sts (Γ.set n (some (soI w A fts'))) R) : DS C sts Γ R := fun X ok G0 W G σ H D s f => by
  refine hr X ok G0 W G σ H D ⟨s.fr, by rw [s.len, List.length_set], fun m S hm => ?_⟩ f
  by_cases hmn : n = m
  · subst hmn
    rw [List.getElem?_set_self (List.getElem?_eq_some_iff.mp hG).1] at hm
    cases Option.some.inj (Option.some.inj hm)
    obtain ⟨v, ev, q, dx, fs, e, hw, hg, hh, r⟩ := s.at_ n _ hG
    refine ⟨v, ev, q, dx, fs, e, hw, hg, hh, ?_⟩
    have gen : ∀ {fts fts' : List (Str × Fd)} {fs : List (Str × V)}, All2 (fun (s t : Str × Fd) => s.1 = t.1 ∧ ∀ K W G H v, s.2.s.P K W G H v → t.2.s.P K W G H v) fts fts' → Flds C.E.K W G H fts fs → Flds C.E.K W G H fts' fs := fun {fts} => by
      induction fts with
      | nil =>
        intro fts' fs h r
        cases h
        exact r
      | cons t r ih =>
        intro fts' fs h r'
        cases h with
        | cons h1 h2 =>
          cases r' with
          | cons a q => exact .cons ⟨h1.1.symm.trans a.1, h1.2 _ _ _ _ _ a.2⟩ (ih h2 q)
    exact gen hle r
  · rw [List.getElem?_set_ne hmn] at hm
    exact s.at_ m S hm
/-- an attribute of a union: one of its types -/
theorem ds_openI {α : Type} {F : α → Prop} {U : α → Ty} {FB : List (Str × Fd)} {sts : List Stmt} (n : Nat) (hG : Γ[n]? = some (some (soI w A ((f, fv (tEx F U)) :: FB)))) (hr : ∀ z, F z → DS C sts (Γ.set n (some (soI w A ((f, fv (U z)) :: FB)))) R) : DS C sts Γ R := fun X ok G0 W G σ H D s fi => by
  obtain ⟨v, ev, q, dx, fs, e, hw, hg, hh, r⟩ := s.at_ n _ hG
  cases r with
  | cons a r =>
    obtain ⟨e1, z, fz, pz⟩ := a
    refine hr z fz X ok G0 W G σ H D ⟨s.fr, by rw [s.len, List.length_set], fun m S hm => ?_⟩ fi
    by_cases hmn : n = m
    · subst hmn
      rw [List.getElem?_set_self (List.getElem?_eq_some_iff.mp hG).1] at hm
      cases Option.some.inj (Option.some.inj hm)
      exact ⟨v, ev, q, dx, _, e, hw, hg, hh, .cons ⟨e1, pz⟩ r⟩
    · rw [List.getElem?_set_ne hmn] at hm
      exact s.at_ m S hm
end
end DL
namespace Tb
open PySem PySem.Spec PyProof.Rows L2 DL
/-! ### need_row, rows_from, Board -/
abbrev eRl (l : List Int) : PyData := .tuple [lI l, .list []]
section
variable {E : Ev} {f : Addr} {fd : FuncData} {A B : Addr}
def rNeedRow (A : Addr) : List Ty → Ty → Prop := fun Ts T => ∃ (cols : List Int) (figs : List Fig) (k : Nat) (c : Int) (l : List Int), Ts = [bkT A cols figs, tD (.int (k : Nat)), tD (lI l), tD (.list [])] ∧ cols[k]? = some c ∧ l.length ≤ 400 ∧ (∀ x ∈ l, 0 ≤ x ∧ x < c) ∧ T = tD .none
theorem scNeedRow : FnScope ["book", "pad", "lead", "turn", "many", "note"] ["book", "pad", "lead", "turn"] (defScope sNeedRow) := ⟨rfl, rfl, rfl, by decide +kernel, rfl, by decide +kernel, by decide +kernel⟩
theorem ok_need_row (hl : E.mg "len" = none) (ha : E.mg "all" = none) (hli : E.mg "list" = none) (hM : ∃ t, E.mg "MOST_LEAD" = some (.int 400 t)) (hR : ∃ t, E.mg "MOST_ROUND" = some (.int 12 t)) (KC : KnM E 1 A "colours" (rBookColours A)) (F : FnP E.K "need_row" sNeedRow f fd) : Ok E 2 f fd ["book", "pad", "lead", "turn"] (rNeedRow A) := by
  refine defOk F scNeedRow (fun Ts T ⟨_, _, _, _, _, e, _⟩ => by subst e; rfl) ?_
  rintro Ts T ⟨cols, figs, k, c, l, rfl, hc, hlen, hx, rfl⟩
  have nd := scNeedRow.nd
  refine ds_set (d_ixT (ds := cols.map .int) (d := .int c) (me0 KC (dv 0) insI ⟨cols, figs, rfl, rfl⟩) (dv 1) (at_nat (j := k) rfl (by rw [List.getElem?_map, hc]; rfl))) (stn 4) ?_
  refine ds_pass (DW.dt (dw_or (k := false) (l := false) ((dt_gt (lenL (ds := l.map .int) hl (dv 2)) (gl hM)).is (decide_eq_false (by rw [List.length_map]; omega))) fun _ => dw_or1 ((dt_gt (lenL (ds := []) hl (dv 3)) (gl hR)).is rfl))) ?_
  refine ds_pass ((dt_not (k := true) (DT.is (tv (allL (bs := l.map fun x => decide (0 ≤ x) && decide (x < c)) ha (DE.isL (lc_map PyData.int l (fun x => .bool (decide (0 ≤ x) && decide (x < c))) [("note", 5)] (di_list (DE.is (DE.w (d_catL (ds := l.map .int) (es := []) ?_ (DEo.l (listL hli (dv 2))) (DEo.l (listL hli (dv 3))))) (by rw [List.append_nil]))) nd (dg_name (stn 5)) (Nat.le_trans hlen (by decide)) fun x _ => ⟨_, gr_name, lelt d_int (dv 5) (dv 4)⟩) (by rw [List.map_map]; rfl)))) ?_)).is rfl) (ds_nil (Γ' := [some (sv (bkT A cols figs)), some (sD (.int (k : Nat))), some (sD (lI l)), some (sD (.list [])), some (sD (.int c)), none]) (Ty.le_refl _) Gle.refl)
  · rw [List.length_map]
    show l.length + 0 ≤ _
    omega
  · rw [List.all_map]
    refine List.all_eq_true.mpr fun x hm => ?_
    have := hx x hm
    show (decide (0 ≤ x) && decide (x < c)) = true
    rw [decide_eq_true this.1, decide_eq_true this.2]
    rfl
structure BrData (cols : List Int) (figs : List Fig) (rs : Rws) : Prop where
  br : BrIn cols figs rs
  note : ∀ (k : Nat) (c : Int) (l : List Int), cols[k]? = some c → rs[k]? = some l → ∀ x ∈ l, 0 ≤ x ∧ x < c
def rRowsFrom (A : Addr) : List Ty → Ty → Prop := fun Ts T => ∃ (cols : List Int) (figs : List Fig) (rs : Rws), Ts = [bkT A cols figs, tD (.list (rs.map eRl))] ∧ BrData cols figs rs ∧ T = tD (eRows rs)
theorem scRowsFrom : FnScope ["book", "rows", "pad", "lead", "turn"] ["book", "rows"] (defScope sRowsFrom) := ⟨rfl, rfl, rfl, by decide +kernel, rfl, by decide +kernel, by decide +kernel⟩
theorem ok_rows_from (hl : E.mg "len" = none) (he : E.mg "enumerate" = none) (ht : E.mg "tuple" = none) (KP : KnM E 1 A "pads" (rBookPads A)) (KN : Kn E 2 "need_row" (rNeedRow A)) (KL : Kn E 2 "least_row" rLeastRow) (F : FnP E.K "rows_from" sRowsFrom f fd) : Ok E 3 f fd ["book", "rows"] (rRowsFrom A) := by
  refine defOk F scRowsFrom (fun Ts T ⟨_, _, _, e, _⟩ => by subst e; rfl) ?_
  rintro Ts T ⟨cols, figs, rs, rfl, hd, rfl⟩
  have nd := scRowsFrom.nd
  have hb := hd.br
  have c6 := hb.ok.c6
  have hlen := hb.len
  refine ds_pass (dt_isNone (dv 1)) ?_
  refine ds_pass ((dt_neI (lenL (ds := rs.map eRl) hl (dv 1)) (me0 KP (dv 0) insI ⟨cols, figs, rfl, rfl⟩)).is ?_) ?_
  · rw [List.length_map, hlen, decide_eq_true rfl]
    rfl
  refine ds_for (di_enum (ds := rs.map eRl) (isb he) (dv 1)) (dg_nest (stn 2) (stn 3) (stn 4)) (fun i Γ => Γ = [some (sv (bkT A cols figs)), some (sD (.list (rs.map eRl))), none, none, none]) rfl ?_ ?_
  · rintro i d Γ1 hdd rfl
    obtain ⟨x, hx, rfl⟩ := enD_get hdd
    rw [List.getElem?_map] at hx
    obtain ⟨l, hli, rfl⟩ := Option.map_eq_some_iff.mp hx
    have hi := (List.getElem?_eq_some_iff.mp hli).1
    obtain ⟨c, hc⟩ : ∃ c, cols[i]? = some c := ⟨_, List.getElem?_eq_getElem (by omega)⟩
    exact ⟨_, _, gr_nest, ds_expr (cl4 KN (dv 0) (dv 2) (dv 3) (dv 4) ⟨cols, figs, i, c, l, rfl, hc, Nat.le_trans (hb.nine l (List.mem_of_getElem? hli)) (by decide), hd.note i c l hc hli, rfl⟩) (ds_nil rfl ⟨rfl, rfl, trivial⟩)⟩
  · rintro Γ1 rfl
    refine ds_ret (tupL (ds := rs.map eR) ht (lc_map eRl rs eR [("lead", 3), ("turn", 4)] (di_list (dv 1)) nd (dg_tup2 (stn 3) (stn 4)) (by omega) fun l _ => ⟨_, gr_tup2, ?_⟩)) (Ty.le_refl _)
    exact cl2 KL (dv 3) (dv 4) ⟨l, .inl rfl, rfl⟩
/-! Board -/
structure BrC (E : Ev) (B : Addr) : Prop where
  cl : Cls E.K B
  now : NoAttr E.K B "now"
  holder : NoAttr E.K B "holder"
  past : NoAttr E.K B "past"
  ahead : NoAttr E.K B "ahead"
  run : NoAttr E.K B "run"
  whole : NoAttr E.K B "whole"
  tally : NoAttr E.K B "tally"
abbrev brF (A : Addr) (cols : List Int) (figs : List Fig) (now : Ty) (past : List PyData) : List (Str × Fd) := [("now", fv now), ("holder", fv (bkT A cols figs)), ("past", fo past), ("ahead", fv (tL [])), ("run", fv (tD (.tuple []))), ("whole", fv (tD (.bool false))), ("tally", fv (tD (.int 0)))]
def rBoardInit (A : Addr) : RO := fun fts Ts fts' T => ∃ (cols : List Int) (figs : List Fig) (rs : Rws), fts = [] ∧ Ts = [bkT A cols figs, tD (.list (rs.map eRl))] ∧ BrData cols figs rs ∧ fts' = brF A cols figs (tD (eRows rs)) [] ∧ T = tD .none
theorem scBoardInit : FnScope ["self", "book", "rows"] ["self", "book", "rows"] (defScope sBoardInit) := ⟨rfl, rfl, rfl, by decide +kernel, rfl, by decide +kernel, by decide +kernel⟩
theorem ok_board_init (bc : BrC E B) (KR : Kn E 3 "rows_from" (rRowsFrom A)) {kws : List (Str × V)} (F : FnM E.K "Board" "__init__" "Board.__init__" sBoardInit kws f fd) : FnOk E.P E.w E.K E.mg E.base CX0 4 f fd ["self", "book", "rows"] (spO E.K B (rBoardInit A)) := by
  refine def_okO (P := E.P) (w := E.w) (mg := E.mg) (base := E.base) F scBoardInit (fun fts Ts fts' T ⟨_, _, _, _, e, _⟩ => by subst e; rfl) ?_
  rintro p fts Ts fts' T ⟨cols, figs, rs, rfl, rfl, hd, rfl, rfl⟩
  have nd := scBoardInit.nd
  refine ds_fset 0 (cl2 KR (dv 1) (dv 2) ⟨cols, figs, rs, rfl, hd, rfl⟩) bc.cl bc.now ?_
  refine ds_fset 0 (dv 1) bc.cl bc.holder ?_
  refine ds_fsetO 0 (do_lst dd_nil) bc.cl bc.past ?_
  refine ds_fset 0 (d_lstL dd_nil) bc.cl bc.ahead ?_
  refine ds_fset 0 (d_tup dd_nil) bc.cl bc.run ?_
  refine ds_fset 0 d_bl bc.cl bc.whole ?_
  exact ds_fset 0 d_int bc.cl bc.tally (ds_nil ⟨rfl, Ty.le_refl _⟩ Gle.refl)
def rBoardGo (A : Addr) : RO := fun fts Ts fts' T => ∃ (cols : List Int) (figs : List Fig) (rs rs' : Rws) (past : List PyData), fts = brF A cols figs (tD (eRows rs)) past ∧ Ts = [tD (eRows rs')] ∧ fts' = brF A cols figs (tD (eRows rs')) past ∧ T = tD .none
theorem scBoardGo : FnScope ["self", "rows"] ["self", "rows"] (defScope sBoardGo) := ⟨rfl, rfl, rfl, by decide +kernel, rfl, by decide +kernel, by decide +kernel⟩
theorem ok_board_go (bc : BrC E B) (F : FnM E.K "Board" "go" "Board.go" sBoardGo [] f fd) : FnOk E.P E.w E.K E.mg E.base CX0 1 f fd ["self", "rows"] (spO E.K B (rBoardGo A)) := by
  refine def_okO (P := E.P) (w := E.w) (mg := E.mg) (base := E.base) F scBoardGo (fun fts Ts fts' T ⟨_, _, _, _, _, _, e, _⟩ => by subst e; rfl) ?_
  rintro p fts Ts fts' T ⟨cols, figs, rs, rs', past, rfl, rfl, rfl, rfl⟩
  have nd := scBoardGo.nd
  exact ds_fset3 0 (d_tup (dd_cons (dv 1) (dd_cons (d_tup dd_nil) (dd_cons d_bl dd_nil)))) bc.cl bc.now bc.run bc.whole (ds_nil ⟨rfl, Ty.le_refl _⟩ Gle.refl) (hw := fun env h => by cases env; cases h; rfl)
def finT (figs : List Fig) (n : Nat) : Ty := tEx (fun rs' : Rws => standList rs' figs = [] ∧ rs'.length = n) fun rs' => tD (eRows rs')
def rBoardDoSettle (A : Addr) : RO := fun fts Ts fts' T => ∃ (cols : List Int) (figs : List Fig) (rs : Rws) (m : Int) (past : List PyData), fts = brF A cols figs (tD (eRows rs)) past ∧ Ts = [tD (.int m)] ∧ BrIn cols figs rs ∧ 54 ≤ m ∧ fts' = brF A cols figs (finT figs cols.length) past ∧ T = tEx (fun _ : List (List Nat) => True) fun Ss => tL (eSs Ss)
theorem scBoardDoSettle : FnScope ["self", "most", "found", "some", "at"] ["self", "most"] (defScope sBoardDoSettle) := ⟨rfl, rfl, rfl, by decide +kernel, rfl, by decide +kernel, by decide +kernel⟩
theorem ok_board_do_settle (bc : BrC E B) (KC : Kn E 7 "need_clear" (rNeedClear A)) (KS : Kn E 6 "sweeps_to_end" (rSweepsToEnd A)) (KT : Kn E 5 "torn_all" (rTornAll A)) (KG : KnU E 1 B "go" [] (rBoardGo A)) (F : FnM E.K "Board" "do_settle" "Board.do_settle" sBoardDoSettle [] f fd) :
    FnOk E.P E.w E.K E.mg E.base CX0 8 f fd ["self", "most"] (spO E.K B (rBoardDoSettle A)) := by
  refine def_okO (P := E.P) (w := E.w) (mg := E.mg) (base := E.base) F scBoardDoSettle (fun fts Ts fts' T ⟨_, _, _, _, _, _, e, _⟩ => by subst e; rfl) ?_
  rintro p fts Ts fts' T ⟨cols, figs, rs, m, past, rfl, rfl, hb, hm, rfl, rfl⟩
  have nd := scBoardDoSettle.nd
  refine ds_expr (cl3 KC (d_fldO 0 bc.cl bc.holder) (d_fldO 0 bc.cl bc.now) (dv 1) ⟨cols, figs, rs, m, rfl, hb, hm, rfl⟩) ?_
  refine ds_set (cl2 KS (d_fldO 0 bc.cl bc.holder) (d_fldO 0 bc.cl bc.now) ⟨cols, figs, rs, rfl, hb, rfl⟩) (stn 2) ?_
  refine ds_open (n := 2) (Nat.le_of_ble_eq_true rfl) fun Ss hSs => ?_
  obtain ⟨hset, h54⟩ := hSs
  have okr2 : OkRows cols.length (tornAll figs rs Ss.flatten) := hb.okr.all
  refine ds_exprU (d_methU1 KG 0 (cl3 KT (d_fldO 0 bc.cl bc.holder) (DE.isL (d_flat (ls := Ss.map fun S => (zs S).map PyData.int) 3 4 (DE.is (DE.w (dv 2 : DE _ _ _ (tL (eSs Ss)))) ?_) nd ?_ (stn 3) (stn 4) (Or.inl rfl) (Or.inl rfl) (Nat.le_of_ble_eq_true rfl) (Nat.le_of_ble_eq_true rfl) (by decide)) ?_) (d_fldO 0 bc.cl bc.now) ⟨cols, figs, Ss.flatten, rs, rfl, hb.ok, hb.okr, hset.tk, rfl⟩) ⟨cols, figs, rs, tornAll figs rs Ss.flatten, past, rfl, rfl, rfl, rfl⟩) ?_
  · unfold eSs
    rw [List.map_map]
    rfl
  · have e : (Ss.map fun S => (zs S).map PyData.int).flatten = (zs Ss.flatten).map .int := by
      unfold zs
      rw [List.map_flatten, List.map_flatten, List.map_map]
      rfl
    rw [e, zs_len]
    omega
  · unfold zs
    rw [List.map_flatten, List.map_flatten, List.map_map]
    rfl
  refine ds_weakI (fts' := brF A cols figs (finT figs cols.length) past) 0 rfl (.cons ⟨rfl, fun K W G H v p => ⟨tornAll figs rs Ss.flatten, ⟨hset.fin, okr2.len⟩, p⟩⟩ (.cons ⟨rfl, fun _ _ _ _ _ p => p⟩ (.cons ⟨rfl, fun _ _ _ _ _ p => p⟩ (.cons ⟨rfl, fun _ _ _ _ _ p => p⟩ (.cons ⟨rfl, fun _ _ _ _ _ p => p⟩ (.cons ⟨rfl, fun _ _ _ _ _ p => p⟩ (.cons ⟨rfl, fun _ _ _ _ _ p => p⟩ .nil))))))) ?_
  exact ds_retS (T := tL (eSs Ss)) (dv 2) ⟨rfl, fun K H v p => ⟨Ss, trivial, p⟩⟩
def rBoardSettle (A : Addr) : RO := fun fts Ts fts' T => ∃ (cols : List Int) (figs : List Fig) (rs : Rws) (m : Int), fts = brF A cols figs (tD (eRows rs)) [] ∧ Ts = [tD (.int m)] ∧ BrIn cols figs rs ∧ 54 ≤ m ∧ fts' = brF A cols figs (finT figs cols.length) [eRows rs] ∧ T = tEx (fun _ : List (List Nat) => True) fun Ss => tL (eSs Ss)
theorem scBoardSettle : FnScope ["self", "most", "rows", "found"] ["self", "most"] (defScope sBoardSettle) := ⟨rfl, rfl, rfl, by decide +kernel, rfl, by decide +kernel, by decide +kernel⟩
theorem ok_board_settle (bc : BrC E B) (KD : KnU E 8 B "do_settle" [] (rBoardDoSettle A)) {kws : List (Str × V)} (F : FnM E.K "Board" "settle" "Board.settle" sBoardSettle kws f fd) : FnOk E.P E.w E.K E.mg E.base CX0 9 f fd ["self", "most"] (spO E.K B (rBoardSettle A)) := by
  refine def_okO (P := E.P) (w := E.w) (mg := E.mg) (base := E.base) F scBoardSettle (fun fts Ts fts' T ⟨_, _, _, _, _, e, _⟩ => by subst e; rfl) ?_
  rintro p fts Ts fts' T ⟨cols, figs, rs, m, rfl, rfl, hb, hm, rfl, rfl⟩
  have nd := scBoardSettle.nd
  refine ds_set (d_fldO 0 bc.cl bc.now) (stn 2) ?_
  refine ds_setU (d_methU1 KD 0 (dv 1) ⟨cols, figs, rs, m, [], rfl, rfl, hb, hm, rfl, rfl⟩) (stn 3) ?_
  refine ds_appF (FA := [("now", fv (finT figs cols.length)), ("holder", fv (bkT A cols figs))]) (FB := [("ahead", fv (tL [])), ("run", fv (tD (.tuple []))), ("whole", fv (tD (.bool false))), ("tally", fv (tD (.int 0)))]) (ds := []) 0 (dv 2) bc.cl bc.past ?_ rfl rfl rfl (by decide) rfl rfl rfl (Or.inl rfl)
  refine ds_fset 0 (d_lstL dd_nil) bc.cl bc.ahead ?_
  exact ds_retS (dv 3) ⟨rfl, Ty.le_refl _⟩
abbrev brNames : List Str := ["now", "holder", "past", "ahead", "run", "whole", "tally"]
abbrev brT (B : Addr) (rs : Rws) : Ty := tI B brNames [("now", tD (eRows rs))]
def rBoardRows (B : Addr) : List Ty → Ty → Prop := fun Ts T => ∃ rs : Rws, Ts = [brT B rs] ∧ T = tL (rs.map eR)
theorem scBoardRows : FnScope ["self"] ["self"] (defScope sBoardRows) := ⟨rfl, rfl, rfl, by decide +kernel, rfl, by decide +kernel, by decide +kernel⟩
theorem ok_board_rows (bc : BrC E B) (hl : E.mg "list" = none) (F : FnM E.K "Board" "rows" "Board.rows" sBoardRows [] f fd) : Ok E 1 f fd ["self"] (rBoardRows B) := by
  refine defOk F scBoardRows (fun Ts T ⟨_, e, _⟩ => by subst e; rfl) ?_
  rintro Ts T ⟨rs, rfl, rfl⟩
  exact ds_ret (DEo.l (listT (ds := rs.map eR) hl (fld (dv 0) (fldI bc.cl bc.now rfl)))) (Ty.le_refl _)
end
end Tb
set_option Elab.async false
set_option linter.all false
set_option maxRecDepth 100000
set_option maxHeartbeats 1000000
namespace Tb
open PySem PySem.Spec PyProof.Rows L2 DL
/-! ### counts, colours all two, heights all one, depths all one -/
def tris (figs : List Fig) (s : List Nat) : Fig := s.flatMap fun k => figs.getD k []
def covT (ts : Fig) (p : Nat) : Bool := ts.any fun t => decide (t.1 = ((p : Nat) : Int))
def cov (figs : List Fig) (s : List Nat) (p : Nat) : Bool := covT (tris figs s) p
def cnt (figs : List Fig) (n : Nat) (s : List Nat) : Int := (List.range n).foldl (fun acc p => acc * (if cov figs s p then 1 else 2)) 1
def sgn (s : List Nat) (x : Int) : Int := if (s.length : Int) % 2 = 0 then x else -x
def wsum (figs : List Fig) (n : Nat) (l : List (List Nat)) : Int := (l.map fun s => sgn s (cnt figs n s)).sum
def Depth1 (figs : List Fig) : Prop := ∀ g ∈ figs, ∀ t ∈ g, t.2.2 = 1
theorem rep_range {α : Type} (a : α) : ∀ n : Nat, List.replicate n a = (List.range n).map fun _ => a
  | 0 => rfl
  | n + 1 => by
    rw [List.range_succ, List.map_append, ← rep_range a n, List.replicate_succ']
    rfl
theorem cov_set (ts : Fig) (t : Tri) (n : Nat) (h0 : 0 ≤ t.1) : ((List.range n).map fun p => PyData.int (b2i (covT ts p))).set t.1.toNat (.int 1) = (List.range n).map fun p => PyData.int (b2i (covT (ts ++ [t]) p)) := by
  apply List.ext_getElem?
  intro i
  rw [List.getElem?_set, List.getElem?_map, List.getElem?_map, List.length_map, List.length_range]
  have e : covT (ts ++ [t]) i = (covT ts i || decide (t.1 = ((i : Nat) : Int))) := by
    unfold covT
    rw [List.any_append, List.any_cons, List.any_nil, Bool.or_false]
  by_cases hn : i < n
  · rw [List.getElem?_range hn]
    show _ = some (PyData.int (b2i (covT (ts ++ [t]) i)))
    rw [e]
    by_cases hi : t.1.toNat = i
    · have ht : t.1 = ((i : Nat) : Int) := by omega
      rw [if_pos hi, if_pos (by omega), decide_eq_true ht, Bool.or_true]
      rfl
    · have ht : ¬ t.1 = ((i : Nat) : Int) := by omega
      rw [if_neg hi, decide_eq_false ht, Bool.or_false]
      rfl
  · have en : (List.range n)[i]? = none := List.getElem?_eq_none (by rw [List.length_range]; omega)
    rw [en]
    by_cases hi : t.1.toNat = i
    · rw [if_pos hi, if_neg (by omega)]
      rfl
    · rw [if_neg hi]
      rfl
theorem tris_take {figs : List Fig} {s : List Nat} {i k : Nat} (h : s[i]? = some k) : tris figs (s.take (i + 1)) = tris figs (s.take i) ++ figs.getD k [] := by
  unfold tris
  rw [List.take_add_one, h, List.flatMap_append]
  simp
section
variable {E : Ev} {f : Addr} {fd : FuncData} {A : Addr}
structure CtIn (n : Nat) (figs : List Fig) : Prop where
  ok : OkBook (twos n) figs
  d1 : Depth1 figs
  n6 : n ≤ 6
theorem twos_len (n : Nat) : (twos n).length = n := List.length_replicate ..
theorem twos_get {n i : Nat} (h : i < n) : (twos n)[i]? = some 2 := by
  unfold twos
  rw [List.getElem?_replicate, if_pos h]
abbrev hts (n : Nat) : PyData := .list ((List.range n).map fun _ => .int 1)
def rNeedHeights (A : Addr) : List Ty → Ty → Prop := fun Ts T => ∃ (n : Nat) (figs : List Fig), Ts = [bkT A (twos n) figs, tD (hts n)] ∧ n ≤ 6 ∧ T = tD .none
theorem scNeedHeights : FnScope ["book", "heights", "pad", "height"] ["book", "heights"] (defScope sNeedHeights) := ⟨rfl, rfl, rfl, by decide +kernel, rfl, by decide +kernel, by decide +kernel⟩
theorem ok_need_heights (hl : E.mg "len" = none) (he : E.mg "enumerate" = none) (hM : ∃ t, E.mg "MOST_HEIGHT" = some (.int 6 t)) (KP : KnM E 1 A "pads" (rBookPads A)) (F : FnP E.K "need_heights" sNeedHeights f fd) : Ok E 2 f fd ["book", "heights"] (rNeedHeights A) := by
  refine defOk F scNeedHeights (fun Ts T ⟨_, _, e, _⟩ => by subst e; rfl) ?_
  rintro Ts T ⟨n, figs, rfl, n6, rfl⟩
  have nd := scNeedHeights.nd
  refine ds_pass ((dt_neI (lenL (ds := (List.range n).map fun _ => .int 1) hl (dv 1)) (me0 KP (dv 0) insI ⟨twos n, figs, rfl, rfl⟩)).is ?_) ?_
  · rw [List.length_map, List.length_range, twos_len, decide_eq_true rfl]
    rfl
  refine ds_for (di_enum (ds := (List.range n).map fun _ => .int 1) (isb he) (dv 1)) (dg_tup2 (stn 2) (stn 3)) (fun i Γ => Γ = [some (sv (bkT A (twos n) figs)), some (sD (hts n)), none, none]) rfl ?_ ?_
  · rintro i d Γ1 hd rfl
    obtain ⟨x, hx, rfl⟩ := enD_get hd
    rw [List.getElem?_map] at hx
    obtain ⟨y, _, rfl⟩ := Option.map_eq_some_iff.mp hx
    exact ⟨_, _, gr_tup2, ds_pass ((dt_not (tlele d_int (dv 3) (gl hM))).is rfl) (ds_nil rfl ⟨rfl, rfl, trivial⟩)⟩
  · rintro Γ1 rfl
    exact ds_nil (Γ' := [some (sv (bkT A (twos n) figs)), some (sD (hts n)), none, none]) (Ty.le_refl _) Gle.refl
abbrev dps (n : Nat) (figs : List Fig) (s : List Nat) : List PyData := (List.range n).map fun p => .int (b2i (cov figs s p))
structure SIn (figs : List Fig) (s : List Nat) : Prop where
  k : ∀ k ∈ s, k < figs.length
  len : s.length ≤ 12
def rDepthsOf (A : Addr) : List Ty → Ty → Prop := fun Ts T => ∃ (n : Nat) (figs : List Fig) (s : List Nat), Ts = [bkT A (twos n) figs, tD (eN s)] ∧ CtIn n figs ∧ SIn figs s ∧ T = tL (dps n figs s)
theorem scDepthsOf : FnScope ["book", "some", "found", "at", "pad", "note", "depth"] ["book", "some"] (defScope sDepthsOf) := ⟨rfl, rfl, rfl, by decide +kernel, rfl, by decide +kernel, by decide +kernel⟩
theorem eN_get {s : List Nat} {i : Nat} {d : PyData} (h : ((zs s).map PyData.int)[i]? = some d) : ∃ k, s[i]? = some k ∧ d = .int (k : Nat) := zs_get h
theorem ok_depths_of (KP : KnM E 1 A "pads" (rBookPads A)) (KS : KnM E 1 A "shape" (rBookShape A)) (F : FnP E.K "depths_of" sDepthsOf f fd) : Ok E 2 f fd ["book", "some"] (rDepthsOf A) := by
  refine defOk F scDepthsOf (fun Ts T ⟨_, _, _, e, _⟩ => by subst e; rfl) ?_
  rintro Ts T ⟨n, figs, s, rfl, ct, hs, rfl⟩
  have nd := scDepthsOf.nd
  have n6 := ct.n6
  refine ds_setO (do_rep1 (es := []) (d := .int 0) (i := (n : Nat)) (by omega) (by omega) d_int ((me0 KP (dv 0) insI ⟨twos n, figs, rfl, rfl⟩).is (by rw [twos_len]))) (stn 2) ?_
  refine ds_for (ds := (zs s).map .int) (di_tup (dv 1 : DE _ _ _ (tD (eN s)))) (dg_name (stn 3)) (fun i Γ => Γ = [some (sv (bkT A (twos n) figs)), some (sD (eN s)), some (so ((List.range n).map fun p => .int (b2i (covT (tris figs (s.take i)) p)))), none, none, none, none]) ?_ ?_ ?_
  · rw [Int.toNat_natCast, rep_range]
    rfl
  · rintro i d Γ1 hd rfl
    obtain ⟨k, hk, rfl⟩ := eN_get hd
    obtain ⟨g, hg⟩ : ∃ g, figs[k]? = some g := ⟨_, List.getElem?_eq_getElem (hs.k k (List.mem_of_getElem? hk))⟩
    have gd : figs.getD k [] = g := by rw [List.getD_eq_getElem?_getD, hg]; rfl
    have okg := ct.ok.fig g (List.mem_of_getElem? hg)
    refine ⟨_, _, gr_name, ?_⟩
    refine ds_for (ds := g.map eT) (di_tup (me1 KS (dv 0) insI (dv 3) ⟨twos n, figs, k, g, rfl, hg, rfl⟩)) (dg_tup3 (stn 4) (stn 5) (stn 6)) (fun j Γ => Γ = [some (sv (bkT A (twos n) figs)), some (sD (eN s)), some (so ((List.range n).map fun p => .int (b2i (covT (tris figs (s.take i) ++ g.take j) p)))), some (sD (.int (k : Nat))), none, none, none]) (by rw [List.take_zero, List.append_nil]; rfl) ?_ ?_
    · rintro j d Γ2 hd2 rfl
      rw [List.getElem?_map] at hd2
      obtain ⟨t, ht, rfl⟩ := Option.map_eq_some_iff.mp hd2
      have hm := List.mem_of_getElem? ht
      have okt := okg.tri t hm
      have t1 := ct.d1 g (List.mem_of_getElem? hg) t hm
      have t0 := okt.p0
      have tl := okt.lt
      rw [twos_len] at tl
      refine ⟨_, _, gr_tup3, ?_⟩
      refine ds_put (n := 2) (k := t.1.toNat) (ds := (List.range n).map fun p => .int (b2i (covT (tris figs (s.take i) ++ g.take j) p))) (d := .int 1) rfl rfl (Or.inl rfl) ((dv 6 : DE _ _ _ (tD (.int t.2.2))).is (by rw [t1])) ((dv 4 : DE _ _ _ (tD (.int t.1))).is (by rw [Int.toNat_of_nonneg t0])) ?_ rfl (ds_nil rfl ⟨rfl, rfl, ?_, rfl, trivial⟩)
      · rw [List.length_map, List.length_range]
        omega
      · rw [cov_set _ _ _ t0, List.take_add_one, ht, List.append_assoc]
        rfl
    · rintro Γ2 rfl
      rw [List.length_map, List.take_length]
      refine ds_nil rfl ⟨rfl, rfl, ?_, trivial⟩
      rw [tris_take hk, gd]
  · rintro Γ1 rfl
    rw [zs_len, List.take_length]
    refine ds_freeze (n := 2) rfl rfl ?_
    exact ds_ret (T := tL (dps n figs s)) (dv 2) (Ty.le_refl _)
def rClearFillings (A : Addr) : List Ty → Ty → Prop := fun Ts T => ∃ (n : Nat) (figs : List Fig) (l : List (List Nat)), Ts = [bkT A (twos n) figs, tL (l.map eN), tD (hts n)] ∧ CtIn n figs ∧ (∀ s ∈ l, SIn figs s) ∧ T = tD (.int (wsum figs n l))
theorem scClearFillings : FnScope ["book", "sets", "heights", "total", "some", "depths", "found", "many", "depth", "height"] ["book", "sets", "heights"] (defScope sClearFillings) := ⟨rfl, rfl, rfl, by decide +kernel, rfl, by decide +kernel, by decide +kernel⟩
theorem wsum_take {figs : List Fig} {n : Nat} {l : List (List Nat)} {i : Nat} {s : List Nat} (h : l[i]? = some s) : wsum figs n (l.take (i + 1)) = wsum figs n (l.take i) + sgn s (cnt figs n s) := by
  unfold wsum
  rw [List.take_add_one, h, List.map_append, List.sum_append]
  simp
theorem ok_clear_fillings (ha : E.mg "all" = none) (hz : E.mg "zip" = none) (KD : Kn E 2 "depths_of" (rDepthsOf A)) (KC : KnM E 1 A "colours" (rBookColours A)) (KR : Kn E 1 "rows_of_notes" rRowsOfNotes) (KS : Kn E 1 "signed" rSigned) (F : FnP E.K "clear_fillings" sClearFillings f fd) : Ok E 3 f fd ["book", "sets", "heights"] (rClearFillings A) := by
  refine defOk F scClearFillings (fun Ts T ⟨_, _, _, e, _⟩ => by subst e; rfl) ?_
  rintro Ts T ⟨n, figs, l, rfl, ct, hs, rfl⟩
  have nd := scClearFillings.nd
  have n6 := ct.n6
  refine ds_set d_int (stn 3) ?_
  refine ds_for (ds := l.map eN) (di_list (dv 1 : DE _ _ _ (tL (l.map eN))).w) (dg_name (stn 4)) (fun i Γ => Γ = [some (sv (bkT A (twos n) figs)), some (sv (tL (l.map eN))), some (sD (hts n)), some (sD (.int (wsum figs n (l.take i)))), none, none, none, none, none, none]) rfl ?_ ?_
  · rintro i d Γ1 hd rfl
    rw [List.getElem?_map] at hd
    obtain ⟨s, hsi, rfl⟩ := Option.map_eq_some_iff.mp hd
    refine ⟨_, _, gr_name, ?_⟩
    refine ds_set (cl2 KD (dv 0) (dv 4) ⟨n, figs, s, rfl, ct, hs s (List.mem_of_getElem? hsi), rfl⟩) (stn 5) ?_
    refine ds_ifT (DT.is (tv (allL (bs := (List.range n).map fun p => decide (b2i (cov figs s p) ≤ 1)) ha (DE.isL (lc_map (fun p : Nat => .tuple [.int (b2i (cov figs s p)), .int 1]) (List.range n) (fun p => .bool (decide (b2i (cov figs s p) ≤ 1))) [("depth", 8), ("height", 9)] (di_zipS2 (l := List.range n) (f := fun p => .int (b2i (cov figs s p))) (g := fun _ => .int 1) (isb hz) (DE.w (dv 5 : DE _ _ _ (tL (dps n figs s)))) (dv 2)) nd (dg_tup2 (stn 8) (stn 9)) (by rw [List.length_range]; omega) fun p _ => ⟨_, gr_tup2, d_le (dv 8) (dv 9)⟩) (by rw [List.map_map]; rfl)))) ?_) ?_
    · rw [List.all_map]
      refine List.all_eq_true.mpr fun p _ => ?_
      show decide (b2i (cov figs s p) ≤ 1) = true
      have := (b2i_01 (cov figs s p)).2
      exact decide_eq_true (by omega)
    refine ds_set d_int (stn 6) ?_
    refine ds_for (ds := (List.range n).map fun p => .tuple [.int 2, .int (b2i (cov figs s p)), .int 1]) (di_zipS3 (l := List.range n) (f := fun _ => .int 2) (g := fun p => .int (b2i (cov figs s p))) (h := fun _ => .int 1) (isb hz) ((me0 KC (dv 0) insI ⟨twos n, figs, rfl, rfl⟩).is ?_) (DE.w (dv 5 : DE _ _ _ (tL (dps n figs s)))) (dv 2)) (dg_tup3 (stn 7) (stn 8) (stn 9))
      (fun j Γ => Γ = [some (sv (bkT A (twos n) figs)), some (sv (tL (l.map eN))), some (sD (hts n)), some (sD (.int (wsum figs n (l.take i)))), some (sD (eN s)), some (sv (tL (dps n figs s))), some (sD (.int ((List.range j).foldl (fun acc p => acc * (if cov figs s p then 1 else 2)) 1))), none, none, none]) rfl ?_ ?_
    · unfold eIt twos
      rw [List.map_replicate, rep_range]
    · rintro j d Γ2 hd2 rfl
      rw [List.getElem?_map] at hd2
      obtain ⟨p, hp, rfl⟩ := Option.map_eq_some_iff.mp hd2
      have hj : j < n := by
        have := (List.getElem?_eq_some_iff.mp hp).1
        rw [List.length_range] at this
        exact this
      rw [List.getElem?_range hj] at hp
      cases Option.some.inj hp
      refine ⟨_, _, gr_tup3, ?_⟩
      refine ds_augMul (j := if cov figs s j then 1 else 2) (Or.inr (by cases cov figs s j <;> decide)) rfl (cl2 KR (Tb := tD (.int (if cov figs s j then 0 else 1))) (dv 7) (d_if (dt_eqI (dv 8) d_int) (fun h => (dv 9 : DE _ _ _ (tD (.int 1))).is ?_) (fun h => (d_sub (dv 9) d_int).is ?_)) ⟨2, if cov figs s j then 0 else 1, rfl, by decide, by decide, ?_, ?_, ?_⟩) (stn 6) (ds_nil rfl ⟨rfl, rfl, rfl, rfl, rfl, rfl, ?_, trivial⟩)
      · have := of_decide_eq_true h
        cases hc : cov figs s j with
        | true =>
          rw [hc] at this
          exact absurd this (by decide)
        | false => rfl
      · have := of_decide_eq_false h
        cases hc : cov figs s j with
        | true => rfl
        | false =>
          rw [hc] at this
          exact absurd rfl this
      · cases cov figs s j <;> decide
      · cases cov figs s j <;> decide
      · cases cov figs s j <;> rfl
      · rw [List.range_succ, List.foldl_append]
        rfl
    · rintro Γ2 rfl
      rw [List.length_map, List.length_range]
      refine ds_augAdd (i := wsum figs n (l.take i)) (j := sgn s (cnt figs n s)) rfl ((cl2 KS (dv 4) (dv 6) ⟨(zs s).map .int, cnt figs n s, rfl, rfl⟩).is ?_) (stn 3) (ds_nil (Γ' := [some (sv (bkT A (twos n) figs)), some (sv (tL (l.map eN))), some (sD (hts n)), some (sD (.int (wsum figs n (l.take (i + 1))))), none, none, none, none, none, none]) (ds_nil rfl Gle.refl) ⟨rfl, rfl, rfl, ?_, trivial⟩)
      · rw [zs_len]
        rfl
      · rw [wsum_take hsi]
  · rintro Γ1 rfl
    rw [List.length_map, List.take_length]
    exact ds_ret (dv 3) (Ty.le_refl _)
end
end Tb
set_option Elab.async false
set_option linter.all false
set_option maxRecDepth 100000
set_option maxHeartbeats 1000000
namespace Tb
open PySem PySem.Spec PyProof.Rows L2 DL
/-! ### clear, need_weights, weight_of, weight_clear, clear_weight -/
theorem wsum_perm {figs : List Fig} {n : Nat} {l m : List (List Nat)} (p : l.Perm m) : wsum figs n l = wsum figs n m := by
  unfold wsum
  induction p with
  | nil => rfl
  | cons x _ ih => rw [List.map_cons, List.map_cons, List.sum_cons, List.sum_cons, ih]
  | swap x y l =>
    simp only [List.map_cons, List.sum_cons]
    omega
  | trans _ _ h1 h2 => rw [h1, h2]
theorem apart_sin {n : Nat} {figs : List Fig} (ct : CtIn n figs) {s : List Nat} (h : s ∈ apartUpto figs figs.length) : SIn figs s := ⟨apart_mem figs _ s h, Nat.le_trans (apart_slen figs _ s h) ct.ok.f12⟩
theorem look_put (m : List (Int × Int)) (k v p : Int) : lookI (putI m k v) p = if p = k then some v else lookI m p := by
  have h1 := val_hkv p (putI m k v)
  rw [← put_hkv, L2.valV_put] at h1
  by_cases h : p = k
  · subst h
    rw [if_pos rfl] at h1
    rw [if_pos rfl]
    cases e : lookI (putI m p v) p with
    | none =>
      rw [e] at h1
      cases h1
    | some x =>
      rw [e] at h1
      have := Option.some.inj h1
      injection this with this
      rw [this]
  · rw [if_neg (fun z => h (Sum.inl.inj z)), val_hkv] at h1
    rw [if_neg h]
    cases e1 : lookI m p with
    | none =>
      rw [e1] at h1
      cases e2 : lookI (putI m k v) p with
      | none => rfl
      | some x =>
        rw [e2] at h1
        cases h1
    | some y =>
      rw [e1] at h1
      cases e2 : lookI (putI m k v) p with
      | none =>
        rw [e2] at h1
        cases h1
      | some x =>
        rw [e2] at h1
        have := Option.some.inj h1
        injection this with this
        rw [this]
/-- what a dict of wants knows -/
structure WOk (ts : Fig) (m : List (Int × Int)) : Prop where
  has : ∀ p : Nat, (lookI m ((p : Nat) : Int)).isSome = covT ts p
  val : ∀ (p n : Int), lookI m p = some n → n = 0 ∨ n = 1
  len : m.length ≤ ts.length
theorem WOk.put {ts : Fig} {m : List (Int × Int)} (h : WOk ts m) {t : Tri} (hn : t.2.1 = 0 ∨ t.2.1 = 1) : WOk (ts ++ [t]) (putI m t.1 t.2.1) := by
  refine ⟨fun p => ?_, fun p n hl => ?_, ?_⟩
  · have e : covT (ts ++ [t]) p = (covT ts p || decide (t.1 = ((p : Nat) : Int))) := by
      unfold covT
      rw [List.any_append, List.any_cons, List.any_nil, Bool.or_false]
    rw [look_put, e]
    by_cases z : ((p : Nat) : Int) = t.1
    · rw [if_pos z, decide_eq_true z.symm, Bool.or_true]
      rfl
    · rw [if_neg z, decide_eq_false (fun q => z q.symm), Bool.or_false]
      exact h.has p
  · rw [look_put] at hl
    by_cases z : p = t.1
    · rw [if_pos z] at hl
      cases hl
      exact hn
    · rw [if_neg z] at hl
      exact h.val p n hl
  · have := put_len m t.1 t.2.1
    have := h.len
    rw [List.length_append]
    show _ ≤ _ + 1
    omega
theorem tris_len {n : Nat} {figs : List Fig} (ct : CtIn n figs) : ∀ {s : List Nat}, (∀ k ∈ s, k < figs.length) → (tris figs s).length ≤ 6 * s.length
  | [], _ => Nat.zero_le _
  | k :: s, h => by
    have ih := tris_len ct (s := s) fun k' hk' => h k' (List.mem_cons_of_mem _ hk')
    obtain ⟨g, hg⟩ : ∃ g, figs[k]? = some g := ⟨_, List.getElem?_eq_getElem (h k (List.mem_cons_self ..))⟩
    have gd : figs.getD k [] = g := by rw [List.getD_eq_getElem?_getD, hg]; rfl
    have := ct.ok.g6 (List.mem_of_getElem? hg)
    unfold tris at ih ⊢
    rw [List.flatMap_cons, List.length_append, gd, List.length_cons]
    omega
section
variable {E : Ev} {f : Addr} {fd : FuncData} {A : Addr}
def rClear (A : Addr) : List Ty → Ty → Prop := fun Ts T => ∃ (n : Nat) (figs : List Fig), Ts = [bkT A (twos n) figs, tD (hts n)] ∧ CtIn n figs ∧ T = tD (.int (wsum figs n (apartUpto figs figs.length)))
theorem scClear : FnScope ["book", "heights"] ["book", "heights"] (defScope sClear) := ⟨rfl, rfl, rfl, by decide +kernel, rfl, by decide +kernel, by decide +kernel⟩
theorem d_callx {C : Cc} {Γ : Gm} {e1 e2 e3 : Expr} {pos p : Pos} {x : Str} {k : Nat} {R : List Ty → Ty → Prop} {α : Type} {F0 : α → Prop} {U : α → Ty} {T1 T3 T : Ty} (F : Kn C.E k x R) (h1 : DE C e1 Γ T1) (h2 : DE C e2 Γ (tEx F0 U)) (h3 : DE C e3 Γ T3) (hR : ∀ z, F0 z → R [T1, U z, T3] T) (hk : k ≤ C.k := by exact Nat.le_of_ble_eq_true rfl)
    (hg : C.sc.names.lookup x = some .globalImplicit := by rfl) (s1 : ∀ env : Env, starEach [e1, e2, e3] env = (false, eval e1 env) :: starEach [e2, e3] env := by intro _; rfl) (s2 : ∀ env : Env, starEach [e2, e3] env = (false, eval e2 env) :: starEach [e3] env := by intro _; rfl) (s3 : ∀ env : Env, starEach [e3] env = (false, eval e3 env) :: starEach [] env := by intro _; rfl)
    (hdb : (x == ("__debug__" : Str)) = false := by decide) : DE C (.Call (.Name x p) [e1, e2, e3] [] pos) Γ T := by
  intro X ok G0 W G σ H Q s q
  obtain ⟨f, fd, ps, F, hm, kp, b⟩ := F.ex
  rw [← ok.p, ← ok.w, ← ok.K, ← ok.mg, ← ok.base] at F
  refine w_pe (pe_call F (ok.room.mono hk) (by show X.env.scope.names.lookup x = _; rw [ok.sc]; exact hg) (by rw [ok.mg]; exact hm) (by rw [ok.K]; exact kp) (by rw [ok.K]; exact b) .nil pass0 (pa_cons pe_w (pa_cons pe_w (pa_cons pe_w pa_nil (s3 _)) (s2 _)) (s1 _)) hdb (s1 _) (by rw [s2, s3]; rfl)) ?_
  refine h1 X ok G0 W G σ H _ s fun v1 G1 H1 f1 p1 => ?_
  refine h2 X ok G0 W G1 σ H1 _ (s.step f1) fun v2 G2 H2 f2 ⟨z, fz, p2⟩ => ?_
  refine h3 X ok G0 W G2 σ H2 _ ((s.step f1).step f2) fun v3 G3 H3 f3 p3 => ?_
  show spT X.K R [v1, v2, v3] H3 Q E0
  rw [ok.K]
  exact ⟨G3, [T1, U z, T3], T, f3.s, .cons (T1.mono (f2.g.trans f3.g) p1) (.cons ((U z).mono f3.g p2) (.cons p3 .nil)), hR z fz, fun v G' H' f' p => q v G' H' (f1.trans (f2.trans (f3.trans f'))) p⟩
theorem d_callx3 {C : Cc} {Γ : Gm} {e1 e2 e3 : Expr} {pos p : Pos} {x : Str} {k : Nat} {R : List Ty → Ty → Prop} {α : Type} {F0 : α → Prop} {U : α → Ty} {T1 T2 T : Ty} (F : Kn C.E k x R) (h1 : DE C e1 Γ T1) (h2 : DE C e2 Γ T2) (h3 : DE C e3 Γ (tEx F0 U)) (hR : ∀ z, F0 z → R [T1, T2, U z] T) (hk : k ≤ C.k := by exact Nat.le_of_ble_eq_true rfl)
    (hg : C.sc.names.lookup x = some .globalImplicit := by rfl) (s1 : ∀ env : Env, starEach [e1, e2, e3] env = (false, eval e1 env) :: starEach [e2, e3] env := by intro _; rfl) (s2 : ∀ env : Env, starEach [e2, e3] env = (false, eval e2 env) :: starEach [e3] env := by intro _; rfl) (s3 : ∀ env : Env, starEach [e3] env = (false, eval e3 env) :: starEach [] env := by intro _; rfl)
    (hdb : (x == ("__debug__" : Str)) = false := by decide) : DE C (.Call (.Name x p) [e1, e2, e3] [] pos) Γ T := by
  intro X ok G0 W G σ H Q s q
  obtain ⟨f, fd, ps, F, hm, kp, b⟩ := F.ex
  rw [← ok.p, ← ok.w, ← ok.K, ← ok.mg, ← ok.base] at F
  refine w_pe (pe_call F (ok.room.mono hk) (by show X.env.scope.names.lookup x = _; rw [ok.sc]; exact hg) (by rw [ok.mg]; exact hm) (by rw [ok.K]; exact kp) (by rw [ok.K]; exact b) .nil pass0 (pa_cons pe_w (pa_cons pe_w (pa_cons pe_w pa_nil (s3 _)) (s2 _)) (s1 _)) hdb (s1 _) (by rw [s2, s3]; rfl)) ?_
  refine h1 X ok G0 W G σ H _ s fun v1 G1 H1 f1 p1 => ?_
  refine h2 X ok G0 W G1 σ H1 _ (s.step f1) fun v2 G2 H2 f2 p2 => ?_
  refine h3 X ok G0 W G2 σ H2 _ ((s.step f1).step f2) fun v3 G3 H3 f3 ⟨z, fz, p3⟩ => ?_
  show spT X.K R [v1, v2, v3] H3 Q E0
  rw [ok.K]
  exact ⟨G3, [T1, T2, U z], T, f3.s, .cons (T1.mono (f2.g.trans f3.g) p1) (.cons (T2.mono f3.g p2) (.cons p3 .nil)), hR z fz, fun v G' H' f' p => q v G' H' (f1.trans (f2.trans (f3.trans f'))) p⟩
theorem ds_newD' {C : Cc} {Γ : Gm} {R : Po} {rest : List Stmt} {p pos spos : Pos} {n : Nat} {x : Str} (st : Sto C n x) (hr : DS C rest (Γ.set n (some (soD []))) R) : DS C (.Assign [.Name x p] (.Dict [] [] pos) spos :: rest) Γ R := ds_newD (c := .Constant .none 0 spos) st hr
theorem ok_clear (KN : Kn E 2 "need_heights" (rNeedHeights A)) (KA : KnM E 3 A "apart_sets" (rBookApart A)) (KF : Kn E 3 "clear_fillings" (rClearFillings A)) (F : FnP E.K "clear" sClear f fd) : Ok E 4 f fd ["book", "heights"] (rClear A) := by
  refine defOk F scClear (fun Ts T ⟨_, _, e, _⟩ => by subst e; rfl) ?_
  rintro Ts T ⟨n, figs, rfl, ct, rfl⟩
  have nd := scClear.nd
  refine ds_expr (cl2 KN (dv 0) (dv 1) ⟨n, figs, rfl, ct.n6, rfl⟩) ?_
  refine ds_ret (d_callx KF (dv 0) (me0 KA (dv 0) insI ⟨twos n, figs, rfl, ct.ok, rfl⟩) (dv 1) fun l hl => ⟨n, figs, l, rfl, ct, fun s hs => apart_sin ct (hl.mem_iff.mp hs), ?_⟩) (Ty.le_refl _)
  rw [wsum_perm hl]
abbrev wts (n : Nat) : PyData := .list ((List.range n).map fun _ => lI [1, 1])
def rNeedWeights (A : Addr) : List Ty → Ty → Prop := fun Ts T => ∃ (n : Nat) (figs : List Fig), Ts = [bkT A (twos n) figs, tD (wts n)] ∧ n ≤ 6 ∧ T = tD .none
theorem scNeedWeights : FnScope ["book", "weights", "pad", "row", "one"] ["book", "weights"] (defScope sNeedWeights) := ⟨rfl, rfl, rfl, by decide +kernel, rfl, by decide +kernel, by decide +kernel⟩
theorem ok_need_weights (hl : E.mg "len" = none) (he : E.mg "enumerate" = none) (ha : E.mg "all" = none) (hsu : E.mg "sum" = none) (hM : ∃ t, E.mg "MOST_WEIGHT" = some (.int 999 t)) (KP : KnM E 1 A "pads" (rBookPads A)) (KC : KnM E 1 A "colours" (rBookColours A)) (F : FnP E.K "need_weights" sNeedWeights f fd) : Ok E 2 f fd ["book", "weights"] (rNeedWeights A) := by
  refine defOk F scNeedWeights (fun Ts T ⟨_, _, e, _⟩ => by subst e; rfl) ?_
  rintro Ts T ⟨n, figs, rfl, n6, rfl⟩
  have nd := scNeedWeights.nd
  refine ds_pass ((dt_neI (lenL (ds := (List.range n).map fun _ => lI [1, 1]) hl (dv 1)) (me0 KP (dv 0) insI ⟨twos n, figs, rfl, rfl⟩)).is ?_) ?_
  · rw [List.length_map, List.length_range, twos_len, decide_eq_true rfl]
    rfl
  refine ds_for (di_enum (ds := (List.range n).map fun _ => lI [1, 1]) (isb he) (dv 1)) (dg_tup2 (stn 2) (stn 3)) (fun i Γ => Γ = [some (sv (bkT A (twos n) figs)), some (sD (wts n)), none, none, none]) rfl ?_ ?_
  · rintro i d Γ1 hd rfl
    obtain ⟨x, hx, rfl⟩ := enD_get hd
    have hi : i < n := by
      have := (List.getElem?_eq_some_iff.mp hx).1
      rw [List.length_map, List.length_range] at this
      exact this
    rw [List.getElem?_map] at hx
    obtain ⟨y, _, rfl⟩ := Option.map_eq_some_iff.mp hx
    refine ⟨_, _, gr_tup2, ds_pass (DW.dt (dw_or (k := false) (l := false) ((dt_neI (i := 2) (j := 2) (lenL (ds := [.int 1, .int 1]) hl (dv 3)) (d_ixT (ds := (twos n).map .int) (d := .int 2) (me0 KC (dv 0) insI ⟨twos n, figs, rfl, rfl⟩) (dv 2) (at_nat (j := i) rfl (by rw [List.getElem?_map, twos_get hi]; rfl)))).is rfl) fun _ =>
      dw_or (k := false) (l := false) ((dt_not (k := true) (DT.is (tv (allL (bs := ([1, 1] : List Int).map fun x => decide (0 ≤ x) && decide (x ≤ 999)) ha (DE.isL (lc_map PyData.int ([1, 1] : List Int) (fun x => .bool (decide (0 ≤ x) && decide (x ≤ 999))) [("one", 4)] (di_list (dv 3)) nd (dg_name (stn 4)) (by decide) fun x _ => ⟨_, gr_name, by exact lele d_int (dv 4) (gl hM)⟩) rfl))) rfl)).is rfl) fun _ =>
      dw_or1 ((dt_eqI (i := 2) (j := 0) (d_sum (ns := [1, 1]) (by intro _; rfl) (isb hsu) (dv 3)) d_int).is rfl))) (ds_nil rfl ⟨rfl, rfl, trivial⟩)⟩
  · rintro Γ1 rfl
    exact ds_nil (Γ' := [some (sv (bkT A (twos n) figs)), some (sD (wts n)), none, none, none]) (Ty.le_refl _) Gle.refl
def rWeightOf (A : Addr) : List Ty → Ty → Prop := fun Ts T => ∃ (n : Nat) (figs : List Fig) (s : List Nat), Ts = [bkT A (twos n) figs, tD (wts n), tD (eN s)] ∧ CtIn n figs ∧ SIn figs s ∧ T = tD (.int (cnt figs n s))
theorem scWeightOf : FnScope ["book", "weights", "some", "wants", "at", "pad", "note", "depth", "found", "row"] ["book", "weights", "some"] (defScope sWeightOf) := ⟨rfl, rfl, rfl, by decide +kernel, rfl, by decide +kernel, by decide +kernel⟩
theorem ok_weight_of (he : E.mg "enumerate" = none) (hsu : E.mg "sum" = none) (KS : KnM E 1 A "shape" (rBookShape A)) (F : FnP E.K "weight_of" sWeightOf f fd) : Ok E 2 f fd ["book", "weights", "some"] (rWeightOf A) := by
  refine defOk F scWeightOf (fun Ts T ⟨_, _, _, e, _⟩ => by subst e; rfl) ?_
  rintro Ts T ⟨n, figs, s, rfl, ct, hs, rfl⟩
  have nd := scWeightOf.nd
  have n6 := ct.n6
  have tl := tris_len ct hs.k
  have sl := hs.len
  refine ds_newD' (n := 3) (stn 3) ?_
  refine ds_for (ds := (zs s).map .int) (di_tup (dv 2 : DE _ _ _ (tD (eN s)))) (dg_name (stn 4)) (fun i Γ => ∃ m, WOk (tris figs (s.take i)) m ∧ Γ = [some (sv (bkT A (twos n) figs)), some (sD (wts n)), some (sD (eN s)), some (soD m), none, none, none, none, none, none]) ⟨[], ⟨fun _ => rfl, fun p n h => (by cases h), Nat.zero_le _⟩, rfl⟩ ?_ ?_
  · rintro i d Γ1 hd ⟨m, hm, rfl⟩
    obtain ⟨k, hk, rfl⟩ := eN_get hd
    obtain ⟨g, hg⟩ : ∃ g, figs[k]? = some g := ⟨_, List.getElem?_eq_getElem (hs.k k (List.mem_of_getElem? hk))⟩
    have gd : figs.getD k [] = g := by rw [List.getD_eq_getElem?_getD, hg]; rfl
    have okg := ct.ok.fig g (List.mem_of_getElem? hg)
    have g6 := ct.ok.g6 (List.mem_of_getElem? hg)
    have tl2 := tris_len ct (s := s.take i) fun k' hk' => hs.k k' (List.mem_of_mem_take hk')
    have tl3 : (s.take i).length ≤ s.length := by rw [List.length_take]; exact Nat.min_le_right _ _
    refine ⟨_, _, gr_name, ?_⟩
    refine ds_for (ds := g.map eT) (di_tup (me1 KS (dv 0) insI (dv 4) ⟨twos n, figs, k, g, rfl, hg, rfl⟩)) (dg_tup3 (stn 5) (stn 6) (stn 7)) (fun j Γ => ∃ m, WOk (tris figs (s.take i) ++ g.take j) m ∧ Γ = [some (sv (bkT A (twos n) figs)), some (sD (wts n)), some (sD (eN s)), some (soD m), some (sD (.int (k : Nat))), none, none, none, none, none]) ⟨m, by rw [List.take_zero, List.append_nil]; exact hm, rfl⟩ ?_ ?_
    · rintro j d Γ2 hd2 ⟨m2, hm2, rfl⟩
      rw [List.getElem?_map] at hd2
      obtain ⟨t, ht, rfl⟩ := Option.map_eq_some_iff.mp hd2
      have htm := List.mem_of_getElem? ht
      have okt := okg.tri t htm
      have hn : t.2.1 = 0 ∨ t.2.1 = 1 := by
        obtain ⟨c, hc, hlt⟩ := okt.c
        have := List.eq_of_mem_replicate (List.mem_of_getElem? hc)
        have := okt.n0
        omega
      have ml := hm2.len
      rw [List.length_append, List.length_take] at ml
      refine ⟨_, _, gr_tup3, ?_⟩
      refine ds_dput (n := 3) (kvs := m2) (k := t.1) (v := t.2.1) rfl rfl (Or.inl rfl) (dv 6) (dv 5) (by omega) rfl (ds_nil ⟨_, ?_, rfl⟩ ⟨rfl, rfl, rfl, rfl, rfl, trivial⟩)
      have := hm2.put hn
      rw [List.append_assoc] at this
      rw [List.take_add_one, ht]
      exact this
    · rintro Γ2 ⟨m2, hm2, rfl⟩
      rw [List.length_map, List.take_length, ← gd, ← tris_take hk] at hm2
      exact ds_nil ⟨m2, hm2, rfl⟩ ⟨rfl, rfl, rfl, rfl, trivial⟩
  · rintro Γ1 ⟨m, hm, rfl⟩
    rw [zs_len, List.take_length] at hm
    refine ds_freezeD (n := 3) (kvs := m) rfl rfl ?_
    refine ds_set d_int (stn 8) ?_
    refine ds_for (di_enum (ds := (List.range n).map fun _ => lI [1, 1]) (isb he) (dv 1)) (dg_tup2 (stn 5) (stn 9)) (fun i Γ => Γ = [some (sv (bkT A (twos n) figs)), some (sD (wts n)), some (sD (eN s)), some (sv (tDi m)), none, none, none, none, some (sD (.int ((List.range i).foldl (fun acc p => acc * (if cov figs s p then 1 else 2)) 1))), none]) rfl ?_ ?_
    · rintro i d Γ2 hd rfl
      obtain ⟨x, hx, rfl⟩ := enD_get hd
      rw [List.getElem?_map] at hx
      obtain ⟨y, _, rfl⟩ := Option.map_eq_some_iff.mp hx
      refine ⟨_, _, gr_tup2, ?_⟩
      refine ds_augMul (j := if cov figs s i then 1 else 2) (Or.inr (by cases cov figs s i <;> decide)) rfl (d_if (dt_din (kvs := m) (k := ((i : Nat) : Int)) (dv 5) (dv 3)) (fun h => ?_) (fun h => ?_)) (stn 8) (ds_nil rfl ⟨rfl, rfl, rfl, rfl, ?_, trivial⟩)
      · have hc : cov figs s i = true := by rw [← h]; exact (hm.has i).symm
        obtain ⟨v, hv⟩ := Option.isSome_iff_exists.mp h
        rw [hc]
        refine d_ixL (ds := [.int 1, .int 1]) (d := .int 1) (i := v) (dv 9) (d_dget (kvs := m) (k := ((i : Nat) : Int)) (dv 3) (dv 5) hv) ?_
        rcases hm.val _ v hv with e | e <;> subst e <;> rfl
      · have hc : cov figs s i = false := by rw [← h]; exact (hm.has i).symm
        rw [hc]
        exact d_sum (ns := [1, 1]) (by intro _; rfl) (isb hsu) (dv 9)
      · rw [List.range_succ, List.foldl_append]
        rfl
    · rintro Γ2 rfl
      rw [enD_len, List.length_map, List.length_range]
      exact ds_ret (T := tD (.int (cnt figs n s))) (dv 8) (Ty.le_refl _)
def rWeightClear (A : Addr) : List Ty → Ty → Prop := fun Ts T => ∃ (n : Nat) (figs : List Fig) (l : List (List Nat)), Ts = [bkT A (twos n) figs, tD (wts n), tL (l.map eN)] ∧ CtIn n figs ∧ (∀ s ∈ l, SIn figs s) ∧ l.length ≤ 1000000 ∧ T = tD (.int (wsum figs n l))
theorem scWeightClear : FnScope ["book", "weights", "sets", "some"] ["book", "weights", "sets"] (defScope sWeightClear) := ⟨rfl, rfl, rfl, by decide +kernel, rfl, by decide +kernel, by decide +kernel⟩
theorem ok_weight_clear (hsu : E.mg "sum" = none) (KW : Kn E 2 "weight_of" (rWeightOf A)) (KS : Kn E 1 "signed" rSigned) (F : FnP E.K "weight_clear" sWeightClear f fd) : Ok E 3 f fd ["book", "weights", "sets"] (rWeightClear A) := by
  refine defOk F scWeightClear (fun Ts T ⟨_, _, _, e, _⟩ => by subst e; rfl) ?_
  rintro Ts T ⟨n, figs, l, rfl, ct, hs, hl, rfl⟩
  have nd := scWeightClear.nd
  refine ds_ret (d_sum (ns := l.map fun s => sgn s (cnt figs n s)) (by intro _; rfl) (isb hsu) (DE.w (DE.isL (lc_map eN l (fun s => .int (sgn s (cnt figs n s))) [("some", 3)] (di_list (dv 2 : DE _ _ _ (tL (l.map eN))).w) nd (dg_name (stn 3)) hl fun s hsm => ⟨_, gr_name, ?_⟩) (by rw [List.map_map]; rfl)))) (Ty.le_refl _)
  refine (cl2 KS (dv 3) (cl3 KW (dv 0) (dv 1) (dv 3) ⟨n, figs, s, rfl, ct, hs s hsm, rfl⟩) ⟨(zs s).map .int, cnt figs n s, rfl, rfl⟩).is ?_
  rw [zs_len]
  rfl
def rClearWeight (A : Addr) : List Ty → Ty → Prop := fun Ts T => ∃ (n : Nat) (figs : List Fig) (a b : Int), Ts = [bkT A (twos n) figs, tD (wts n)] ∧ CtIn n figs ∧ a = wsum figs n (apartUpto figs figs.length) ∧ b = cnt figs n [] ∧ 0 ≤ a ∧ 0 < b ∧ b < 1000000 ∧ a < 1000000 ∧ T = tD (.tuple [.int (a / (a.gcd b)), .int (b / (a.gcd b))])
theorem scClearWeight : FnScope ["book", "weights"] ["book", "weights"] (defScope sClearWeight) := ⟨rfl, rfl, rfl, by decide +kernel, rfl, by decide +kernel, by decide +kernel⟩
theorem ok_clear_weight (KN : Kn E 2 "need_weights" (rNeedWeights A)) (KA : KnM E 3 A "apart_sets" (rBookApart A)) (KW : Kn E 3 "weight_clear" (rWeightClear A)) (KO : Kn E 2 "weight_of" (rWeightOf A)) (KF : Kn E 1 "fraction" rFraction) (F : FnP E.K "clear_weight" sClearWeight f fd) : Ok E 4 f fd ["book", "weights"] (rClearWeight A) := by
  refine defOk F scClearWeight (fun Ts T ⟨_, _, _, _, e, _⟩ => by subst e; rfl) ?_
  rintro Ts T ⟨n, figs, a, b, rfl, ct, ea, eb, a0, b0, b6, a6, rfl⟩
  have nd := scClearWeight.nd
  have al : (apartUpto figs figs.length).length ≤ 4096 := by
    have h1 := apart_len figs figs.length
    have h2 : 2 ^ figs.length ≤ 2 ^ 12 := Nat.pow_le_pow_right (by decide) ct.ok.f12
    omega
  refine ds_expr (cl2 KN (dv 0) (dv 1) ⟨n, figs, rfl, ct.n6, rfl⟩) ?_
  refine ds_ret (cl2 KF (d_callx3 KW (dv 0) (dv 1) (me0 KA (dv 0) insI ⟨twos n, figs, rfl, ct.ok, rfl⟩) (T := tD (.int a)) fun l hl => ⟨n, figs, l, rfl, ct, fun s hs => apart_sin ct (hl.mem_iff.mp hs), by rw [hl.length_eq]; omega, ?_⟩) (cl3 KO (dv 0) (dv 1) (T := tD (.int b)) (d_tup dd_nil) ⟨n, figs, [], rfl, ct, ⟨fun k h => (by cases h), Nat.zero_le _⟩, by rw [eb]⟩) ⟨a, b, rfl, a0, b0, b6, a6, rfl⟩) (Ty.le_refl _)
  rw [ea, wsum_perm hl]
end
end Tb
set_option Elab.async false
set_option linter.all false
set_option maxRecDepth 100000
set_option maxHeartbeats 1000000
namespace DL
open PySem PySem.Spec PyProof.Rows L2
/-! ### the bag: a list [list of ints, i, r, t] that is written in place; told by what stays true of it -/
def bagP (p l : Addr) : Heap → Prop := fun h => ∃ (i r t : Int) (ti tr tt : Tok) (n : Nat), 0 ≤ i ∧ 0 ≤ t ∧ t < 4294967296 ∧ h.get? p = some { cls := .type "list", data := .seq #[.ref l, .int i ti, .int r tr, .int t tt] n }
def bagO (p l : Addr) : HO := .ext (bagP p l)
def tBag (ns : List Int) : Ty := ⟨fun _ H v => ∃ p l : Addr, v = .ref p ∧ H p = some (bagO p l) ∧ H l = some (.lst (ns.map V.int)), fun e ⟨p, l, a, b, c⟩ => ⟨p, l, a, e _ _ b, e _ _ c⟩⟩
abbrev bagL (l : Addr) (i r t : Int) : List V := [.ref l, .int i, .int r, .int t]
section
variable {X : Cx} {pins : List (Addr × Obj)} {σ : L2.St} {H : Hp} {s : Shared} {p l : Addr}
theorem bag_open (I : Inv X pins σ H s) (h : H p = some (bagO p l)) : ∃ i r t : Int, 0 ≤ i ∧ 0 ≤ t ∧ t < 4294967296 ∧ Inv X pins σ (upd H p (.lst (bagL l i r t))) s := by
  obtain ⟨⟨i, r, t, ti, tr, tt, n, i0, t0, t1, e⟩, _⟩ : ObjOk X.prog X.w H s.heap p (.ext (bagP p l)) := I.hok p _ h
  have new : ObjOk X.prog X.w (upd H p (.lst (bagL l i r t))) s.heap p (.lst (bagL l i r t)) := ⟨small_line (n := 4) (by decide), [.ref l, .int i ti, .int r tr, .int t tt], n, .cons rfl (.cons ⟨_, rfl⟩ (.cons ⟨_, rfl⟩ (.cons ⟨_, rfl⟩ .nil))), e⟩
  exact ⟨i, r, t, i0, t0, t1, I.write (t' := s.toks) (x := p) (e := p) (by rw [h]; exact True.intro) (.inl rfl) (fun _ _ _ q => q) ⟨_, e⟩ new⟩
theorem bag_close {i r t : Int} (I : Inv X pins σ H s) (h : H p = some (.lst (bagL l i r t))) (i0 : 0 ≤ i) (t0 : 0 ≤ t) (t1 : t < 4294967296) : Inv X pins σ (upd H p (bagO p l)) s := by
  obtain ⟨_, its, n, rv, e⟩ : ObjOk X.prog X.w H s.heap p (.lst (bagL l i r t)) := I.hok p _ h
  cases rv with
  | cons r1 rv =>
    cases rv with
    | cons r2 rv =>
      cases rv with
      | cons r3 rv =>
        cases rv with
        | cons r4 rv =>
          cases rv
          cases r1
          obtain ⟨ti, rfl⟩ := r2
          obtain ⟨tr, rfl⟩ := r3
          obtain ⟨tt, rfl⟩ := r4
          have new : ObjOk X.prog X.w (upd H p (bagO p l)) s.heap p (.ext (bagP p l)) := ⟨⟨i, r, t, ti, tr, tt, n, i0, t0, t1, e⟩, ⟨_, e⟩, fun h1 h2 ⟨i, r, t, ti, tr, tt, n, a, b, c, e⟩ k => ⟨i, r, t, ti, tr, tt, n, a, b, c, k _ e⟩⟩
          exact I.write (t' := s.toks) (x := p) (e := p) (by rw [h]; exact True.intro) (.inl rfl) (fun _ _ _ q => q) ⟨_, e⟩ new
end
/-- the bag, opened -/
def soB (p l : Addr) (ns : List Int) (i r t : Int) : Sl := ⟨fun K W G H v => v = .ref p ∧ W p = none ∧ G p = none ∧ H p = some (.lst (bagL l i r t)) ∧ G l = some (.lst (ns.map V.int)), false,
  fun f ⟨e, hw, hg, hh, hl⟩ => ⟨e, hw, f.o p (by rw [hh]; intro q; cases q) hg, f.h _ _ hh, f.g _ _ hl⟩, fun h => by cases h⟩
section
variable {C : Cc} {Γ : Gm} {T Ta : Ty} {e a b c : Expr} {pos p1 p2 cp : Pos} {R : Po} {rest : List Stmt} {p l : Addr} {ns : List Int} {i r t v : Int} {n j : Nat} {x : Str}
theorem d_bagI (n : Nat) (k : Nat) (hk : (bagL l i r t)[k]? = some (.int v)) (hG : Γ[n]? = some (some (soB p l ns i r t)) := by rfl) (hN : C.N[n]? = some x := by rfl) (hv : Vis C.sc x := by first | exact Or.inl rfl | exact Or.inr (Or.inl rfl) | exact Or.inr (Or.inr rfl)) (hd : (x == ("__debug__" : Str)) = false := by decide) (hcd : (x == ("__classdict__" : Str)) = false := by decide) :
    DE C (.Subscript (.Name x p1) (.Constant (.int (k : Nat)) j cp) pos) Γ (tD (.int v)) := by
  intro X ok G0 W G σ H Q s q
  refine w_pe (pe_ix ix_list (pe_n ok hN hv hd hcd) pe_int (by intro _ _; rfl)) ?_
  obtain ⟨w', ev, rfl, hw, hg, hh, hl⟩ := s.at_ n _ hG
  refine ⟨_, ev, p, bagL l i r t, k, .int v, rfl, rfl, SqL.of hh, ?_, q _ G H (Frm.refl s.fr.s) (.int v)⟩
  have hlt := (List.getElem?_eq_some_iff.mp hk).1
  show (ixN 4 ((k : Nat) : Int)).bind _ = _
  unfold ixN
  rw [if_pos (Int.natCast_nonneg k), if_pos (by have : k < 4 := hlt; omega), Int.toNat_natCast]
  exact hk
theorem d_bag0 (n : Nat) (hG : Γ[n]? = some (some (soB p l ns i r t)) := by rfl) (hN : C.N[n]? = some x := by rfl) (hv : Vis C.sc x := by first | exact Or.inl rfl | exact Or.inr (Or.inl rfl) | exact Or.inr (Or.inr rfl)) (hd : (x == ("__debug__" : Str)) = false := by decide) (hcd : (x == ("__classdict__" : Str)) = false := by decide) :
    DE C (.Subscript (.Name x p1) (.Constant (.int 0) j cp) pos) Γ (tL (ns.map .int)) := by
  intro X ok G0 W G σ H Q s q
  refine w_pe (pe_ix ix_list (pe_n ok hN hv hd hcd) pe_int (by intro _ _; rfl)) ?_
  obtain ⟨w', ev, rfl, hw, hg, hh, hl⟩ := s.at_ n _ hG
  exact ⟨_, ev, p, bagL l i r t, 0, .ref l, rfl, rfl, SqL.of hh, rfl, q _ G H (Frm.refl s.fr.s) ⟨l, _, rfl, hl, ints_dpa ns⟩⟩
theorem ds_bagP {i' r' t' : Int} (n : Nat) (k : Nat) (he : DE C e Γ (tD (.int v))) (hset : (bagL l i r t).set k (.int v) = bagL l i' r' t') (hk : k < 4) (hr : DS C rest (Γ.set n (some (soB p l ns i' r' t'))) R) (hG : Γ[n]? = some (some (soB p l ns i r t)) := by rfl) (hp : pureBut Γ n = true := by rfl) (hN : C.N[n]? = some x := by rfl)
    (hv : Vis C.sc x := by first | exact Or.inl rfl | exact Or.inr (Or.inl rfl) | exact Or.inr (Or.inr rfl)) (hd : (x == ("__debug__" : Str)) = false := by decide) (hcd : (x == ("__classdict__" : Str)) = false := by decide)
    (hs : ∀ (env : Env) (l : Nat), swapsWithSole [.Subscript (.Name x p1) (.Constant (.int (k : Nat)) j cp) p2] e l env = pure false := by intro _ _; rfl) (hw : ∀ env : Env, swappedStores [.Subscript (.Name x p1) (.Constant (.int (k : Nat)) j cp) p2] e env = pure none := by intro _; rfl)
    (h1 : ∀ env : Env, (assignEach [.Subscript (.Name x p1) (.Constant (.int (k : Nat)) j cp) p2] env).map (·.2) = [assign (.Subscript (.Name x p1) (.Constant (.int (k : Nat)) j cp) p2) env] := by intro _; rfl)
    (ha : ∀ (env : Env) v, assign (.Subscript (.Name x p1) (.Constant (.int (k : Nat)) j cp) p2) env v = (do
      let ov ← holding [v] (eval (.Name x p1) env)
      let iv ← holding [v, ov] (eval (.Constant (.int (k : Nat)) j cp) env)
      standAt p2
      holding [v, ov, iv] (setItem ov iv v)
      release [v, ov, iv] []) := by intro _ _; rfl) : DS C (.Assign [.Subscript (.Name x p1) (.Constant (.int (k : Nat)) j cp) p2] e pos :: rest) Γ R := fun X ok G0 W G σ H D s f => by
  refine w_ps (pss_cons (ps_asg pe_w (pg_sub (pe_n ok hN hv hd hcd) pe_int set_list (ha _)) (hs _ _) (hw _) (h1 _)) ps_w) ?_
  refine he X ok G0 W G σ H _ s fun u G1 H1 f1 pu => ?_
  obtain ⟨w', ev, rfl, hw', hg, hh, hl⟩ := (s.step f1).at_ n _ hG
  cases dp_int pu
  refine ⟨_, ev, p, bagL l i r t, k, k, rfl, rfl, hh, ?_, ?_⟩
  · unfold ixN
    rw [if_pos (Int.natCast_nonneg k), if_pos (by show ((k : Nat) : Int) < ((4 : Nat) : Int); omega), Int.toNat_natCast]
  · rw [hset]
    exact hr X ok G0 W G1 σ _ D ((s.step f1).upd2 (S' := soB p l ns i' r' t') (List.getElem?_eq_some_iff.mp hG).1 ev hw' hg ⟨rfl, hw', hg, upd_same, hl⟩ fun m S v hm hmS pv => S.any (pureBut_ok hp hm hmS) pv) f
end
/-- what is wanted behind the body that pulls from the bag -/
abbrev retB (p l : Addr) (ns : List Int) (T : Ty) : Po := { nx := fun _ => False, rt := fun _ => False, rs := fun Γ T' => (∃ i r t : Int, 0 ≤ i ∧ 0 ≤ t ∧ t < 4294967296 ∧ Γ[0]? = some (some (soB p l ns i r t))) ∧ T'.le T }
section
variable {P : Program} {w : World} {K : PySem.W.Frag} {mg : Str → Option Value} {base : Heap}
def without (H : Hp) (p : Addr) : Hp := fun b => if b = p then none else H b
theorem without_ne {H : Hp} {p b : Addr} (h : b ≠ p) : without H p b = H b := if_neg h
theorem without_same {H : Hp} {p : Addr} : without H p p = none := if_pos rfl
/-- a def of two parameters, the bag and a datum -/
theorem def_okB {x qual : Str} {st : Stmt} {f : Addr} {fd : FuncData} {N ps : List Str} {k : Nat} {R : List Ty → Ty → Prop} (F : FunD K x qual (defArgs st) (defBody st) (defScope st) [] [] f fd) (S : FnScope N ps (defScope st)) (h2 : ps.length = 2)
    (hb : ∀ Ts T, R Ts T → ∃ (ns : List Int) (d : PyData), Ts = [tBag ns, tD (.int (match d with | .int n => n | _ => 0))] ∧ (∃ m, d = .int m) ∧ (∃ U : PyData → Prop, T = tEx U tD ∧ ∀ d, U d → ∃ m, d = .int m) ∧
      ∀ p l i r t, 0 ≤ i → 0 ≤ t → t < 4294967296 → DS (defC ⟨P, w, K, mg, base⟩ N (defScope st) k) (defBody st) (some (soB p l ns i r t) :: some (sD d) :: List.replicate (N.length - 2) none) (retB p l ns T)) : FnOk P w K mg base CX0 (k + 1) f fd ps (spT K R) := by
  refine F.ok S (fun vs H Q E h => ?_) (fun cdv A outer s H vs Q E hr h => ⟨_, PSs.nox ps_w, ?_⟩)
  · obtain ⟨G, Ts, T, _, r, hR, _⟩ := h
    obtain ⟨ns, d, rfl, _⟩ := hb Ts T hR
    rw [← r.length, h2]
    rfl
  · obtain ⟨G, Ts, T, sG, r, hR, q⟩ := h
    obtain ⟨ns, d, rfl, ⟨m, rfl⟩, ⟨U, rfl, hU⟩, hDS⟩ := hb Ts T hR
    obtain ⟨v1, v2, rfl, ⟨p, l, rfl, hp, hl⟩, pv2⟩ := are2 r
    cases dp_int pv2
    intro pins sh I
    have hpH := sG _ _ hp
    have hlp : l ≠ p := fun z => by
      rw [z, hp] at hl
      cases hl
    obtain ⟨i, r, t, i0, t0, t1, I2⟩ := bag_open I hpH
    let D2 : Ends := { nx := fun _ _ => False, rt := fun v H' => ∃ (i r t : Int) (G' : Hp) (n : Int), 0 ≤ i ∧ 0 ≤ t ∧ t < 4294967296 ∧ Frm (without G p) (without H p) G' H' ∧ v = .int n ∧ U (.int n) ∧ H' p = some (.lst (bagL l i r t)) }
    have sat : Sat K (without G p) (without H p) (some (soB p l ns i r t) :: some (sD (.int m)) :: List.replicate (N.length - 2) none) (without G p) (L2.start N [.ref p, .int m]) (upd H p (.lst (bagL l i r t))) := by
      refine ⟨⟨fun b o e => ?_, Same.refl _, fun b o e => ?_, fun _ _ h => h⟩, ?_, fun j S' hj => ?_⟩
      · by_cases hbp : b = p
        · subst hbp
          rw [without_same] at e
          cases e
        · rw [without_ne hbp] at e
          rw [upd_ne hbp]
          exact e
      · by_cases hbp : b = p
        · subst hbp
          rw [without_same] at e
          cases e
        · rw [without_ne hbp] at e
          rw [upd_ne hbp]
          exact sG _ _ e
      · unfold L2.start
        simp only [List.length_append, List.length_map, List.length_cons, List.length_replicate, List.length_nil]
        omega
      · match j with
        | 0 =>
          cases hj
          exact ⟨.ref p, rfl, rfl, without_same, without_same, upd_same, by rw [without_ne hlp]; exact hl⟩
        | 1 =>
          cases hj
          exact ⟨.int m, rfl, .int m⟩
        | j + 2 =>
          have hj' : (List.replicate (N.length - 2) (none : Option Sl))[j]? = some (some S') := hj
          rw [List.getElem?_replicate] at hj'
          split at hj' <;> cases hj'
    have fits : Fits K (without G p) (without H p) (retB p l ns (tEx U tD)) D2 := ⟨fun _ _ _ _ z => z.elim, fun _ _ _ _ z => z.elim, fun _ _ _ _ z => z.elim, fun _ _ _ _ z => z.elim, fun Γ T' v G' σ' H' ⟨⟨i', r', t', a, b, c, hG⟩, le⟩ s' pv => by
      obtain ⟨v0, _, rfl, _, _, hh, _⟩ := s'.at_ 0 _ hG
      obtain ⟨d, ud, pd⟩ := le _ _ _ pv
      obtain ⟨n, rfl⟩ := hU d ud
      exact ⟨i', r', t', G', n, a, b, c, s'.fr, dp_int pd, ud, hh⟩⟩
    have run := hDS p l i r t i0 t0 t1 _ ⟨rfl, rfl, rfl, rfl, rfl, rfl, rfl, rfl, rfl, hr, rfl⟩ _ _ _ _ _ D2 sat fits pins sh I2
    refine wpAny_mono run (fun fl s' h => ?_) fun _ _ z => z
    cases fl with
    | next => obtain ⟨_, _, _, z⟩ := h; exact z.elim
    | brk => obtain ⟨_, _, _, z⟩ := h; exact z.elim
    | cont => obtain ⟨_, _, _, z⟩ := h; exact z.elim
    | ret u =>
      obtain ⟨v, σ', H', I', rv, i', r', t', G', n, a, b, c, fr, rfl, un, hh⟩ := h
      refine ⟨.int n, σ', upd H' p (bagO p l), bag_close I' hh a b c, rv, q _ (upd G' p (bagO p l)) _ ⟨fun b o e => ?_, fun b o e => ?_, fun b o e => ?_, fun b hb hg => ?_⟩ ⟨.int n, un, .int n⟩⟩
      · by_cases hbp : b = p
        · subst hbp
          rw [upd_same, ← hpH]
          exact e.symm ▸ rfl
        · rw [upd_ne hbp]
          exact fr.h _ _ (by rw [without_ne hbp]; exact e)
      · by_cases hbp : b = p
        · subst hbp
          rw [upd_same, ← hp]
          exact e.symm ▸ rfl
        · rw [upd_ne hbp]
          exact fr.g _ _ (by rw [without_ne hbp]; exact e)
      · by_cases hbp : b = p
        · subst hbp
          rw [upd_same] at e ⊢
          exact e
        · rw [upd_ne hbp] at e ⊢
          exact fr.s _ _ e
      · have hbp : b ≠ p := fun z => by
          rw [z, hp] at hg
          cases hg
        rw [upd_ne hbp]
        exact fr.o b (by rw [without_ne hbp]; exact hb) (by rw [without_ne hbp]; exact hg)
end
end DL
set_option Elab.async false
set_option linter.all false
set_option maxRecDepth 100000
set_option maxHeartbeats 1000000
namespace Tb
open PySem PySem.Spec PyProof.Rows L2 DL
/-! ### _law_pull, _law_bag -/
abbrev upTo (m : Int) : Ty := tEx (fun d : PyData => ∃ x : Int, d = .int x ∧ 0 ≤ x ∧ x < m) tD
section
variable {E : Ev} {f : Addr} {fd : FuncData}
def rLawPull : List Ty → Ty → Prop := fun Ts T => ∃ (ns : List Int) (m : Int), Ts = [tBag ns, tD (.int m)] ∧ 0 < m ∧ m ≤ 1000000 ∧ T = upTo m
theorem scLawPull : FnScope ["_law_bag_here", "_law_size", "_law_got", "_law_cell"] ["_law_bag_here", "_law_size"] (defScope sLawPull) := ⟨rfl, rfl, rfl, by decide +kernel, rfl, by decide +kernel, by decide +kernel⟩
theorem ok_law_pull (hl : E.mg "len" = none) (F : FnP E.K "_law_pull" sLawPull f fd) : Ok E 1 f fd ["_law_bag_here", "_law_size"] rLawPull := by
  refine def_okB (P := E.P) (w := E.w) (mg := E.mg) (base := E.base) F scLawPull rfl ?_
  rintro Ts T ⟨ns, m, rfl, m0, m6, rfl⟩
  refine ⟨ns, .int m, rfl, ⟨m, rfl⟩, ⟨_, rfl, fun d ⟨x, e, _⟩ => ⟨x, e⟩⟩, fun p l i r t i0 t0 t1 => ?_⟩
  have nd := scLawPull.nd
  have cd : ∀ z : Int, CDiv z m := fun z => ⟨m0, by omega⟩
  have fin : ∀ z : Int, (tD (.int (z % m))).le (upTo m) := fun z K H v p => ⟨.int (z % m), ⟨z % m, rfl, Int.emod_nonneg _ (by omega), Int.emod_lt_of_pos _ m0⟩, p⟩
  refine ds_if (k := decide (m ≤ r)) (dt_ge (d_bagI 0 2 rfl) (dv 1)) (fun _ => ?_) (fun _ => ?_)
  · refine ds_set (d_mod m0 (d_bagI 0 2 rfl) (dv 1)) (stn 2) ?_
    refine ds_bagP 0 2 (d_fdiv (cd r) (d_bagI 0 2 rfl) (dv 1)) rfl (by decide) ?_
    exact ds_retS (dv 2) ⟨⟨i, r / m, t, i0, t0, t1, rfl⟩, fin r⟩
  refine ds_nil (Γ' := [some (soB p l ns i r t), some (sD (.int m)), none, none]) ?_ Gle.refl
  refine ds_set d_int (stn 3) ?_
  have rest : ∀ c : Int, DS (defC E ["_law_bag_here", "_law_size", "_law_got", "_law_cell"] (defScope sLawPull) 0) ((defBody sLawPull).drop 3) [some (soB p l ns i r t), some (sD (.int m)), none, some (sD (.int c))] (retB p l ns (upTo m)) := fun c => by
    refine ds_bagP 0 1 (d_add (d_bagI 0 1 rfl) d_int) rfl (by decide) ?_
    refine ds_if (k := decide ((10 : Int) ^ (18 : Int).toNat ≤ c)) (dt_ge (dv 3) (d_pow (i := 10) (j := 18) ⟨by decide, by decide, by decide⟩ d_int d_int)) (fun _ => ?_) (fun _ => ?_)
    · refine ds_bagP 0 2 (d_fdiv (cd c) (dv 3) (dv 1)) rfl (by decide) ?_
      exact ds_retS (d_mod m0 (dv 3) (dv 1)) ⟨⟨i + 1, c / m, t, by omega, t0, t1, rfl⟩, fin c⟩
    refine ds_nil (Γ' := [some (soB p l ns (i + 1) r t), some (sD (.int m)), none, some (sD (.int c))]) ?_ Gle.refl
    refine ds_bagP 0 3 (d_mod (j := 2147483629) (by decide) (d_add (d_add (d_add (d_pow (i := t) (j := 5) ⟨by decide, by decide, by omega⟩ (d_bagI 0 3 rfl) d_int) (d_mul (i := 69069) (j := i + 1) (Or.inl ⟨by decide, by decide⟩) d_int (d_bagI 0 1 rfl))) (d_mod (j := 1000003) (by decide) (dv 3) d_int)) d_int) d_int) rfl (by decide) ?_
    refine ds_retS (d_mod m0 (d_add (d_fdiv (j := 9) ⟨by decide, by decide⟩ (d_bagI 0 3 rfl) d_int) (dv 3)) (dv 1)) ⟨⟨i + 1, r, _, by omega, Int.emod_nonneg _ (by decide), ?_, rfl⟩, fin _⟩
    have := Int.emod_lt_of_pos (t ^ (5 : Int).toNat + 69069 * (i + 1) + c % 1000003 + 7) (show (0 : Int) < 2147483629 by decide)
    omega
  refine ds_if (k := decide (i < (((ns.map PyData.int).length : Nat) : Int))) (dt_lt (d_bagI 0 1 rfl) (lenL (ds := ns.map .int) hl (DE.w (d_bag0 0)))) (fun h => ?_) (fun _ => ?_)
  · have hi := of_decide_eq_true h
    rw [List.length_map] at hi
    have hlt : i.toNat < ns.length := by omega
    refine ds_set (d_ixL (ds := ns.map .int) (d := .int ns[i.toNat]) (DE.w (d_bag0 0)) (d_bagI 0 1 rfl) (at_int i0 (by rw [List.getElem?_map, List.getElem?_eq_getElem hlt]; rfl))) (stn 3) ?_
    exact ds_nil (Γ' := [some (soB p l ns i r t), some (sD (.int m)), none, some (sD (.int ns[i.toNat]))]) (rest _) Gle.refl
  · exact ds_nil (Γ' := [some (soB p l ns i r t), some (sD (.int m)), none, some (sD (.int 0))]) (rest _) Gle.refl
def rLawBag : List Ty → Ty → Prop := fun Ts T => ∃ (ns : List Int), ns.length ≤ 1000 ∧ Ts = [tD (.list (ns.map .int))] ∧ T = tEx (fun _ : List Int => True) tBag
theorem scLawBag : FnScope ["_law_script"] ["_law_script"] (defScope sLawBag) := ⟨rfl, rfl, rfl, by decide +kernel, rfl, by decide +kernel, by decide +kernel⟩
theorem cut_ints (ns : List Int) (lo hi : Option Int) : ∃ ms : List Int, DL.cutD (ns.map .int) lo hi = ms.map .int ∧ ms.length ≤ ns.length := by
  refine ⟨(ns.drop (HT.sIx (ns.map PyData.int).length 0 lo)).take (HT.sIx (ns.map PyData.int).length (ns.map PyData.int).length hi - HT.sIx (ns.map PyData.int).length 0 lo), ?_, ?_⟩
  · unfold DL.cutD
    rw [List.map_take, List.map_drop]
  · rw [List.length_take, List.length_drop]
    omega
theorem ok_law_bag (hl : E.mg "len" = none) (hli : E.mg "list" = none) (F : FnP E.K "_law_bag" sLawBag f fd) : Ok E 1 f fd ["_law_script"] rLawBag := by
  refine F.ok scLawBag (fun vs H Q E' h => ?_) (fun cdv A outer s H vs Q E' hr h => ⟨_, PSs.nox ps_w, ?_⟩)
  · obtain ⟨G, Ts, T, _, r, ⟨ns, _, rfl, _⟩, _⟩ := h
    rw [← r.length]
    rfl
  · obtain ⟨G, Ts, T, sG, r, ⟨ns, hns, rfl, rfl⟩, q⟩ := h
    intro pins sh I
    obtain ⟨ms, ems, hml⟩ := cut_ints ns none (some 63)
    let C : Cc := defC E ["_law_script"] (defScope sLawBag) 0
    let Γ : Gm := [some (sD (.list (ns.map .int)))]
    have okX : XOk C ((cxOf CX0 E.P E.w E.K E.mg E.base ["_law_script"] "_law_bag" (defScope sLawBag) f cdv A outer s H E').nox) := ⟨rfl, rfl, rfl, rfl, rfl, rfl, rfl, rfl, rfl, hr, rfl⟩
    have sat : Sat E.K G H Γ G (L2.start ["_law_script"] vs) H := sat_start (N := (["_law_script"] : List Str)) sG r (Nat.le_refl 1)
    let D2 : Ends := { nx := fun _ _ => False, rt := fun v H' => ∃ (p l : Addr) (t : Int) (G1 H1 : Hp), v = .ref p ∧ H1 p = none ∧ H' = upd H1 p (.lst (bagL l 0 0 t)) ∧ 0 ≤ t ∧ t < 4294967296 ∧ Frm G H G1 H1 ∧ G1 l = some (.lst (ms.map V.int)) }
    have run : wS ((cxOf CX0 E.P E.w E.K E.mg E.base ["_law_script"] "_law_bag" (defScope sLawBag) f cdv A outer s H E').nox) (defBody sLawBag) D2 (L2.start ["_law_script"] vs) H := by
      refine w_ps (pss_cons (ps_ret (pe_lst (pa_cons pe_w (pa_cons pe_int (pa_cons pe_int (pa_cons pe_w pa_nil)))))) pss_never) ?_
      refine (listL (C := C) (Γ := Γ) (ds := ms.map .int) hli ((d_slL (ds := ns.map .int) (l := none) (u := some 63) (dv 0) do_none (do_some d_int)).is (by rw [ems]))) _ okX G H G _ H _ sat fun p1 xs G1 H1 f1 hp hg hh rr => ?_
      have e1 := dpa_ints rr
      subst e1
      have f1' : Frm G H (upd G1 p1 (.lst (ms.map V.int))) H1 := ⟨f1.h, f1.g.trans (same_new hg), fun b o e => by
        by_cases hbp : b = p1
        · subst hbp
          rw [upd_same] at e
          cases e
          exact hh
        · rw [upd_ne hbp] at e
          exact f1.s _ _ e, fun b hb hg0 => by
        rw [upd_ne (fun z : b = p1 => hb (by rw [z]; exact hp))]
        exact f1.o b hb hg0⟩
      refine (d_add (C := C) (Γ := Γ) (i := 9463) (j := (ms.length : Nat)) d_int ((lenL (ds := ms.map .int) hl ((d_slL (ds := ns.map .int) (l := none) (u := some 63) (dv 0) do_none (do_some d_int)).is (by rw [ems]))).is (by rw [List.length_map]))) _ okX G H _ _ H1 _ (sat.step f1') fun v G2 H2 f2 pv => ?_
      cases dp_int pv
      exact ⟨small_line (n := 4) (by decide), fun q' hq' => ⟨q', p1, 9463 + (ms.length : Nat), G2, H2, rfl, hq', rfl, by omega, by omega, f1'.trans f2, f2.g _ _ upd_same⟩⟩
    refine wpAny_mono (run pins sh I) (fun fl s' h => ?_) fun _ _ z => z
    cases fl with
    | next => obtain ⟨_, _, _, z⟩ := h; exact z.elim
    | brk => obtain ⟨_, _, _, z⟩ := h; exact z.elim
    | cont => obtain ⟨_, _, _, z⟩ := h; exact z.elim
    | ret u =>
      obtain ⟨v, σ', H', I', rv, p, l, t, G1, H1, rfl, hp, rfl, t0, t1, fr, hl'⟩ := h
      have I2 := bag_close I' upd_same (Int.le_refl 0) t0 t1
      rw [upd_upd] at I2
      obtain ⟨f3, _⟩ : Frm G1 H1 (upd G1 p (bagO p l)) (upd H1 p (bagO p l)) ∧ True := ⟨Frm.new fr.s hp, trivial⟩
      exact ⟨.ref p, σ', _, I2, rv, q _ _ _ (fr.trans f3) ⟨ms, trivial, p, l, rfl, upd_same, f3.g _ _ hl'⟩⟩
end
end Tb
set_option Elab.async false
set_option linter.all false
set_option maxRecDepth 100000
set_option maxHeartbeats 1000000
namespace DL
open PySem PySem.Spec PyProof.Rows L2
/-! isinstance of ints, tuples -/
def tyD : PyData → String
  | .int _ => "int"
  | _ => "tuple"
def isIT : PyData → Bool
  | .int _ => true
  | .tuple _ => true
  | _ => false
theorem tyX_of {K : PySem.W.Frag} {G H : Hp} {v : V} {d : PyData} (hd : isIT d = true) (s : Same G H) (h : Dp K G v d) : TyX K H v (.type (tyD d)) := by
  cases d with
  | int i =>
    cases h
    exact .base (.int i)
  | tuple ds =>
    obtain ⟨p, xs, rfl, hq, _⟩ := dp_tup h
    rcases hq with (h1 | ⟨o, h1⟩) | ⟨o, its, n, hk, hc, _⟩
    · exact .base (.tup (s _ _ h1))
    · exact .fTuple (s _ _ h1)
    · exact .kTuple hk hc
  | _ => cases hd
section
variable {C : Cc} {Γ : Gm} {e : Expr} {pos p p1 p2 tp : Pos} {d : PyData} {b : Bool}
theorem d_isi1 {x : Str} {T : String} (hm : C.E.mg ("isinstance" : Str) = none) (hT : C.E.mg x = none) (ha : DE C e Γ (tD d)) (hd : isIT d = true) (hk : kitB (tyD d) T = some b) (hbt : bootBuiltins x = some (.type T)) (hg : C.sc.names.lookup ("isinstance" : Str) = some .globalImplicit := by rfl) (hg2 : C.sc.names.lookup x = some .globalImplicit := by rfl)
    (he : ∀ env : Env, starEach [e, .Name x p1] env = (false, eval e env) :: starEach [.Name x p1] env := by intro _; rfl) (hn : x ≠ "__name__" := by decide) (hdb : (x == ("__debug__" : Str)) = false := by decide) : DE C (.Call (.Name "isinstance" p) [e, .Name x p1] [] pos) Γ (tD (.bool b)) := by
  intro X ok G0 W G σ H Q s q
  refine w_pe (pe_callB call_isi (by show X.env.scope.names.lookup _ = _; rw [ok.sc]; exact hg) (by rw [ok.mg]; exact hm) (by decide +kernel) (pa_cons pe_w (pa_cons (pe_bltn (v := .ty T) (by show X.env.scope.names.lookup _ = _; rw [ok.sc]; exact hg2) (by rw [ok.mg]; exact hT) hbt rfl hn hdb) pa_nil rfl) (he _)) (by decide) (by decide) (he _) rfl) ?_
  refine ha X ok G0 W G σ H _ s fun v G1 H1 f1 pv => ?_
  exact ⟨v, .ty T, .type (tyD d), .type T, b, rfl, .ty T, by rw [ok.K]; exact tyX_of hd f1.s pv, kit_ty hk, q _ G1 H1 f1 (.bl b)⟩
theorem d_isi2 {k : Nat} (hm : C.E.mg ("isinstance" : Str) = none) (hT : C.E.mg ("tuple" : Str) = none) (hL : C.E.mg ("list" : Str) = none) (ha : DE C e Γ (tD d)) (hd : isIT d = true) (hb : b = decide (tyD d = "tuple")) (hg : C.sc.names.lookup ("isinstance" : Str) = some .globalImplicit := by rfl) (hg2 : C.sc.names.lookup ("tuple" : Str) = some .globalImplicit := by rfl) (hg3 : C.sc.names.lookup ("list" : Str) = some .globalImplicit := by rfl)
    (he : ∀ env : Env, starEach [e, .Tuple [.Name "tuple" p1, .Name "list" p2] k tp] env = (false, eval e env) :: starEach [.Tuple [.Name "tuple" p1, .Name "list" p2] k tp] env := by intro _; rfl) : DE C (.Call (.Name "isinstance" p) [e, .Tuple [.Name "tuple" p1, .Name "list" p2] k tp] [] pos) Γ (tD (.bool b)) := by
  intro X ok G0 W G σ H Q s q
  refine w_pe (pe_callB call_isiT (by show X.env.scope.names.lookup _ = _; rw [ok.sc]; exact hg) (by rw [ok.mg]; exact hm) (by decide +kernel) (pa_cons pe_w (pa_cons (pe_tup (pa_cons (pe_bltn (v := .ty "tuple") (by show X.env.scope.names.lookup _ = _; rw [ok.sc]; exact hg2) (by rw [ok.mg]; exact hT) (u := .type "tuple") (by decide +kernel) rfl) (pa_cons (pe_bltn (v := .ty "list") (by show X.env.scope.names.lookup _ = _; rw [ok.sc]; exact hg3) (by rw [ok.mg]; exact hL) (u := .type "list") (by decide +kernel) rfl) pa_nil rfl) rfl)) pa_nil rfl) (he _)) (by decide) (by decide) (he _) rfl) ?_
  refine ha X ok G0 W G σ H _ s fun v G1 H1 f1 pv => ?_
  refine ⟨small_line (n := 2) (by decide), fun q' hq' => ?_⟩
  have f2 : Frm G1 H1 G1 (upd H1 q' (.tup [.ty "tuple", .ty "list"])) := Frm.own f1.s hq'
  refine ⟨v, q', [.ty "tuple", .ty "list"], .type (tyD d), [.type "tuple", .type "list"], b, rfl, upd_same, .cons (.ty _) (.cons (.ty _) .nil), by rw [ok.K]; exact tyX_of hd f2.s pv, ?_, q _ G1 _ (f1.trans f2) (.bl b)⟩
  cases d with
  | int i =>
    subst hb
    exact kitAny_cons (b := false) (kit_ty (by show kitB "int" "tuple" = some false; decide +kernel)) (fun _ => kitAny_cons (b := false) (kit_ty (by show kitB "int" "list" = some false; decide +kernel)) (fun _ => kitAny_nil) (fun z => by cases z)) (fun z => by cases z)
  | tuple ds =>
    subst hb
    exact kitAny_cons (b := true) (kit_ty (by show kitB "tuple" "tuple" = some true; decide +kernel)) (fun z => by cases z) (fun _ => rfl)
  | _ => cases hd
end
end DL
set_option Elab.async false
set_option linter.all false
set_option maxRecDepth 100000
set_option maxHeartbeats 1000000
namespace Tb
open PySem PySem.Spec PyProof.Rows L2 DL
/-! ### _law_like, _law_lowest, _law_power, _law_tops, _law_copy -/
section
variable {E : Ev} {f : Addr} {fd : FuncData}
def rLikeI : List Ty → Ty → Prop := fun Ts T => ∃ a b : Int, Ts = [tD (.int a), tD (.int b)] ∧ T = tD (.bool (decide (a = b)))
theorem scLawLike : FnScope ["_law_one", "_law_due", "_law_at"] ["_law_one", "_law_due"] (defScope sLawLike) := ⟨rfl, rfl, rfl, by decide +kernel, rfl, by decide +kernel, by decide +kernel⟩
structure IsN (E : Ev) : Prop where
  isi : E.mg "isinstance" = none
  tuple : E.mg "tuple" = none
  list : E.mg "list" = none
  bool : E.mg "bool" = none
  int : E.mg "int" = none
  len : E.mg "len" = none
  range : E.mg "range" = none
  all : E.mg "all" = none
theorem ok_like_i (B : IsN E) (F : FnP E.K "_law_like" sLawLike f fd) : Ok E 1 f fd ["_law_one", "_law_due"] rLikeI := by
  refine defOk F scLawLike (fun Ts T ⟨_, _, e, _⟩ => by subst e; rfl) ?_
  rintro Ts T ⟨a, b, rfl, rfl⟩
  have nd := scLawLike.nd
  refine ds_pass ((tv (d_isi2 (d := .int b) (b := false) B.isi B.tuple B.list (dv 1) rfl rfl))) ?_
  refine ds_pass ((tv (d_isi1 (T := "bool") (d := .int b) (b := false) B.isi B.bool (dv 1) rfl (by show kitB "int" "bool" = some false; decide +kernel) (by decide +kernel)))) ?_
  refine ds_ifT ((tv (d_isi1 (T := "int") (d := .int b) (b := true) B.isi B.int (dv 1) rfl (by show kitB "int" "int" = some true; decide +kernel) (by decide +kernel)))) ?_
  refine ds_ret ((d_and (k := true) (l := decide (a = b)) (d_isi1 (T := "int") (d := .int a) (b := true) B.isi B.int (dv 0) rfl (by show kitB "int" "int" = some true; decide +kernel) (by decide +kernel)) fun _ => (d_and (k := true) (l := decide (a = b)) ((d_not (k := false) (d_isi1 (T := "bool") (d := .int a) (b := false) B.isi B.bool (dv 0) rfl (by show kitB "int" "bool" = some false; decide +kernel) (by decide +kernel))).is rfl) fun _ => d_one (d_eqI (dv 0) (dv 1))).is (by rw [Bool.true_and])).is (by rw [Bool.true_and])) (Ty.le_refl _)
def rLikeT : List Ty → Ty → Prop := fun Ts T => ∃ a b : Int, Ts = [tD (.tuple [.int a, .int b]), tD (.tuple [.int a, .int b])] ∧ T = tD (.bool true)
theorem ok_like_t (B : IsN E) (KL : Kn E 1 "_law_like" rLikeI) (F : FnP E.K "_law_like" sLawLike f fd) : Ok E 2 f fd ["_law_one", "_law_due"] rLikeT := by
  refine defOk F scLawLike (fun Ts T ⟨_, _, e, _⟩ => by subst e; rfl) ?_
  rintro Ts T ⟨a, b, rfl, rfl⟩
  have nd := scLawLike.nd
  refine ds_ifT (tv (d_isi2 (d := .tuple [.int a, .int b]) (b := true) B.isi B.tuple B.list (dv 1) rfl rfl)) ?_
  refine ds_pass ((dt_ne (d := .bool true) (d' := .bool true) rfl rfl (d_isi1 (T := "tuple") (d := .tuple [.int a, .int b]) (b := true) B.isi B.tuple (dv 0) rfl (by show kitB "tuple" "tuple" = some true; decide +kernel) (by decide +kernel)) (d_isi1 (T := "tuple") (d := .tuple [.int a, .int b]) (b := true) B.isi B.tuple (dv 1) rfl (by show kitB "tuple" "tuple" = some true; decide +kernel) (by decide +kernel))).is rfl) ?_
  refine ds_pass (DW.dt (dw_or (k := false) (l := false) ((dt_not (k := true) (tv (d_isi2 (d := .tuple [.int a, .int b]) (b := true) B.isi B.tuple B.list (dv 0) rfl rfl))).is rfl) fun _ => dw_or1 ((dt_neI (i := 2) (j := 2) (lenT (ds := [.int a, .int b]) B.len (dv 0)) (lenT (ds := [.int a, .int b]) B.len (dv 1))).is rfl))) ?_
  refine ds_ret (DE.is (allL (bs := (List.range 2).map fun _ => true) B.all (DE.isL (lc_map (fun k : Nat => .int (0 + (k : Nat))) (List.range 2) (fun _ => .bool true) [("_law_at", 2)] (di_range1 (i := 2) (isb B.range) (lenT (ds := [.int a, .int b]) B.len (dv 1)) (by decide) (by decide)) nd (dg_name (stn 2)) (by decide) fun k hk => ⟨_, gr_name, ?_⟩) rfl)) rfl) (Ty.le_refl _)
  have hk2 := List.mem_range.mp hk
  match k, hk2 with
  | 0, _ => exact (cl2 KL (d_ixT (ds := [.int a, .int b]) (d := .int a) (dv 0) (dv 2) rfl) (d_ixT (ds := [.int a, .int b]) (d := .int a) (dv 1) (dv 2) rfl) ⟨a, a, rfl, rfl⟩).is (by rw [decide_eq_true rfl])
  | 1, _ => exact (cl2 KL (d_ixT (ds := [.int a, .int b]) (d := .int b) (dv 0) (dv 2) rfl) (d_ixT (ds := [.int a, .int b]) (d := .int b) (dv 1) (dv 2) rfl) ⟨b, b, rfl, rfl⟩).is (by rw [decide_eq_true rfl])
def rLawLowest : List Ty → Ty → Prop := rFraction
theorem scLawLowest : FnScope ["_law_over", "_law_under", "_law_one", "_law_other"] ["_law_over", "_law_under"] (defScope sLawLowest) := ⟨rfl, rfl, rfl, by decide +kernel, rfl, by decide +kernel, by decide +kernel⟩
theorem ok_law_lowest (F : FnP E.K "_law_lowest" sLawLowest f fd) : Ok E 1 f fd ["_law_over", "_law_under"] rLawLowest := by
  refine defOk F scLawLowest (fun Ts T ⟨m, h, e, _⟩ => by subst e; rfl) ?_
  rintro Ts T ⟨a, b, rfl, a0, b0, b6, a6, rfl⟩
  have nd := scLawLowest.nd
  have g0 : 0 < ((a.gcd b : Nat) : Int) := Int.natCast_pos.mpr (Int.gcd_pos_of_ne_zero_right a (by omega))
  have gb : ((a.gcd b : Nat) : Int) ≤ b := Int.le_of_dvd b0 (Int.gcd_dvd_right ..)
  refine ds_par2 (das_cons (dv 0) (das_cons (dv 1) das_nil)) (stn 2) (stn 3) (by decide) rfl rfl ?_ (fun env h => by cases env; cases h; rfl)
  refine ds_while (fun m Γ => ∃ x y : Int, Γ = [some (sD (.int a)), some (sD (.int b)), some (sD (.int x)), some (sD (.int y))] ∧ 0 ≤ x ∧ 0 ≤ y ∧ x.gcd y = a.gcd b ∧ m = y.toNat) b.toNat ⟨a, b, rfl, a0, by omega, rfl, rfl⟩ ?_
  rintro m Γ1 ⟨x, y, rfl, x0, y0, eg, rfl⟩
  refine ⟨_, dt_neI (dv 3) d_int, fun h => ?_, fun h => ?_⟩
  · have hy : y ≠ 0 := by simpa using h
    refine ds_par2 (das_cons (dv 3) (das_cons (d_mod (show 0 < y by omega) (dv 2) (dv 3)) das_nil)) (stn 2) (stn 3) (by decide) rfl rfl ?_ (fun env h => by cases env; cases h; rfl)
    refine ds_nil ⟨(x % y).toNat, ?_, y, x % y, rfl, y0, Int.emod_nonneg _ hy, ?_, rfl⟩ Gle.refl
    · have := Int.emod_lt_of_pos x (show 0 < y by omega)
      have := Int.emod_nonneg x hy
      omega
    · rw [← eg]
      exact gcd_step x0 y0
  · have hy : y = 0 := by simpa using h
    subst hy
    have ex : x = ((a.gcd b : Nat) : Int) := by
      rw [← eg, Int.gcd_zero_right, Int.natAbs_of_nonneg x0]
    subst ex
    have hd : CDiv a ((a.gcd b : Nat) : Int) := ⟨g0, by omega⟩
    have hd2 : CDiv b ((a.gcd b : Nat) : Int) := ⟨g0, by omega⟩
    exact ds_ret (d_tup (dd_cons (d_fdiv hd (dv 0) (dv 2)) (dd_cons (d_fdiv hd2 (dv 1) (dv 2)) dd_nil))) (Ty.le_refl _)
def rLawPower : List Ty → Ty → Prop := fun Ts T => ∃ n : Nat, Ts = [tD (.int 2), tD (.int (n : Nat))] ∧ n ≤ 100 ∧ T = tD (.int (2 ^ n))
theorem scLawPower : FnScope ["_law_many", "_law_times", "_law_found", "_law_step"] ["_law_many", "_law_times"] (defScope sLawPower) := ⟨rfl, rfl, rfl, by decide +kernel, rfl, by decide +kernel, by decide +kernel⟩
theorem ok_law_power (hr : E.mg "range" = none) (F : FnP E.K "_law_power" sLawPower f fd) : Ok E 1 f fd ["_law_many", "_law_times"] rLawPower := by
  refine defOk F scLawPower (fun Ts T ⟨_, e, _⟩ => by subst e; rfl) ?_
  rintro Ts T ⟨n, rfl, hn, rfl⟩
  have nd := scLawPower.nd
  refine ds_set d_int (stn 2) ?_
  refine ds_for (di_range1 (isb hr) (dv 1) (by omega) (by omega)) (dg_name (stn 3)) (fun i Γ => Γ = [some (sD (.int 2)), some (sD (.int (n : Nat))), some (sD (.int (2 ^ i))), none]) rfl ?_ ?_
  · rintro i d Γ1 hd rfl
    refine ⟨_, _, gr_name, ds_set (d_mul (i := 2 ^ i) (j := 2) (Or.inr ⟨by decide, by decide⟩) (dv 2) (dv 0)) (stn 2) (ds_nil rfl ⟨rfl, rfl, ?_, trivial⟩)⟩
    rw [Int.pow_succ]
  · rintro Γ1 rfl
    rw [upD_len, Int.toNat_natCast]
    exact ds_ret (dv 2) (Ty.le_refl _)
def topsOf : Nat → List (List Int)
  | 0 => [[]]
  | m + 1 => (topsOf m).flatMap fun t => [t ++ [0], t ++ [1]]
theorem flatMap2_len (l : List (List Int)) : (l.flatMap fun t => [t ++ [0], t ++ [1]]).length = 2 * l.length := by
  induction l with
  | nil => rfl
  | cons t l ih =>
    simp only [List.flatMap_cons, List.length_append, ih, List.length_cons, List.length_nil]
    omega
theorem topsOf_len : ∀ m, (topsOf m).length = 2 ^ m
  | 0 => rfl
  | m + 1 => by
    show ((topsOf m).flatMap _).length = _
    rw [flatMap2_len, topsOf_len m, Nat.pow_succ]
    omega
theorem topsOf_mem : ∀ m t, t ∈ topsOf m → t.length = m ∧ ∀ x ∈ t, x = 0 ∨ x = 1
  | 0, t, h => by
    rw [List.mem_singleton.mp h]
    exact ⟨rfl, fun x hx => by cases hx⟩
  | m + 1, t, h => by
    obtain ⟨u, hu, ht⟩ := List.mem_flatMap.mp h
    obtain ⟨a, b⟩ := topsOf_mem m u hu
    rcases List.mem_cons.mp ht with e | ht
    · subst e
      refine ⟨by rw [List.length_append, a]; rfl, fun x hx => ?_⟩
      rcases List.mem_append.mp hx with hx | hx
      · exact b x hx
      · exact .inl (List.mem_singleton.mp hx)
    · have e := List.mem_singleton.mp ht
      subst e
      refine ⟨by rw [List.length_append, a]; rfl, fun x hx => ?_⟩
      rcases List.mem_append.mp hx with hx | hx
      · exact b x hx
      · exact .inr (List.mem_singleton.mp hx)
def rLawTops : List Ty → Ty → Prop := fun Ts T => ∃ m : Nat, Ts = [tD (.list (List.replicate m (.int 2)))] ∧ m ≤ 6 ∧ T = tL ((topsOf m).map tIs)
theorem scLawTops : FnScope ["_law_colours", "_law_found", "_law_many", "_law_late", "_law_tops_here", "_law_note"] ["_law_colours"] (defScope sLawTops) := ⟨rfl, rfl, rfl, by decide +kernel, rfl, by decide +kernel, by decide +kernel⟩
theorem ok_law_tops (hr : E.mg "range" = none) (F : FnP E.K "_law_tops" sLawTops f fd) : Ok E 1 f fd ["_law_colours"] rLawTops := by
  refine defOk F scLawTops (fun Ts T ⟨_, e, _⟩ => by subst e; rfl) ?_
  rintro Ts T ⟨m, rfl, m6, rfl⟩
  have nd := scLawTops.nd
  refine ds_set (d_lstL (dd_cons (d_tup dd_nil) dd_nil)) (stn 1) ?_
  refine ds_for (di_list (dv 0)) (dg_name (stn 2)) (fun i Γ => Γ = [some (sD (.list (List.replicate m (.int 2)))), some (sv (tL ((topsOf i).map tIs))), none, none, none, none]) rfl ?_ ?_
  · rintro i d Γ1 hd rfl
    have hi := (List.getElem?_eq_some_iff.mp hd).1
    rw [List.length_replicate] at hi
    have e2 := List.eq_of_mem_replicate (List.mem_of_getElem? hd)
    subst e2
    have hl := topsOf_len i
    have h64 : 2 ^ i ≤ 2 ^ 6 := Nat.pow_le_pow_right (by decide) (by omega)
    refine ⟨_, _, gr_name, ?_⟩
    refine ds_set (d_lstL dd_nil) (stn 3) ?_
    refine ds_for (ds := (topsOf i).map tIs) (di_list (dv 1 : DE _ _ _ (tL ((topsOf i).map tIs))).w) (dg_name (stn 4)) (fun j Γ => Γ = [some (sD (.list (List.replicate m (.int 2)))), some (sv (tL ((topsOf i).map tIs))), some (sD (.int 2)), some (sv (tL ((((topsOf i).take j).flatMap fun t => [t ++ [0], t ++ [1]]).map tIs))), none, none]) rfl ?_ ?_
    · rintro j d Γ2 hd2 rfl
      rw [List.getElem?_map] at hd2
      obtain ⟨t, ht, rfl⟩ := Option.map_eq_some_iff.mp hd2
      have tl := (topsOf_mem i t (List.mem_of_getElem? ht)).1
      refine ⟨_, _, gr_name, ?_⟩
      refine ds_set (d_catL (ds := (((topsOf i).take j).flatMap fun t => [t ++ [0], t ++ [1]]).map tIs) (es := (List.range 2).map fun k => tIs (t ++ [0 + ((k : Nat) : Int)])) ?_ (dv 3) (lc_map (fun k : Nat => .int (0 + (k : Nat))) (List.range 2) (fun k => tIs (t ++ [0 + ((k : Nat) : Int)])) [("_law_note", 5)] (di_range1 (i := 2) (isb hr) (dv 2) (by decide) (by decide)) nd (dg_name (stn 5)) (by decide) fun k _ => ⟨_, gr_name, ?_⟩)) (stn 3) (ds_nil rfl ⟨rfl, rfl, rfl, ?_, trivial⟩)
      · rw [List.length_map, List.length_map, flatMap2_len, List.length_take, List.length_range]
        omega
      · refine (d_catT (ds := t.map .int) (es := [.int (0 + ((k : Nat) : Int))]) ?_ (dv 4) (d_tup (dd_cons (dv 5) dd_nil))).is ?_
        · rw [List.length_map]
          show _ + 1 ≤ _
          omega
        · rw [tIs, List.map_append]
          rfl
      · rw [List.take_add_one, ht, List.flatMap_append, List.map_append]
        rfl
    · rintro Γ2 rfl
      rw [List.length_map, List.take_length]
      exact ds_set (dv 3 : DE _ _ _ (tL ((topsOf (i + 1)).map tIs))) (stn 1) (ds_nil rfl ⟨rfl, rfl, trivial⟩)
  · rintro Γ1 rfl
    rw [List.length_replicate]
    exact ds_ret (dv 1) (Ty.le_refl _)
def rLawCopy : List Ty → Ty → Prop := fun Ts T => ∃ rs : Rws, Ts = [tD (.list (rs.map eRl))] ∧ rs.length ≤ 1000 ∧ T = tL (rs.map eRl)
theorem scLawCopy : FnScope ["_law_my_rows", "_law_lead", "_law_turn"] ["_law_my_rows"] (defScope sLawCopy) := ⟨rfl, rfl, rfl, by decide +kernel, rfl, by decide +kernel, by decide +kernel⟩
theorem ok_law_copy (hli : E.mg "list" = none) (F : FnP E.K "_law_copy" sLawCopy f fd) : Ok E 1 f fd ["_law_my_rows"] rLawCopy := by
  refine defOk F scLawCopy (fun Ts T ⟨_, e, _⟩ => by subst e; rfl) ?_
  rintro Ts T ⟨rs, rfl, hl, rfl⟩
  have nd := scLawCopy.nd
  refine ds_ret (lc_map eRl rs eRl [("_law_lead", 1), ("_law_turn", 2)] (di_list (dv 0)) nd (dg_tup2 (stn 1) (stn 2)) (Nat.le_trans hl (by decide)) fun l _ => ⟨_, gr_tup2, ?_⟩) (Ty.le_refl _)
  exact d_tup (dd_cons (DE.w (DEo.l (listL (ds := l.map .int) hli (dv 1)))) (dd_cons (DE.w (DEo.l (listL (ds := []) hli (dv 2)))) dd_nil))
end
end Tb
set_option Elab.async false
set_option linter.all false
set_option maxRecDepth 100000
set_option maxHeartbeats 1000000
namespace Tb
open PySem PySem.Spec PyProof.Rows L2 DL
/-! ### _law_rows -/
section
variable {E : Ev} {f : Addr} {fd : FuncData}
structure DrawnRows (n : Nat) (rs : Rws) : Prop where
  len : rs.length = n
  row : ∀ l ∈ rs, l.length ≤ 9 ∧ ∀ x ∈ l, 0 ≤ x ∧ x < 2
def rLawRows : List Ty → Ty → Prop := fun Ts T => ∃ (ns : List Int) (n : Nat), Ts = [tBag ns, tD (.list (List.replicate n (.int 2))), tD (.int 9), tD (.int 0)] ∧ n ≤ 6 ∧ T = tEx (fun rs : Rws => DrawnRows n rs) fun rs => tL (rs.map eRl)
theorem scLawRows : FnScope ["_law_bag_here", "_law_colours", "_law_most", "_law_ever", "_law_my_rows", "_law_many", "_law_lead", "_law_turn", "_law_k"] ["_law_bag_here", "_law_colours", "_law_most", "_law_ever"] (defScope sLawRows) := ⟨rfl, rfl, rfl, by decide +kernel, rfl, by decide +kernel, by decide +kernel⟩
theorem upTo_le {m : Int} : (upTo m).le (tEx (fun x : Int => 0 ≤ x ∧ x < m) fun x => tD (.int x)) := fun K H v ⟨d, ⟨x, e, h⟩, p⟩ => ⟨x, h, by subst e; exact p⟩
theorem ok_law_rows (hr : E.mg "range" = none) (KP : Kn E 1 "_law_pull" rLawPull) (F : FnP E.K "_law_rows" sLawRows f fd) : Ok E 2 f fd ["_law_bag_here", "_law_colours", "_law_most", "_law_ever"] rLawRows := by
  refine defOk F scLawRows (fun Ts T ⟨_, _, e, _⟩ => by subst e; rfl) ?_
  rintro Ts T ⟨ns, n, rfl, n6, rfl⟩
  have nd := scLawRows.nd
  refine ds_setO (do_lst dd_nil) (stn 4) ?_
  refine ds_for (di_list (dv 1)) (dg_name (stn 5)) (fun i Γ => ∃ rs : Rws, DrawnRows i rs ∧ Γ = [some (sv (tBag ns)), some (sD (.list (List.replicate n (.int 2)))), some (sD (.int 9)), some (sD (.int 0)), some (so (rs.map eRl)), none, none, none, none]) ⟨[], ⟨rfl, fun l h => by cases h⟩, rfl⟩ ?_ ?_
  · rintro i d Γ1 hd ⟨rs, hrs, rfl⟩
    have hi := (List.getElem?_eq_some_iff.mp hd).1
    rw [List.length_replicate] at hi
    have e2 := List.eq_of_mem_replicate (List.mem_of_getElem? hd)
    subst e2
    refine ⟨_, _, gr_name, ?_⟩
    refine ds_setLc (n := 6) (F := fun ds => ∃ x : Int, (0 ≤ x ∧ x < 10) ∧ ds = upD 0 x.toNat) (Rel := fun pre out => ∃ l : List Int, out = l.map .int ∧ l.length = pre.length ∧ ∀ y ∈ l, 0 ≤ y ∧ y < 2)
      ⟨gName 8, [8], [("_law_k", 8)], di_range1G (F := fun x : Int => 0 ≤ x ∧ x < 10) (isb hr) ((cl2 KP (dv 0) (d_add (dv 2) d_int) ⟨ns, 10, rfl, by decide, by decide, rfl⟩).le upTo_le) (fun x h => ⟨by omega, by omega⟩), nd, by kernel_rfl, by decide, dg_name (stn 8), fun ds ⟨x, h, e⟩ => by rw [e, upD_len]; omega, ⟨[], rfl, rfl, fun y h => by cases h⟩,
        fun pre d post out _ ⟨l, e, hl, hy⟩ => ⟨_, true, gr_name, dts_nil, (fun z => by cases z), fun _ => ?_⟩, fun _ _ => rfl⟩ (stn 6) rfl rfl rfl rfl ?_
    · refine DE.le (T := upTo 2) (cl2 KP (dv 0) (dv 5) ⟨ns, 2, rfl, by decide, by decide, rfl⟩) fun K H v hh => ?_
      obtain ⟨d', ⟨x, e', h⟩, p⟩ := hh
      exact ⟨d', ⟨l ++ [x], by rw [e, e', List.map_append]; rfl, by rw [List.length_append, List.length_append, hl]; rfl, fun y hym => by
        rcases List.mem_append.mp hym with hym | hym
        · exact hy y hym
        · rw [List.mem_singleton.mp hym]
          exact h⟩, p⟩
    · rintro ds out ⟨x, hx, e⟩ ⟨l, rfl, hl, hy⟩
      rw [e, upD_len] at hl
      refine ds_set (d_lstL dd_nil) (stn 7) ?_
      refine ds_pass (DW.dt (dw_and (k := false) (l := false) ((dt_gt (dv 3) d_int).is rfl) fun z => by cases z)) ?_
      refine ds_app (n := 4) (ds := rs.map eRl) (d := eRl l) rfl rfl (Or.inl rfl) (d_tup (dd_cons (DE.w (dv 6)) (dd_cons (DE.w (dv 7)) dd_nil))) rfl ?_ (ds_nil ⟨rs ++ [l], ⟨by rw [List.length_append, hrs.len]; rfl, fun l' h => ?_⟩, rfl⟩ ⟨rfl, rfl, rfl, rfl, ?_, trivial⟩)
      · rw [List.length_map, hrs.len]
        omega
      · rcases List.mem_append.mp h with h | h
        · exact hrs.row l' h
        · rw [List.mem_singleton.mp h]
          exact ⟨by omega, hy⟩
      · rw [List.map_append]
        rfl
  · rintro Γ1 ⟨rs, hrs, rfl⟩
    rw [List.length_replicate] at hrs
    refine ds_freeze (n := 4) rfl rfl ?_
    exact ds_ret (T := tL (rs.map eRl)) (dv 4) fun K H v p => ⟨rs, hrs, p⟩
end
end Tb
set_option Elab.async false
set_option linter.all false
set_option maxRecDepth 100000
set_option maxHeartbeats 1000000
namespace Tb
open PySem PySem.Spec PyProof.Rows L2 DL
/-! ### plain: inclusion and exclusion over the figures that fit a top -/
def fits (t : List Int) (g : Fig) : Bool := g.all fun u => decide (t.getD u.1.toNat 0 = u.2.1)
def fitsS (figs : List Fig) (t : List Int) (s : List Nat) : Bool := fits t (tris figs s)
def i01 (b : Bool) : Int := if b then 1 else 0
theorem sum_app (l m : List Int) : (l ++ m).sum = l.sum + m.sum := List.sum_append
theorem sum_zero {α : Type} {f : α → Int} {l : List α} (h : ∀ x ∈ l, f x = 0) : (l.map f).sum = 0 := by
  induction l with
  | nil => rfl
  | cons x l ih =>
    rw [List.map_cons, List.sum_cons, h x (List.mem_cons_self ..), ih fun y hy => h y (List.mem_cons_of_mem _ hy)]
    rfl
theorem sum_congr {α : Type} {f g : α → Int} {l : List α} (h : ∀ x ∈ l, f x = g x) : (l.map f).sum = (l.map g).sum := by
  rw [List.map_congr_left h]
theorem sum_filter {α : Type} (q : α → Bool) (f : α → Int) (l : List α) : ((l.filter q).map f).sum = (l.map fun x => if q x then f x else 0).sum := by
  induction l with
  | nil => rfl
  | cons x l ih =>
    rw [List.filter_cons, List.map_cons, List.sum_cons, ← ih]
    cases q x with
    | true => simp
    | false => simp
theorem sum_neg {α : Type} (f : α → Int) (l : List α) : (l.map fun x => -f x).sum = -(l.map f).sum := by
  induction l with
  | nil => rfl
  | cons x l ih =>
    rw [List.map_cons, List.map_cons, List.sum_cons, List.sum_cons, ih]
    omega
theorem sum_add {α : Type} (f g : α → Int) (l : List α) : (l.map fun x => f x + g x).sum = (l.map f).sum + (l.map g).sum := by
  induction l with
  | nil => rfl
  | cons x l ih =>
    rw [List.map_cons, List.map_cons, List.map_cons, List.sum_cons, List.sum_cons, List.sum_cons, ih]
    omega
theorem sum_swap {α β : Type} (f : α → β → Int) (l : List α) (m : List β) : (l.map fun a => (m.map fun b => f a b).sum).sum = (m.map fun b => (l.map fun a => f a b).sum).sum := by
  induction l with
  | nil => exact (sum_zero fun _ _ => rfl).symm
  | cons a l ih =>
    rw [List.map_cons, List.sum_cons, ih, ← sum_add]
    exact sum_congr fun b _ => by rw [List.map_cons, List.sum_cons]
theorem sum_mul {α : Type} (c : Int) (f : α → Int) (l : List α) : (l.map fun x => c * f x).sum = c * (l.map f).sum := by
  induction l with
  | nil => simp
  | cons x l ih => rw [List.map_cons, List.map_cons, List.sum_cons, List.sum_cons, ih, Int.mul_add]
theorem fits_app (t : List Int) (g h : Fig) : fits t (g ++ h) = (fits t g && fits t h) := List.all_append
theorem tris_app (figs : List Fig) (s s' : List Nat) : tris figs (s ++ s') = tris figs s ++ tris figs s' := List.flatMap_append
theorem tris_one (figs : List Fig) (k : Nat) : tris figs [k] = figs.getD k [] := by
  unfold tris
  simp
theorem sgn_snoc (s : List Nat) (k : Nat) (x : Int) : sgn (s ++ [k]) x = -sgn s x := by
  unfold sgn
  rw [List.length_append]
  show (if (((s.length + 1 : Nat) : Nat) : Int) % 2 = 0 then x else -x) = _
  by_cases h : ((s.length : Nat) : Int) % 2 = 0
  · rw [if_pos h, if_neg (by omega)]
  · rw [if_neg h, if_pos (by omega)]
    omega
theorem sgn_mul (s : List Nat) (x : Int) : sgn s x = sgn s 1 * x := by
  unfold sgn
  split
  · rw [Int.one_mul]
  · rw [Int.neg_mul, Int.one_mul]
/-- two figures that bar one another do not both fit -/
theorem fit_apart {cols : List Int} {figs : List Fig} (ok : OkBook cols figs) {t : List Int} {i j : Nat} {g h : Fig} (hi : figs[i]? = some g) (hj : figs[j]? = some h) (hij : i < j) (h1 : fits t g = true) (h2 : fits t h = true) : shareB g h = false := by
  cases e : shareB g h with
  | false => rfl
  | true =>
    exfalso
    have hb := ok.bar i j g h hij hi hj e
    unfold barB at hb
    obtain ⟨u, hu, e2⟩ := List.any_eq_true.mp hb
    rw [dictOf_eq (ok.fig g (List.mem_of_getElem? hi)).up] at e2
    cases hl : lookI (g.map fun t => (t.1, t.2.1)) u.1 with
    | none =>
      rw [hl] at e2
      cases e2
    | some n =>
      rw [hl] at e2
      obtain ⟨v, hv, a, b⟩ := look_inv hl
      have r1 := of_decide_eq_true (List.all_eq_true.mp h1 v hv)
      have r2 := of_decide_eq_true (List.all_eq_true.mp h2 u hu)
      rw [a] at r1
      have this : n = u.2.1 := by rw [← b, ← r1, r2]
      have e3 : (!decide (n = u.2.1)) = true := e2
      rw [decide_eq_true this] at e3
      cases e3
theorem fitsS_mem {figs : List Fig} {t : List Int} {s : List Nat} (h : fitsS figs t s = true) {k : Nat} (hk : k ∈ s) : fits t (figs.getD k []) = true := by
  refine List.all_eq_true.mpr fun u hu => ?_
  exact List.all_eq_true.mp h u (List.mem_flatMap.mpr ⟨k, hk, hu⟩)
/-- the signed sum over the sets of figures that fit t: whether none fits -/
theorem incl {cols : List Int} {figs : List Fig} (ok : OkBook cols figs) (t : List Int) : ∀ m, m ≤ figs.length → ((apartUpto figs m).map fun s => sgn s (i01 (fitsS figs t s))).sum = i01 ((figs.take m).all fun g => !fits t g)
  | 0, _ => rfl
  | m + 1, hm => by
    obtain ⟨g, hg⟩ : ∃ g, figs[m]? = some g := ⟨_, List.getElem?_eq_getElem (by omega)⟩
    have gd : figs.getD m [] = g := by rw [List.getD_eq_getElem?_getD, hg]; rfl
    have ih := incl ok t m (by omega)
    have e1 : apartUpto figs (m + 1) = apartUpto figs m ++ ((apartUpto figs m).filter (apartQ figs (figs.getD m []))).map fun s => s ++ [m] := rfl
    rw [e1, List.map_append, sum_app, ih, List.map_map, gd, sum_filter]
    have e2 : (figs.take (m + 1)).all (fun g => !fits t g) = ((figs.take m).all (fun g => !fits t g) && !fits t g) := by
      rw [List.take_add_one, hg, List.all_append]
      simp
    rw [e2]
    have e3 : ∀ s ∈ apartUpto figs m, (if apartQ figs g s then ((fun s => sgn s (i01 (fitsS figs t s))) ∘ fun s => s ++ [m]) s else 0) = (if fits t g then -sgn s (i01 (fitsS figs t s)) else 0) := fun s hs => by
      have f1 : fitsS figs t (s ++ [m]) = (fitsS figs t s && fits t g) := by
        unfold fitsS
        rw [tris_app, tris_one, gd, fits_app]
      show (if apartQ figs g s then sgn (s ++ [m]) (i01 (fitsS figs t (s ++ [m]))) else 0) = _
      rw [sgn_snoc, f1]
      cases hf : fits t g with
      | false =>
        rw [Bool.and_false]
        have : sgn s (i01 false) = 0 := by unfold sgn i01; simp
        rw [this]
        simp
      | true =>
        rw [Bool.and_true, if_pos rfl]
        cases hq : apartQ figs g s with
        | true => rw [if_pos rfl]
        | false =>
          rw [if_neg (by simp)]
          cases hs2 : fitsS figs t s with
          | false =>
            have : sgn s (i01 false) = 0 := by unfold sgn i01; simp
            rw [this]
            rfl
          | true =>
            exfalso
            unfold apartQ at hq
            have hq' : (s.any fun k => shareB (figs.getD k []) g) = true := by
              cases z : s.any fun k => shareB (figs.getD k []) g with
              | true => rfl
              | false =>
                rw [z] at hq
                cases hq
            obtain ⟨k, hk, hsh⟩ := List.any_eq_true.mp hq'
            have hkm := apart_mem figs m s hs k hk
            obtain ⟨g2, hg2⟩ : ∃ g2, figs[k]? = some g2 := ⟨_, List.getElem?_eq_getElem (by omega)⟩
            have gd2 : figs.getD k [] = g2 := by rw [List.getD_eq_getElem?_getD, hg2]; rfl
            have hfit := fitsS_mem hs2 hk
            rw [gd2] at hsh hfit
            rw [fit_apart ok hg2 hg hkm hfit hf] at hsh
            cases hsh
    rw [sum_congr e3]
    cases hf : fits t g with
    | true =>
      have e4 : ((apartUpto figs m).map fun s => if true = true then -sgn s (i01 (fitsS figs t s)) else 0) = (apartUpto figs m).map fun s => -sgn s (i01 (fitsS figs t s)) := List.map_congr_left fun s _ => if_pos rfl
      rw [e4, sum_neg, ih]
      show _ = i01 (_ && false)
      rw [Bool.and_false]
      show _ = (0 : Int)
      omega
    | false =>
      have e4 : ((apartUpto figs m).map fun s => if false = true then -sgn s (i01 (fitsS figs t s)) else 0).sum = 0 := sum_zero fun s _ => if_neg (by simp)
      rw [e4]
      show _ = i01 (_ && true)
      rw [Bool.and_true, Int.add_zero]
end Tb
set_option Elab.async false
set_option linter.all false
set_option maxRecDepth 100000
set_option maxHeartbeats 1000000
namespace Tb
open PySem PySem.Spec PyProof.Rows L2 DL
/-! ### plain: how many tops a set of apart figures fits -/
def tp (w : Nat → Int → Int) (n : Nat) (t : List Int) : Int := (List.range n).foldl (fun acc p => acc * w p (t.getD p 0)) 1
theorem foldl_congr {f g : Int → Nat → Int} : ∀ {l : List Nat} {a : Int}, (∀ acc, ∀ p ∈ l, f acc p = g acc p) → l.foldl f a = l.foldl g a
  | [], _, _ => rfl
  | p :: l, a, h => by
    rw [List.foldl_cons, List.foldl_cons, h a p (List.mem_cons_self ..)]
    exact foldl_congr fun acc q hq => h acc q (List.mem_cons_of_mem _ hq)
theorem tp_snoc (w : Nat → Int → Int) {n : Nat} {t : List Int} (x : Int) (h : t.length = n) : tp w (n + 1) (t ++ [x]) = tp w n t * w n x := by
  unfold tp
  rw [List.range_succ, List.foldl_append]
  show (List.range n).foldl _ 1 * w n ((t ++ [x]).getD n 0) = _
  have e1 : (t ++ [x]).getD n 0 = x := by
    rw [List.getD_eq_getElem?_getD, List.getElem?_append_right (by omega), h, Nat.sub_self]
    rfl
  rw [e1]
  congr 1
  refine foldl_congr fun acc p hp => ?_
  have hpn := List.mem_range.mp hp
  rw [List.getD_eq_getElem?_getD, List.getD_eq_getElem?_getD, List.getElem?_append_left (by omega)]
theorem sum_flat2 (f : List Int → Int) (l : List (List Int)) : ((l.flatMap fun t => [t ++ [0], t ++ [1]]).map f).sum = (l.map fun t => f (t ++ [0]) + f (t ++ [1])).sum := by
  induction l with
  | nil => rfl
  | cons t l ih =>
    rw [List.flatMap_cons, List.map_append, sum_app, ih, List.map_cons, List.sum_cons]
    simp
theorem sum_tp (w : Nat → Int → Int) : ∀ n, ((topsOf n).map (tp w n)).sum = (List.range n).foldl (fun acc p => acc * (w p 0 + w p 1)) 1
  | 0 => rfl
  | n + 1 => by
    show (((topsOf n).flatMap fun t => [t ++ [0], t ++ [1]]).map (tp w (n + 1))).sum = _
    rw [sum_flat2]
    have e : ((topsOf n).map fun t => tp w (n + 1) (t ++ [0]) + tp w (n + 1) (t ++ [1])).sum = ((topsOf n).map fun t => (w n 0 + w n 1) * tp w n t).sum := sum_congr fun t ht => by
      have hl := (topsOf_mem n t ht).1
      rw [tp_snoc w 0 hl, tp_snoc w 1 hl, ← Int.mul_add, Int.mul_comm]
    rw [e, sum_mul, sum_tp w n, List.range_succ, List.foldl_append, Int.mul_comm]
    rfl
theorem prod_i01 (b : Nat → Bool) : ∀ n, (List.range n).foldl (fun acc p => acc * i01 (b p)) 1 = i01 ((List.range n).all b)
  | 0 => rfl
  | n + 1 => by
    rw [List.range_succ, List.foldl_append, List.all_append, prod_i01 b n]
    show i01 _ * i01 (b n) = i01 (_ && (b n && true))
    rw [Bool.and_true]
    cases (List.range n).all b <;> cases b n <;> rfl
def wB (g : Fig) (p : Nat) (x : Int) : Bool := g.all fun u => !decide (u.1 = ((p : Nat) : Int)) || decide (x = u.2.1)
theorem fits_prod {g : Fig} {n : Nat} (hp : ∀ u ∈ g, 0 ≤ u.1 ∧ u.1 < (n : Int)) (t : List Int) : i01 (fits t g) = tp (fun p x => i01 (wB g p x)) n t := by
  unfold tp
  rw [prod_i01 (fun p => wB g p (t.getD p 0))]
  congr 1
  rw [Bool.eq_iff_iff]
  unfold fits wB
  rw [List.all_eq_true, List.all_eq_true]
  constructor
  · intro h p _
    refine List.all_eq_true.mpr fun u hu => ?_
    have h1 := of_decide_eq_true (h u hu)
    by_cases e : u.1 = ((p : Nat) : Int)
    · rw [e, Int.toNat_natCast] at h1
      rw [decide_eq_true h1, Bool.or_true]
    · rw [decide_eq_false e]
      rfl
  · intro h u hu
    have hb := hp u hu
    have h1 := List.all_eq_true.mp (h u.1.toNat (List.mem_range.mpr (by omega))) u hu
    rw [decide_eq_true (show u.1 = ((u.1.toNat : Nat) : Int) by omega)] at h1
    exact h1
theorem rise_eq {g : Fig} (h : g.Pairwise fun s t => s.1 < t.1) : ∀ {u v : Tri}, u ∈ g → v ∈ g → u.1 = v.1 → u = v := by
  induction h with
  | nil => intro u v hu; cases hu
  | cons h1 _ ih =>
    intro u v hu hv e
    rcases List.mem_cons.mp hu with eu | hu'
    · rcases List.mem_cons.mp hv with ev | hv'
      · rw [eu, ev]
      · have := h1 v hv'
        rw [← eu] at this
        omega
    · rcases List.mem_cons.mp hv with ev | hv'
      · have := h1 u hu'
        rw [← ev] at this
        omega
      · exact ih hu' hv' e
theorem apart_pair (figs : List Fig) : ∀ m s, s ∈ apartUpto figs m → ∀ k ∈ s, ∀ k' ∈ s, k < k' → shareB (figs.getD k []) (figs.getD k' []) = false
  | 0, s, h, k, hk, k', hk', hlt => by
    rw [List.mem_singleton.mp h] at hk
    cases hk
  | m + 1, s, h, k, hk, k', hk', hlt => by
    have hall := h
    rcases List.mem_append.mp h with h | h
    · exact apart_pair figs m s h k hk k' hk' hlt
    · obtain ⟨s', hs', rfl⟩ := List.mem_map.mp h
      obtain ⟨h1, h2⟩ := List.mem_filter.mp hs'
      rcases List.mem_append.mp hk with hk | hk
      · rcases List.mem_append.mp hk' with hk' | hk'
        · exact apart_pair figs m s' h1 k hk k' hk' hlt
        · rw [List.mem_singleton.mp hk']
          unfold apartQ at h2
          have h3 : (s'.any fun k => shareB (figs.getD k []) (figs.getD m [])) = false := by
            cases z : s'.any fun k => shareB (figs.getD k []) (figs.getD m []) with
            | false => rfl
            | true =>
              rw [z] at h2
              cases h2
          cases z : shareB (figs.getD k []) (figs.getD m []) with
          | false => rfl
          | true => exact absurd z (by
              have := List.any_eq_false.mp h3 k hk
              exact this)
      · rw [List.mem_singleton.mp hk] at hlt
        have := apart_mem figs (m + 1) (s' ++ [m]) hall k' hk'
        omega
theorem tris_uniq {n : Nat} {figs : List Fig} (ct : CtIn n figs) {m : Nat} (hm : m ≤ figs.length) {s : List Nat} (hs : s ∈ apartUpto figs m) {u v : Tri} (hu : u ∈ tris figs s) (hv : v ∈ tris figs s) (e : u.1 = v.1) : u = v := by
  obtain ⟨k, hk, hu⟩ := List.mem_flatMap.mp hu
  obtain ⟨k', hk', hv⟩ := List.mem_flatMap.mp hv
  have hkm := apart_mem figs m s hs k hk
  obtain ⟨g, hg⟩ : ∃ g, figs[k]? = some g := ⟨_, List.getElem?_eq_getElem (by omega)⟩
  have gd : figs.getD k [] = g := by rw [List.getD_eq_getElem?_getD, hg]; rfl
  rcases Nat.lt_trichotomy k k' with hlt | heq | hlt
  · have := apart_pair figs m s hs k hk k' hk' hlt
    rw [share_iff.mpr ⟨u, hu, v, hv, e⟩] at this
    cases this
  · subst heq
    rw [gd] at hu hv
    exact rise_eq (ct.ok.fig g (List.mem_of_getElem? hg)).up hu hv e
  · have := apart_pair figs m s hs k' hk' k hk hlt
    rw [share_iff.mpr ⟨v, hv, u, hu, e.symm⟩] at this
    cases this
theorem tris_ok {n : Nat} {figs : List Fig} (ct : CtIn n figs) {m : Nat} (hm : m ≤ figs.length) {s : List Nat} (hs : s ∈ apartUpto figs m) {u : Tri} (hu : u ∈ tris figs s) : 0 ≤ u.1 ∧ u.1 < (n : Int) ∧ (u.2.1 = 0 ∨ u.2.1 = 1) := by
  obtain ⟨k, hk, hu⟩ := List.mem_flatMap.mp hu
  have hkm := apart_mem figs m s hs k hk
  obtain ⟨g, hg⟩ : ∃ g, figs[k]? = some g := ⟨_, List.getElem?_eq_getElem (by omega)⟩
  have gd : figs.getD k [] = g := by rw [List.getD_eq_getElem?_getD, hg]; rfl
  rw [gd] at hu
  have okt := (ct.ok.fig g (List.mem_of_getElem? hg)).tri u hu
  have hl := okt.lt
  rw [twos_len] at hl
  obtain ⟨c, hc, hlt⟩ := okt.c
  have := List.eq_of_mem_replicate (List.mem_of_getElem? hc)
  have := okt.n0
  exact ⟨okt.p0, hl, by omega⟩
theorem count_fit {n : Nat} {figs : List Fig} (ct : CtIn n figs) {m : Nat} (hm : m ≤ figs.length) {s : List Nat} (hs : s ∈ apartUpto figs m) : ((topsOf n).map fun t => i01 (fitsS figs t s)).sum = cnt figs n s := by
  have e : ((topsOf n).map fun t => i01 (fitsS figs t s)).sum = ((topsOf n).map (tp (fun p x => i01 (wB (tris figs s) p x)) n)).sum := sum_congr fun t _ => fits_prod (fun u hu => ⟨(tris_ok ct hm hs hu).1, (tris_ok ct hm hs hu).2.1⟩) t
  rw [e, sum_tp]
  unfold cnt
  refine foldl_congr fun acc p hp => ?_
  congr 1
  show i01 (wB (tris figs s) p 0) + i01 (wB (tris figs s) p 1) = _
  cases hc : cov figs s p with
  | false =>
    have h : ∀ x, wB (tris figs s) p x = true := fun x => List.all_eq_true.mpr fun u hu => by
      have := List.any_eq_false.mp hc u hu
      rw [decide_eq_false (by simpa using this)]
      rfl
    rw [h 0, h 1]
    rfl
  | true =>
    obtain ⟨u, hu, hpu⟩ := List.any_eq_true.mp hc
    have hpu' := of_decide_eq_true hpu
    have h : ∀ x, wB (tris figs s) p x = decide (x = u.2.1) := fun x => by
      rw [Bool.eq_iff_iff]
      unfold wB
      rw [List.all_eq_true]
      constructor
      · intro z
        have := z u hu
        rw [decide_eq_true hpu'] at this
        exact this
      · intro z v hv
        by_cases e : v.1 = ((p : Nat) : Int)
        · have := tris_uniq ct hm hs hu hv (hpu'.trans e.symm)
          rw [← this, z, Bool.or_true]
        · rw [decide_eq_false e]
          rfl
    rw [h 0, h 1]
    rcases (tris_ok ct hm hs hu).2.2 with e | e <;> rw [e] <;> rfl
/-- tops that no figure fits -/
def freeT (figs : List Fig) (t : List Int) : Bool := figs.all fun g => !fits t g
def dueOf (figs : List Fig) (n : Nat) : Int := ((topsOf n).map fun t => i01 (freeT figs t)).sum
theorem wsum_due {n : Nat} {figs : List Fig} (ct : CtIn n figs) : wsum figs n (apartUpto figs figs.length) = dueOf figs n := by
  unfold wsum dueOf
  have e1 : ((apartUpto figs figs.length).map fun s => sgn s (cnt figs n s)).sum = ((apartUpto figs figs.length).map fun s => ((topsOf n).map fun t => sgn s (i01 (fitsS figs t s))).sum).sum := sum_congr fun s hs => by
    rw [sgn_mul, ← count_fit ct (Nat.le_refl _) hs, ← sum_mul]
    exact sum_congr fun t _ => (sgn_mul s _).symm
  rw [e1, sum_swap]
  refine sum_congr fun t _ => ?_
  rw [incl ct.ok t figs.length (Nat.le_refl _), List.take_length]
  rfl
theorem dueOf_bound (figs : List Fig) (n : Nat) : 0 ≤ dueOf figs n ∧ dueOf figs n ≤ ((2 ^ n : Nat) : Int) := by
  have gen : ∀ l : List (List Int), 0 ≤ (l.map fun t => i01 (freeT figs t)).sum ∧ (l.map fun t => i01 (freeT figs t)).sum ≤ (l.length : Int) := fun l => by
    induction l with
    | nil => exact ⟨Int.le_refl _, Int.le_refl _⟩
    | cons t l ih =>
      rw [List.map_cons, List.sum_cons, List.length_cons]
      have : 0 ≤ i01 (freeT figs t) ∧ i01 (freeT figs t) ≤ 1 := by cases freeT figs t <;> decide
      omega
  have := gen (topsOf n)
  rw [topsOf_len] at this
  exact this
end Tb
set_option Elab.async false
set_option linter.all false
set_option maxRecDepth 100000
set_option maxHeartbeats 1000000
namespace Tb
open PySem PySem.Spec PyProof.Rows L2 DL
/-! ### plain: what the law counts by hand -/
def tieAt (ties : List (Int × Int)) (k : Nat) : Int × Int := ties.getD k (0, 0)
def goalAt (ties : List (Int × Int)) (t : List Int) (k : Nat) : Int := if t.getD k 0 = 0 then (tieAt ties k).2 else (tieAt ties k).1
def mineL (ties : List (Int × Int)) (p : Int) : List Nat := (List.range ties.length).filter fun k => decide (p ∈ [(tieAt ties k).1, (tieAt ties k).2])
def badP (ties : List (Int × Int)) (t : List Int) (p : Int) : Bool := !decide (mineL ties p = []) && (mineL ties p).all fun k => decide (goalAt ties t k = p)
theorem tie_get {ties : List (Int × Int)} {k : Nat} {tie : Int × Int} (h : ties[k]? = some tie) : tieAt ties k = tie := by
  unfold tieAt
  rw [List.getD_eq_getElem?_getD, h]
  rfl
theorem sinkFig_of {ties : List (Int × Int)} {p : Int} {k : Nat} {tie : Int × Int} (hk : ties[k]? = some tie) (hp : p ∈ [tie.1, tie.2]) : (((k : Nat) : Int), b2i (decide (tie.1 = p)), (1 : Int)) ∈ sinkFig ties p := by
  unfold sinkFig
  refine List.mem_map.mpr ⟨(tie, k), List.mem_filter.mpr ⟨?_, decide_eq_true hp⟩, rfl⟩
  exact List.mem_zipIdx_iff_getElem?.mpr hk
theorem mine_mem {ties : List (Int × Int)} {p : Int} {k : Nat} : k ∈ mineL ties p ↔ ∃ tie, ties[k]? = some tie ∧ p ∈ [tie.1, tie.2] := by
  unfold mineL
  rw [List.mem_filter, List.mem_range]
  constructor
  · rintro ⟨h, hp⟩
    refine ⟨_, List.getElem?_eq_getElem h, ?_⟩
    have := of_decide_eq_true hp
    rw [tie_get (List.getElem?_eq_getElem h)] at this
    exact this
  · rintro ⟨tie, h, hp⟩
    refine ⟨(List.getElem?_eq_some_iff.mp h).1, decide_eq_true ?_⟩
    rw [tie_get h]
    exact hp
theorem mine_nil {ties : List (Int × Int)} {p : Int} : mineL ties p = [] ↔ sinkFig ties p = [] := by
  constructor
  · intro h
    refine List.eq_nil_iff_forall_not_mem.mpr fun u hu => ?_
    obtain ⟨k, tie, hk, hp, _⟩ := sinkFig_mem hu
    have := mine_mem.mpr ⟨tie, hk, hp⟩
    rw [h] at this
    cases this
  · intro h
    refine List.eq_nil_iff_forall_not_mem.mpr fun k hk => ?_
    obtain ⟨tie, hk, hp⟩ := mine_mem.mp hk
    have := sinkFig_of hk hp
    rw [h] at this
    cases this
theorem goal_iff {tie : Int × Int} {p x : Int} (hp : p ∈ [tie.1, tie.2]) (hne : tie.1 ≠ tie.2) (hx : x = 0 ∨ x = 1) : (if x = 0 then tie.2 else tie.1) = p ↔ x = b2i (decide (tie.1 = p)) := by
  by_cases h1 : tie.1 = p
  · rw [decide_eq_true h1]
    rcases hx with e | e <;> subst e
    · rw [if_pos rfl]
      constructor
      · intro z
        exact absurd (h1.trans z.symm) hne
      · intro z
        cases z
    · rw [if_neg (by decide)]
      exact ⟨fun _ => rfl, fun _ => h1⟩
  · have h2 : tie.2 = p := by
      rcases List.mem_cons.mp hp with z | z
      · exact absurd z.symm h1
      · exact (List.mem_singleton.mp z).symm
    rw [decide_eq_false h1]
    rcases hx with e | e <;> subst e
    · rw [if_pos rfl]
      exact ⟨fun _ => rfl, fun _ => h2⟩
    · rw [if_neg (by decide)]
      constructor
      · intro z
        exact absurd z h1
      · intro z
        cases z
theorem top_01 {n : Nat} {t : List Int} (ht : t ∈ topsOf n) (k : Nat) : t.getD k 0 = 0 ∨ t.getD k 0 = 1 := by
  rw [List.getD_eq_getElem?_getD]
  cases h : t[k]? with
  | none => exact .inl rfl
  | some x => exact (topsOf_mem n t ht).2 x (List.mem_of_getElem? h)
theorem badP_eq {n : Nat} {ties : List (Int × Int)} (ok : OkTies n ties) {t : List Int} (ht : t ∈ topsOf ties.length) (p : Int) : badP ties t p = (!decide (sinkFig ties p = []) && fits t (sinkFig ties p)) := by
  unfold badP
  have e1 : decide (mineL ties p = []) = decide (sinkFig ties p = []) := decide_eq_decide.mpr mine_nil
  rw [e1]
  congr 1
  rw [Bool.eq_iff_iff]
  unfold fits
  rw [List.all_eq_true, List.all_eq_true]
  constructor
  · intro h u hu
    obtain ⟨k, tie, hk, hp, rfl⟩ := sinkFig_mem hu
    have := of_decide_eq_true (h k (mine_mem.mpr ⟨tie, hk, hp⟩))
    unfold goalAt at this
    rw [tie_get hk] at this
    exact decide_eq_true ((goal_iff hp (ok.t tie (List.mem_of_getElem? hk)).2.2.2.2 (top_01 ht k)).mp this)
  · intro h k hk
    obtain ⟨tie, hk, hp⟩ := mine_mem.mp hk
    have := of_decide_eq_true (h _ (sinkFig_of hk hp))
    refine decide_eq_true ?_
    unfold goalAt
    rw [tie_get hk]
    exact (goal_iff hp (ok.t tie (List.mem_of_getElem? hk)).2.2.2.2 (top_01 ht k)).mpr this
def badN (ties : List (Int × Int)) (t : List Int) (n : Nat) : Int := ((List.range n).map fun p => i01 (badP ties t ((p : Nat) : Int))).sum
theorem sum_i01 {α : Type} (b : α → Bool) (l : List α) : 0 ≤ (l.map fun x => i01 (b x)).sum ∧ (l.map fun x => i01 (b x)).sum ≤ (l.length : Int) ∧ ((l.map fun x => i01 (b x)).sum = 0 ↔ ∀ x ∈ l, b x = false) := by
  induction l with
  | nil => exact ⟨Int.le_refl _, Int.le_refl _, ⟨fun _ x hx => absurd hx (List.not_mem_nil), fun _ => rfl⟩⟩
  | cons x l ih =>
    rw [List.map_cons, List.sum_cons, List.length_cons]
    obtain ⟨h0, h1, h2⟩ := ih
    cases hb : b x with
    | true =>
      have e : i01 true = 1 := rfl
      rw [e]
      refine ⟨by omega, by omega, ⟨fun z => by omega, fun z => ?_⟩⟩
      have := z x (List.mem_cons_self ..)
      rw [hb] at this
      cases this
    | false =>
      have e : i01 false = 0 := rfl
      rw [e, Int.zero_add]
      refine ⟨h0, by omega, ⟨fun z y hy => ?_, fun z => h2.mpr fun y hy => z y (List.mem_cons_of_mem _ hy)⟩⟩
      rcases List.mem_cons.mp hy with e' | hy
      · rw [e']
        exact hb
      · exact h2.mp z y hy
theorem bad_free {n : Nat} {ties : List (Int × Int)} (ok : OkTies n ties) {t : List Int} (ht : t ∈ topsOf ties.length) : decide (badN ties t n = 0) = freeT (sinkFigs ties n) t := by
  rw [Bool.eq_iff_iff, decide_eq_true_iff]
  unfold badN freeT
  rw [(sum_i01 _ _).2.2, List.all_eq_true]
  unfold sinkFigs sinkAll
  constructor
  · intro h g hg
    obtain ⟨hg, hne⟩ := List.mem_filter.mp hg
    obtain ⟨p, hp, rfl⟩ := List.mem_map.mp hg
    have := h p hp
    rw [badP_eq ok ht, hne, Bool.true_and] at this
    rw [this]
    rfl
  · intro h p hp
    rw [badP_eq ok ht]
    cases hz : !decide (sinkFig ties ((p : Nat) : Int) = []) with
    | false => rfl
    | true =>
      have := h _ (List.mem_filter.mpr ⟨List.mem_map.mpr ⟨p, hp, rfl⟩, hz⟩)
      rw [Bool.true_and]
      cases hf : fits t (sinkFig ties ((p : Nat) : Int)) with
      | false => rfl
      | true =>
        rw [hf] at this
        cases this
theorem sink_d1 (ties : List (Int × Int)) (n : Nat) : Depth1 (sinkFigs ties n) := by
  intro g hg t ht
  obtain ⟨hg, _⟩ := List.mem_filter.mp hg
  obtain ⟨p, _, rfl⟩ := List.mem_map.mp hg
  obtain ⟨k, tie, _, _, rfl⟩ := sinkFig_mem ht
  rfl
theorem sink_ct {n : Nat} {ties : List (Int × Int)} (h : OkTies n ties) : CtIn ties.length (sinkFigs ties n) := ⟨sinkFigs_ok h, sink_d1 ties n, h.l6⟩
theorem cnt_nil (figs : List Fig) (n : Nat) : cnt figs n [] = ((2 ^ n : Nat) : Int) := by
  have h : ∀ n : Nat, (List.range n).foldl (fun (acc : Int) (_ : Nat) => acc * 2) 1 = ((2 ^ n : Nat) : Int) := fun n => by
    induction n with
    | zero => rfl
    | succ n ih =>
      rw [List.range_succ, List.foldl_append, ih, Nat.pow_succ]
      show ((2 ^ n : Nat) : Int) * 2 = _
      rw [Int.natCast_mul]
      rfl
  rw [← h n]
  unfold cnt
  exact foldl_congr fun acc p _ => rfl
/-- no figure of height one is left standing -/
theorem not_stands {figs : List Fig} {rs : Rws} (h : standList rs figs = []) {g : Fig} (hg : g ∈ figs) : standsB rs g = false := by
  cases z : standsB rs g with
  | false => rfl
  | true =>
    exfalso
    obtain ⟨k, hk⟩ := List.mem_iff_getElem?.mp hg
    have : k ∈ standList rs figs := by
      unfold standList
      exact List.mem_map.mpr ⟨(g, k), List.mem_filter.mpr ⟨List.mem_zipIdx_iff_getElem?.mpr hk, z⟩, rfl⟩
    rw [h] at this
    cases this
end Tb
set_option Elab.async false
set_option linter.all false
set_option maxRecDepth 100000
set_option maxHeartbeats 1000000
namespace Tb
open PySem PySem.Spec PyProof.Rows L2 DL
/-! ### law: first helpers -/
theorem o_exR {C : Cc} {r : PySem.W.Frag → R2} {Ta T : Ty} {α : Type} {F : α → Prop} {U : α → Ty} (h : ∀ z, F z → Op2 C r Ta (U z) T) : Op2 C r Ta (tEx F U) T := fun G H x y Q s px ⟨z, fz, py⟩ q => h z fz G H x y Q s px py q
theorem o_exL {C : Cc} {r : PySem.W.Frag → R2} {Tb T : Ty} {α : Type} {F : α → Prop} {U : α → Ty} (h : ∀ z, F z → Op2 C r (U z) Tb T) : Op2 C r (tEx F U) Tb T := fun G H x y Q s ⟨z, fz, px⟩ py q => h z fz G H x y Q s px py q
theorem o_le {C : Cc} {r : PySem.W.Frag → R2} {Ta Tb T T' : Ty} (h : Op2 C r Ta Tb T) (hl : T.le T') : Op2 C r Ta Tb T' := fun G H x y Q s px py q => h G H x y Q s px py fun v G' H' f p => q v G' H' f (hl _ _ _ p)
abbrev tIn (lo hi : Int) : Ty := tEx (fun x : Int => lo ≤ x ∧ x < hi) fun x => tD (.int x)
theorem d_addIn {C : Cc} {Γ : Gm} {a b : Expr} {pos : Pos} {i lo hi : Int} (ha : DE C a Γ (tD (.int i))) (hb : DE C b Γ (tIn lo hi)) : DE C (.BinOp a .Add b pos) Γ (tIn (i + lo) (i + hi)) :=
  d_op (r := fun _ => _) (fun _ _ => op_add) ha hb (o_exR fun x hx => o_le o_rI0 fun K H v p => ⟨i + x, ⟨by omega, by omega⟩, p⟩)
theorem d_modIn {C : Cc} {Γ : Gm} {a b : Expr} {pos : Pos} {j lo hi : Int} (h0 : 0 < j) {F : Int → Prop} (hF : ∀ x, lo ≤ x → x < hi → F (x % j)) (ha : DE C a Γ (tIn lo hi)) (hb : DE C b Γ (tD (.int j))) : DE C (.BinOp a .Mod b pos) Γ (tEx F fun x => tD (.int x)) :=
  d_op (r := fun _ => _) (fun _ _ => op_mod) ha hb (o_exL fun x hx => o_le (o_rI (c := fun _ j => 0 < j) h0) fun K H v p => ⟨x % j, hF x hx.1 hx.2, p⟩)
theorem d_tup2G {C : Cc} {Γ : Gm} {a b : Expr} {pos : Pos} {x1 : Nat} {d : PyData} {α : Type} {F : α → Prop} {dd : α → PyData} (ha : DE C a Γ (tD d)) (hb : DE C b Γ (tEx F fun x => tD (dd x))) (hs : ∀ env : Env, starEach [a, b] env = (false, eval a env) :: starEach [b] env := by intro _; rfl) (hs2 : ∀ env : Env, starEach [b] env = (false, eval b env) :: starEach [] env := by intro _; rfl) : DE C (.Tuple [a, b] x1 pos) Γ (tEx F fun x => tD (.tuple [d, dd x])) := by
  intro X ok G0 W G σ H Q s q
  refine w_pe (pe_tup pa_w) ?_
  refine da_cons ha (da_cons hb da_nil hs2) hs X ok G0 W G σ H _ s fun vs G1 H1 f1 pv => ?_
  cases pv with
  | cons p1 pv =>
    cases pv with
    | cons p2 pv =>
      cases pv
      obtain ⟨z, fz, p2⟩ := p2
      have r : DpAll C.E.K G1 [_, _] [d, dd z] := .cons p1 (.cons p2 .nil)
      refine ⟨small_line (n := 2) (by decide), fun p hp => ?_⟩
      obtain ⟨f, t⟩ := new_tup f1.s hp r
      exact q _ _ _ (f1.trans f) ⟨z, fz, t⟩
/-- a, b = (.., ..) where one name is a cell -/
theorem ds_unp2 {C : Cc} {Γ : Gm} {R : Po} {rest : List Stmt} {pos : Pos} {n1 n2 : Nat} {x1 x2 : Str} {q1 q2 pt pt2 : Pos} {kt k2 : Nat} {e1 e2 : Expr} {S1 S2 : Sl} (h : DAS C [e1, e2] Γ [S1, S2]) (t1 : Sto C n1 x1) (t2 : Sto C n2 x2)
    (hr : DS C rest ((Γ.set n1 (some S1)).set n2 (some S2)) R) (hs : ∀ (env : Env) (l : Nat), swapsWithSole [.Tuple [.Name x1 q1, .Name x2 q2] kt pt] (.Tuple [e1, e2] k2 pt2) l env = pure false := by intro _ _; rfl)
    (hw : ∀ env : Env, env.scope = C.sc → swappedStores [.Tuple [.Name x1 q1, .Name x2 q2] kt pt] (.Tuple [e1, e2] k2 pt2) env = pure none) :
    DS C (.Assign [.Tuple [.Name x1 q1, .Name x2 q2] kt pt] (.Tuple [e1, e2] k2 pt2) pos :: rest) Γ R := fun X ok G0 W G σ H D s f => by
  refine w_ps (pss_cons (ps_asg (pe_tup pa_w) (pg_tup ok.calm (pgs_cons (dg_name t1 X ok) (pgs_cons (dg_name t2 X ok) pgs_nil))) (hs _ _) (hw _ ok.sc)) ps_w) ?_
  refine h X ok G0 W G σ H _ s fun vs G1 H1 f1 pv => ?_
  cases pv with
  | cons p1 pv =>
    cases pv with
    | cons p2 pv =>
      cases pv
      refine ⟨small_line (n := 2) (by decide), fun q hq => ?_⟩
      have f2 : ∀ o : HO, Frm G1 H1 G1 (upd H1 q o) := fun o => Frm.own f1.s hq
      refine ⟨q, _, rfl, SqT.of upd_same, rfl, _, _, rfl, _, _, rfl, rfl, ?_⟩
      exact hr X ok G0 W G1 _ _ D ((((s.step f1).step (f2 _)).put n1 (S1.keep (f2 _) p1)).put n2 (S2.keep (f2 _) p2)) f
end Tb
set_option Elab.async false
set_option linter.all false
set_option maxRecDepth 100000
set_option maxHeartbeats 1000000
namespace Tb
open PySem PySem.Spec PyProof.Rows L2 DL
/-! ### law: the drawn ties -/
section
variable {E : Ev} {f : Addr} {fd : FuncData}
abbrev nLaw : List Str := ["_law_script", "_law_bag_here", "_law_turn", "_law_points", "_law_ties", "_law_k", "_law_one", "_law_book", "_law_many", "_law_due", "_law_tops_here", "_law_goals", "_law_bad", "_law_point", "_law_mine", "_law_my_rows", "_law_board", "_law_row", "_law_shape", "_law_pad", "_law_note", "_law_depth"]
theorem scLaw : FnScope nLaw ["_law_script"] (defScope sLaw) := ⟨rfl, rfl, rfl, by decide +kernel, rfl, by decide +kernel, by decide +kernel⟩
abbrev cLaw (E : Ev) : Cc := defC E nLaw (defScope sLaw) 10
def lawBody : List Stmt := match (defBody sLaw).getD 1 default with
  | .For _ _ b _ _ => b
  | _ => []
def lawFor : List Stmt := match lawBody.getD 3 default with
  | .For _ _ b _ _ => b
  | _ => []
/-- slots: script, bag, turn, points, ties, k, one, and none behind -/
abbrev gA (ns ms : List Int) (t : Int) (rest : List (Option Sl)) : Gm := some (sD (.list (ns.map .int))) :: some (sv (tBag ms)) :: some (sD (.int t)) :: rest
structure Drawn (n : Nat) (ties : List (Int × Int)) (i : Nat) : Prop where
  len : ties.length = i
  t : ∀ t ∈ ties, 0 ≤ t.1 ∧ t.1 < (n : Int) ∧ 0 ≤ t.2 ∧ t.2 < (n : Int) ∧ t.1 ≠ t.2
theorem other {n : Nat} {a y : Int} (h0 : 0 ≤ a) (h1 : a < n) (y0 : a + 1 ≤ y) (y1 : y < a + 1 + (n - 1)) : 0 ≤ y % (n : Int) ∧ y % (n : Int) < n ∧ a ≠ y % (n : Int) := by
  refine ⟨Int.emod_nonneg _ (by omega), Int.emod_lt_of_pos _ (by omega), ?_⟩
  by_cases h : y < n
  · rw [Int.emod_eq_of_lt (by omega) h]
    omega
  · have : y % (n : Int) = (y - n) % (n : Int) := by
      rw [Int.sub_emod, Int.emod_self, Int.sub_zero, Int.emod_emod]
    rw [this, Int.emod_eq_of_lt (by omega) (by omega)]
    omega
theorem ds_draw {R : Po} {ns ms : List Int} {t : Int} (hr : E.mg "range" = none) (KP : Kn E 1 "_law_pull" rLawPull)
    (h : ∀ (n : Nat) (ties : List (Int × Int)), OkTies n ties → DS (cLaw E) (lawBody.drop 2) (gA ns ms t [some (sD (.int (n : Nat))), some (so (ties.map eTie)), none, none, none, none, none, none, none, none, none, none, none, none, none, none, none, none, none]) R) :
    DS (cLaw E) lawBody (gA ns ms t [none, none, none, none, none, none, none, none, none, none, none, none, none, none, none, none, none, none, none]) R := by
  have nd := scLaw.nd
  refine ds_unp2 (das_cons (d_addIn (lo := 0) (hi := 6) d_int ((cl2 KP (dv 1) d_int ⟨ms, 6, rfl, by decide, by decide, rfl⟩).le upTo_le)) (das_consO (do_lst dd_nil) das_nil)) (stn 3) (stn 4) ?_ (by intro _ _; rfl) (fun env h => by cases env; cases h; rfl)
  refine ds_open (Γ := gA ns ms t [none, some (so []), none, none, none, none, none, none, none, none, none, none, none, none, none, none, none, none, none]) (n := 3) (Nat.le_of_ble_eq_true rfl) fun z hz => ?_
  obtain ⟨n, rfl⟩ := Int.eq_ofNat_of_zero_le (by omega : 0 ≤ z)
  have n2 : 2 ≤ n := by omega
  have n7 : n ≤ 7 := by omega
  refine ds_forG (F := fun ds => ∃ x : Int, (1 ≤ x ∧ x < 7) ∧ ds = upD 0 x.toNat) (di_range1G (F := fun x : Int => 1 ≤ x ∧ x < 7) (isb hr) (d_addIn (lo := 0) (hi := 6) d_int ((cl2 KP (dv 1) d_int ⟨ms, 6, rfl, by decide, by decide, rfl⟩).le upTo_le)) (fun x h => ⟨by omega, by omega⟩)) (dg_name (stn 5))
    (fun ds i Γ => ∃ (ties : List (Int × Int)) (a b : Option Sl), Drawn n ties i ∧ i ≤ 6 ∧ Γ = gA ns ms t [some (sD (.int (n : Nat))), some (so (ties.map eTie)), none, none, none, none, none, none, none, none, none, none, none, none, none, none, none, none, none]) (fun ds _ => ⟨[], none, none, ⟨rfl, fun t h => by cases h⟩, by decide, rfl⟩) ?_ ?_
  · rintro ds i d Γ1 ⟨x, hx, rfl⟩ hd ⟨ties, a, b, hti, hi6, rfl⟩
    have hi := (List.getElem?_eq_some_iff.mp hd).1
    rw [upD_len] at hi
    refine ⟨_, _, gr_name, ?_⟩
    refine ds_set ((cl2 KP (dv 1) (dv 3) ⟨ms, n, rfl, by omega, by omega, rfl⟩).le upTo_le) (stn 6) ?_
    refine ds_open (n := 6) (Nat.le_of_ble_eq_true rfl) fun o ho => ?_
    refine ds_appG (n := 4) (F := fun y : Int => 0 ≤ y ∧ y < (n : Int) ∧ o ≠ y) (dd := fun y => .tuple [.int o, .int y]) rfl rfl (Or.inr (Or.inl rfl)) (d_tup2G (dv 6) (d_modIn (lo := o + 1 + 0) (hi := o + 1 + ((n : Int) - 1)) (by omega) (fun y h0 h1 => other ho.1 ho.2 (by omega) h1) (d_addIn (d_add (dv 6) d_int) ((cl2 KP (dv 1) (d_sub (dv 3) d_int) ⟨ms, (n : Int) - 1, rfl, by omega, by omega, rfl⟩).le upTo_le)) (dv 3))) rfl ?_ fun y hy => ?_
    · rw [List.length_map, hti.len]
      omega
    · refine ds_nil ⟨ties ++ [(o, y)], none, none, ⟨by rw [List.length_append, hti.len]; rfl, fun q hq => ?_⟩, by omega, rfl⟩ ⟨rfl, rfl, rfl, rfl, ?_, trivial⟩
      · rcases List.mem_append.mp hq with hq | hq
        · exact hti.t q hq
        · rw [List.mem_singleton.mp hq]
          exact ⟨ho.1, ho.2, hy⟩
      · rw [List.map_append]
        rfl
  · rintro ds Γ1 ⟨x, hx, rfl⟩ ⟨ties, a, b, hti, hi6, rfl⟩
    have hl := hti.len
    rw [upD_len] at hl
    exact h n ties ⟨by omega, n7, by omega, by omega, hti.t⟩
end
end Tb
set_option Elab.async false
set_option linter.all false
set_option maxRecDepth 100000
set_option maxHeartbeats 1000000
namespace Tb
open PySem PySem.Spec PyProof.Rows L2 DL
/-! ### law: one top, counted by hand -/
section
variable {E : Ev} {f : Addr} {fd : FuncData}
abbrev gB (A : Addr) (ns ms : List Int) (t : Int) (n : Nat) (ties : List (Int × Int)) (due : Int) (rest : List (Option Sl)) : Gm :=
  gA ns ms t (some (sD (.int (n : Nat))) :: some (sv (tL (ties.map eTie))) :: none :: none :: some (sv (bkT A (twos ties.length) (sinkFigs ties n))) :: some (sD (.int (ties.length : Nat))) :: some (sD (.int due)) :: rest)
theorem tie_look {ties : List (Int × Int)} {k : Nat} (h : k < ties.length) : (ties.map eTie)[k]? = some (eTie (tieAt ties k)) := by
  rw [List.getElem?_map, List.getElem?_eq_getElem h]
  unfold tieAt
  rw [List.getD_eq_getElem?_getD, List.getElem?_eq_getElem h]
  rfl
theorem ds_top {A : Addr} {R : Po} {ns ms : List Int} {tn : Int} {n : Nat} {ties : List (Int × Int)} {due : Int} {t : List Int} (hr : E.mg "range" = none) (hi : E.mg "int" = none) (ha : E.mg "all" = none) (ok : OkTies n ties) (ht : t ∈ topsOf ties.length)
    (h : R.nx (gB A ns ms tn n ties (due + i01 (freeT (sinkFigs ties n) t)) [none, none, none, none, none, none, none, none, none, none, none, none])) :
    DS (cLaw E) lawFor (gB A ns ms tn n ties due [some (sD (tIs t)), none, none, none, none, none, none, none, none, none, none, none]) R := by
  have nd := scLaw.nd
  have l6 := ok.l6
  have n7 := ok.n7
  have htl := (topsOf_mem _ t ht).1
  refine ds_set (lc_map (fun k : Nat => .int (0 + (k : Nat))) (List.range ties.length) (fun k => .int (goalAt ties t k)) [("_law_k", 5)] (di_range1 (i := (ties.length : Nat)) (isb hr) (dv 8) (by omega) (by omega)) nd (dg_name (stn 5)) (by rw [List.length_range]; omega) fun k hk => ⟨_, gr_name, ?_⟩) (stn 11) ?_ (hs := fun env l h => by cases env; cases h; rfl)
  · have hk' := List.mem_range.mp hk
    have hx : atI (t.map PyData.int) (0 + (k : Nat)) = some (.int (t.getD k 0)) := at_nat (j := k) (by omega) (by
      rw [List.getElem?_map, List.getD_eq_getElem?_getD, List.getElem?_eq_getElem (by omega)]
      rfl)
    have hz : ∀ {T : Ty}, atI (ties.map eTie) (0 + (k : Nat)) = some (eTie (tieAt ties k)) := at_nat (j := k) (by omega) (tie_look hk')
    refine d_if (k := decide (t.getD k 0 = 0)) (dt_eqI (d_ixT (dv 10) (dv 5) hx) d_int) (fun e => ?_) (fun e => ?_)
    · refine DE.is (d_ixT (d := .int (tieAt ties k).2) (d_ixL (DE.w (dv 4)) (dv 5) (hz (T := tD .none))) d_int rfl) ?_
      unfold goalAt
      rw [if_pos (of_decide_eq_true e)]
    · refine DE.is (d_ixT (d := .int (tieAt ties k).1) (d_ixL (DE.w (dv 4)) (dv 5) (hz (T := tD .none))) d_int rfl) ?_
      unfold goalAt
      rw [if_neg (of_decide_eq_false e)]
  refine ds_set d_int (stn 12) ?_
  refine ds_for (di_range1 (i := (n : Nat)) (isb hr) (dv 3) (by omega) (by omega)) (dg_name (stn 13)) (fun i Γ => Γ = gB A ns ms tn n ties due [some (sD (tIs t)), some (sv (tL ((List.range ties.length).map fun k => .int (goalAt ties t k)))), some (sD (.int (badN ties t i))), none, none, none, none, none, none, none, none, none]) rfl ?_ ?_
  · rintro i d Γ1 hd rfl
    obtain ⟨hin, rfl⟩ := upD_get hd
    refine ⟨_, _, gr_name, ?_⟩
    refine ds_lcI 14 (fun k : Nat => .int (0 + (k : Nat))) (List.range ties.length) (fun k => decide (((i : Nat) : Int) ∈ [(tieAt ties k).1, (tieAt ties k).2])) (fun k => .int (0 + (k : Nat))) [("_law_k", 5)] (di_range1 (i := (ties.length : Nat)) (isb hr) (dv 8) (by omega) (by omega)) nd (dg_name (stn 5)) (by rw [List.length_range]; omega) (fun k hk => ⟨_, gr_name, ?_, fun _ => dv 5⟩) ?_ (stn 14)
    · exact dt_inT (i := ((i : Nat) : Int)) (ns := [(tieAt ties k).1, (tieAt ties k).2]) ((dv 13 : DE _ _ _ (tD (.int (0 + ((i : Nat) : Int))))).is (by rw [Int.zero_add])) (d_ixL (d := eTie (tieAt ties k)) (DE.w (dv 4)) (dv 5) (at_nat (j := k) (by omega) (tie_look (List.mem_range.mp hk)))) (by with_unfolding_all rfl)
    refine ds_set (d_add (dv 12) (d_intB (k := badP ties t ((i : Nat) : Int)) (by intro _; rfl) (isb hi) (d_and (k := !decide (mineL ties ((i : Nat) : Int) = [])) (l := (mineL ties ((i : Nat) : Int)).all fun k => decide (goalAt ties t k = ((i : Nat) : Int))) ((d_ne (d := lI (zs (mineL ties ((i : Nat) : Int)))) (shaped_ints _) shaped_lnil ((DE.w (dv 14)).is ?_) (d_lst dd_nil)).is ?_) fun _ => d_one (DE.is (allL (bs := (mineL ties ((i : Nat) : Int)).map fun k => decide (goalAt ties t k = ((i : Nat) : Int))) ha (DE.isL (lc_map (fun k : Nat => .int (0 + (k : Nat))) (mineL ties ((i : Nat) : Int)) (fun k => .bool (decide (goalAt ties t k = ((i : Nat) : Int)))) [("_law_k", 5)] (di_list (DE.w (dv 14))) nd (dg_name (stn 5)) ?_ fun k hk => ⟨_, gr_name, ?_⟩) (by rw [List.map_map]; rfl))) (by rw [List.all_map]; rfl))))) (stn 12) ?_
    · show _ = PyData.list ((zs (mineL ties ((i : Nat) : Int))).map .int)
      unfold zs
      rw [List.map_map (g := PyData.int)]
      refine congrArg PyData.list (List.map_congr_left fun k _ => ?_)
      show PyData.int (0 + (k : Nat)) = .int (k : Nat)
      rw [Int.zero_add]
    · rw [eqv_ints_nil]
      have : decide (zs (mineL ties ((i : Nat) : Int)) = []) = decide (mineL ties ((i : Nat) : Int) = []) := decide_eq_decide.mpr (by
        unfold zs
        exact List.map_eq_nil_iff)
      rw [this]
    · have : (mineL ties ((i : Nat) : Int)).length ≤ ties.length := by
        have := List.length_filter_le (fun k => decide (((i : Nat) : Int) ∈ [(tieAt ties k).1, (tieAt ties k).2])) (List.range ties.length)
        rw [List.length_range] at this
        exact this
      omega
    · obtain ⟨tie, hk', _⟩ := mine_mem.mp hk
      have hlt := (List.getElem?_eq_some_iff.mp hk').1
      exact d_eqI (d_ixL (d := .int (goalAt ties t k)) (DE.w (dv 11)) (dv 5) (at_nat (j := k) (by omega) (by rw [List.getElem?_map, List.getElem?_range hlt]; rfl))) ((dv 13 : DE _ _ _ (tD (.int (0 + ((i : Nat) : Int))))).is (by rw [Int.zero_add]))
    · refine ds_nil rfl ⟨rfl, rfl, rfl, rfl, rfl, rfl, rfl, rfl, rfl, rfl, ?_, trivial⟩
      unfold badN
      rw [List.range_succ, List.map_append, sum_app]
      show some (sD (.int (_ + if badP ties t ((i : Nat) : Int) = true then 1 else 0))) = some (sD (.int (_ + (i01 (badP ties t ((i : Nat) : Int)) + 0))))
      rw [Int.add_zero]
      rfl
  · rintro Γ1 rfl
    rw [upD_len, Int.toNat_natCast]
    refine ds_set (d_add (dv 9) (d_intB (by intro _; rfl) (isb hi) (d_eqI (dv 12) d_int))) (stn 9) ?_
    refine ds_nil h ⟨rfl, rfl, rfl, rfl, rfl, rfl, rfl, ?_, trivial⟩
    have e := bad_free ok ht
    show some (sD (.int (due + if decide (badN ties t n = 0) = true then 1 else 0))) = _
    rw [e]
    rfl
end
end Tb
set_option Elab.async false
set_option linter.all false
set_option maxRecDepth 100000
set_option maxHeartbeats 1000000
namespace Tb
open PySem PySem.Spec PyProof.Rows L2 DL
/-! ### law: the book, and what is due -/
section
variable {E : Ev} {f : Addr} {fd : FuncData}
theorem ds_due {A : Addr} {R : Po} {ns ms : List Int} {t : Int} {n : Nat} {ties : List (Int × Int)} (hr : E.mg "range" = none) (hi : E.mg "int" = none) (ha : E.mg "all" = none) (hl : E.mg "len" = none) (KS : Kn E 6 "sinks" (rSinks A)) (KT : Kn E 1 "_law_tops" rLawTops) (ok : OkTies n ties)
    (h : DS (cLaw E) (lawBody.drop 4) (gB A ns ms t n ties (dueOf (sinkFigs ties n) ties.length) [none, none, none, none, none, none, none, none, none, none, none, none]) R) :
    DS (cLaw E) (lawBody.drop 2) (gA ns ms t [some (sD (.int (n : Nat))), some (so (ties.map eTie)), none, none, none, none, none, none, none, none, none, none, none, none, none, none, none, none, none]) R := by
  have nd := scLaw.nd
  have l6 := ok.l6
  refine ds_freeze (n := 4) rfl rfl ?_
  refine ds_par3 (das_cons (cl2 KS (dv 3) (DE.w (dv 4)) ⟨n, ties, rfl, ok, rfl⟩) (das_cons ((lenL (ds := ties.map eTie) hl (DE.w (dv 4))).is (d' := .int (ties.length : Nat)) (by rw [List.length_map])) (das_cons d_int das_nil))) (stn 7) (stn 8) (stn 9) (by decide) (by decide) (by decide) rfl rfl rfl ?_ (fun env h => by cases env; cases h; rfl)
  refine ds_for (ds := (topsOf ties.length).map tIs) (di_list (DE.w (cl1 KT (DE.is (DE.w (do_rep1 (es := []) (d := .int 2) (i := (ties.length : Nat)) (by omega) (by omega) d_int (dv 8)).l) (by rw [Int.toNat_natCast])) ⟨ties.length, rfl, l6, rfl⟩))) (dg_name (stn 10)) (fun i Γ => Γ = gB A ns ms t n ties (((topsOf ties.length).take i).map fun u => i01 (freeT (sinkFigs ties n) u)).sum [none, none, none, none, none, none, none, none, none, none, none, none]) rfl ?_ ?_
  · rintro i d Γ1 hd rfl
    rw [List.getElem?_map] at hd
    obtain ⟨u, hu, rfl⟩ := Option.map_eq_some_iff.mp hd
    refine ⟨_, _, gr_name, ds_top hr hi ha ok (List.mem_of_getElem? hu) ?_⟩
    show gB A ns ms t n ties _ _ = gB A ns ms t n ties _ _
    rw [List.take_add_one, hu, List.map_append, sum_app]
    show gB A ns ms t n ties _ _ = gB A ns ms t n ties (_ + (_ + 0)) _
    rw [Int.add_zero]
  · rintro Γ1 rfl
    rw [List.length_map, List.take_length]
    exact h
end
end Tb
set_option Elab.async false
set_option linter.all false
set_option maxRecDepth 100000
set_option maxHeartbeats 1000000
namespace Tb
open PySem PySem.Spec PyProof.Rows L2 DL
/-! ### law: clear and clear_weight against the due number -/
section
variable {E : Ev} {f : Addr} {fd : FuncData}
theorem ds_like {A : Addr} {R : Po} {ns ms : List Int} {t : Int} {n : Nat} {ties : List (Int × Int)} (KI : Kn E 1 "_law_like" rLikeI) (KT : Kn E 2 "_law_like" rLikeT) (KC : Kn E 4 "clear" (rClear A)) (KW : Kn E 4 "clear_weight" (rClearWeight A)) (KL : Kn E 1 "_law_lowest" rLawLowest) (KP : Kn E 1 "_law_power" rLawPower) (ok : OkTies n ties)
    (h : DS (cLaw E) (lawBody.drop 6) (gB A ns ms t n ties (dueOf (sinkFigs ties n) ties.length) [none, none, none, none, none, none, none, none, none, none, none, none]) R) :
    DS (cLaw E) (lawBody.drop 4) (gB A ns ms t n ties (dueOf (sinkFigs ties n) ties.length) [none, none, none, none, none, none, none, none, none, none, none, none]) R := by
  have nd := scLaw.nd
  have l6 := ok.l6
  have ct := sink_ct ok
  obtain ⟨b0, b1⟩ := dueOf_bound (sinkFigs ties n) ties.length
  have p6 : 2 ^ ties.length ≤ 2 ^ 6 := Nat.pow_le_pow_right (by decide) l6
  have p0 : 0 < 2 ^ ties.length := Nat.pow_pos (by decide)
  have ep : ((2 ^ ties.length : Nat) : Int) = (2 : Int) ^ ties.length := by
    rw [Int.natCast_pow]
    rfl
  refine ds_pass ((dt_not (tv (cl2 KI (cl2 KC (dv 7) (DE.is (DE.w (do_rep1 (es := []) (d := .int 1) (i := (ties.length : Nat)) (by omega) (by omega) d_int (dv 8)).l) (by rw [Int.toNat_natCast, rep_range])) ⟨ties.length, sinkFigs ties n, rfl, ct, rfl⟩) (dv 9) ⟨_, _, rfl, rfl⟩))).is ?_) ?_
  · rw [wsum_due ct, decide_eq_true rfl]
    rfl
  refine ds_pass ((dt_not (tv (cl2 KT (cl2 KW (dv 7) (DE.is (DE.w (do_rep1 (es := []) (d := lI [1, 1]) (i := (ties.length : Nat)) (by omega) (by omega) (d_lst (dd_cons d_int (dd_cons d_int dd_nil))) (dv 8)).l) (by rw [Int.toNat_natCast, rep_range])) ⟨ties.length, sinkFigs ties n, dueOf (sinkFigs ties n) ties.length, ((2 ^ ties.length : Nat) : Int), rfl, ct, (wsum_due ct).symm, (cnt_nil _ _).symm, b0, by omega, by omega, by omega, rfl⟩) (cl2 KL (dv 9) (cl2 KP d_int (dv 8) ⟨ties.length, rfl, by omega, rfl⟩) ⟨dueOf (sinkFigs ties n) ties.length, (2 : Int) ^ ties.length, rfl, b0, by omega, by omega, by omega, rfl⟩) ⟨_, _, by rw [ep], rfl⟩))).is rfl) ?_
  exact h
end
end Tb
set_option Elab.async false
set_option linter.all false
set_option maxRecDepth 100000
set_option maxHeartbeats 1000000
namespace Tb
open PySem PySem.Spec PyProof.Rows L2 DL
/-! ### law: the board -/
section
variable {E : Ev} {f : Addr} {fd : FuncData}
theorem ds_board {A B : Addr} {R : Po} {ns ms : List Int} {t : Int} {n : Nat} {ties : List (Int × Int)} {due : Int} (bc : BrC E B) (KR : Kn E 2 "_law_rows" rLawRows) (KC : Kn E 1 "_law_copy" rLawCopy) (KB : KnI E 4 "Board" B "rows" (rBoardInit A)) (KS : KnU E 9 B "settle" [tD (.int 20000)] (rBoardSettle A)) (ok : OkTies n ties)
    (h : ∀ rs' : Rws, standList rs' (sinkFigs ties n) = [] → rs'.length = ties.length → DS (cLaw E) (lawBody.drop 9) (gB A ns ms t n ties due [none, none, none, none, none, none, some (sv (brT B rs')), none, none, none, none, none]) R) :
    DS (cLaw E) (lawBody.drop 6) (gB A ns ms t n ties due [none, none, none, none, none, none, none, none, none, none, none, none]) R := by
  have nd := scLaw.nd
  have l6 := ok.l6
  have ct := sink_ct ok
  refine ds_set (cl4 KR (dv 1) (DE.is (DE.w (do_rep1 (es := []) (d := .int 2) (i := (ties.length : Nat)) (by omega) (by omega) d_int (dv 8)).l) (by rw [Int.toNat_natCast])) d_int d_int ⟨ms, ties.length, rfl, l6, rfl⟩) (stn 15) ?_
  refine ds_open (n := 15) (Nat.le_of_ble_eq_true rfl) fun rs hrs => ?_
  have bd : BrData (twos ties.length) (sinkFigs ties n) rs := ⟨⟨ct.ok, by rw [hrs.len, twos_len], fun l hl => (hrs.row l hl).1⟩, fun k c l hc hl x hx => by
    rw [List.eq_of_mem_replicate (List.mem_of_getElem? hc)]
    exact (hrs.row l (List.mem_of_getElem? hl)).2 x hx⟩
  have hl := hrs.len
  refine ds_setI (ds_mkI KB (dv 7) (DE.w (cl1 KC (DE.w (dv 15)) ⟨rs, rfl, by omega, rfl⟩)) ⟨twos ties.length, sinkFigs ties n, rs, rfl, rfl, bd, rfl, rfl⟩) (stn 16) ?_
  refine ds_exprU (d_methU0 KS 16 ⟨twos ties.length, sinkFigs ties n, rs, 20000, rfl, rfl, bd.br, by decide, rfl, rfl⟩) ?_
  refine ds_openI 16 rfl fun rs' hs => ?_
  refine ds_freezeI (n := 16) (names := brNames) (tys := [("now", tD (eRows rs'))]) rfl rfl namesOk_map (tysOf_cons rfl tysOf_nil) ?_
  refine ds_weak (Γ' := gB A ns ms t n ties due [none, none, none, none, none, none, some (sv (brT B rs')), none, none, none, none, none]) ⟨rfl, rfl, rfl, rfl, rfl, rfl, rfl, rfl, rfl, trivial⟩ (h rs' hs.1 (by rw [hs.2, twos_len]))
end
end Tb
set_option Elab.async false
set_option linter.all false
set_option maxRecDepth 100000
set_option maxHeartbeats 1000000
namespace Tb
open PySem PySem.Spec PyProof.Rows L2 DL
/-! ### law: no figure stands on the settled rows -/
theorem shaped_tints (l : List Int) : SeqAt.shaped (tIs l) = true := by
  have h1 : ∀ l : List Int, PyData.depthAll (l.map .int) = 0 := PySem.W.depth_ints
  unfold SeqAt.shaped
  rw [Bool.and_eq_true]
  constructor
  · show PyData.canLay0 (.tuple (l.map .int)) = true
    have : ∀ l : List Int, PyData.canLayAll0 (l.map .int) = true := fun l => by
      induction l with
      | nil => simp [PyData.canLayAll0]
      | cons t g ih => simp [PyData.canLayAll0, PyData.canLay0] ; exact ih
    simp [PyData.canLay0, this]
  · refine decide_eq_true ?_
    show PyData.depth (.tuple (l.map .int)) ≤ 64
    simp [PyData.depth, h1]
theorem eqv_top (l : List Int) (a : Int) : PyData.eqv (tIs (l.take 1)) (tIs [a]) = decide (l.take 1 = [a]) := by
  cases l with
  | nil => simp [PyData.eqv, PyData.eqvAll]
  | cons t g =>
    simp [PyData.eqv, PyData.eqvAll]
    by_cases z : t = a <;> simp [z]
theorem cut1 (l : List Int) : DL.cutD (l.map .int) none (some 1) = (l.take 1).map .int := by
  cases l with
  | nil => rfl
  | cons x l =>
    unfold DL.cutD
    show ((List.map PyData.int (x :: l)).drop 0).take _ = _
    have e : HT.sIx (List.map PyData.int (x :: l)).length (List.map PyData.int (x :: l)).length (some 1) = 1 := by
      unfold HT.sIx
      rw [List.length_map, List.length_cons]
      simp
    rw [e]
    rfl
def topFit (rs : Rws) (g : Fig) : Bool := g.all fun u => decide ((rowAt rs u.1).take 1 = [u.2.1])
theorem top_stands {rs : Rws} {g : Fig} (hd : ∀ u ∈ g, u.2.2 = 1) (h : topFit rs g = true) : standsB rs g = true := by
  unfold standsB
  refine List.all_eq_true.mpr fun u hu => ?_
  have := of_decide_eq_true (List.all_eq_true.mp h u hu)
  unfold stB
  rw [hd u hu]
  cases e : rowAt rs u.1 with
  | nil =>
    rw [e] at this
    cases this
  | cons x l =>
    rw [e] at this
    have hx : x = u.2.1 := (List.cons.inj this).1
    rw [Bool.and_eq_true]
    refine ⟨decide_eq_true ?_, decide_eq_true hx⟩
    rw [List.length_cons]
    omega
section
variable {E : Ev} {f : Addr} {fd : FuncData}
theorem ds_tops {A B : Addr} {R : Po} {ns ms : List Int} {t : Int} {n : Nat} {ties : List (Int × Int)} {due : Int} {rs : Rws} (ha : E.mg "all" = none) (KR : KnM E 1 B "rows" (rBoardRows B)) (KF : KnM E 1 A "figures" (rBookFigures A)) (ok : OkTies n ties) (hs : standList rs (sinkFigs ties n) = []) (hl : rs.length = ties.length)
    (h : R.nx (some (sD (.list (ns.map .int))) :: some (sv (tBag ms)) :: [none, none, none, none, none, none, none, none, none, none, none, none, none, none, none, none, none, none, none, none])) :
    DS (cLaw E) (lawBody.drop 9) (gB A ns ms t n ties due [none, none, none, none, none, none, some (sv (brT B rs)), none, none, none, none, none]) R := by
  have nd := scLaw.nd
  have l6 := ok.l6
  have okb := sinkFigs_ok ok
  refine ds_set (lc_map eR rs (fun l => tIs (l.take 1)) [("_law_row", 17)] (di_list (DE.w (me0 KR (dv 16) insI ⟨rs, rfl, rfl⟩))) nd (dg_name (stn 17)) (by omega) fun l _ => ⟨_, gr_name, (d_slT (ds := l.map .int) (l := none) (u := some 1) (d_ixT (d := eIt l) (dv 17) d_int rfl) do_none (do_some d_int)).is (by rw [cut1])⟩) (stn 10) ?_ (hs := fun env l h => by cases env; cases h; rfl)
  refine ds_weak (Γ' := gB A ns ms t n ties due [some (sv (tL (rs.map fun l => tIs (l.take 1)))), none, none, none, none, none, none, none, none, none, none, none]) ⟨rfl, rfl, rfl, rfl, rfl, rfl, rfl, rfl, rfl, trivial⟩ ?_
  refine ds_for (ds := (sinkFigs ties n).map eF) (di_list (DE.w (me0 KF (dv 7) insI ⟨_, _, rfl, rfl⟩))) (dg_name (stn 18)) (fun i Γ => Γ = gB A ns ms t n ties due [some (sv (tL (rs.map fun l => tIs (l.take 1)))), none, none, none, none, none, none, none, none, none, none, none]) rfl ?_ ?_
  · rintro i d Γ1 hd rfl
    rw [List.getElem?_map] at hd
    obtain ⟨g, hg, rfl⟩ := Option.map_eq_some_iff.mp hd
    have hgm := List.mem_of_getElem? hg
    have okg := okb.fig g hgm
    have hf : topFit rs g = false := by
      cases z : topFit rs g with
      | false => rfl
      | true =>
        have := top_stands (sink_d1 ties n g hgm) z
        rw [not_stands hs hgm] at this
        cases this
    refine ⟨_, _, gr_name, ?_⟩
    refine ds_pass ((tv (allL (bs := g.map fun u => decide ((rowAt rs u.1).take 1 = [u.2.1])) ha (DE.isL (lc_map eT g (fun u => .bool (decide ((rowAt rs u.1).take 1 = [u.2.1]))) [("_law_pad", 19), ("_law_note", 20), ("_law_depth", 21)] (di_tup (dv 18 : DE _ _ _ (tD (eF g)))) nd (dg_tup3 (stn 19) (stn 20) (stn 21)) ?_ fun u hu => ⟨_, gr_tup3, ?_⟩) (by rw [List.map_map]; rfl)))).is ?_) ?_
    · have := okb.g6 hgm
      omega
    · have okt := okg.tri u hu
      have hlt := okt.lt
      have h0 := okt.p0
      rw [twos_len] at hlt
      have hx : (rs.map fun l => tIs (l.take 1))[u.1.toNat]? = some (tIs ((rowAt rs u.1).take 1)) := by
        rw [List.getElem?_map, List.getElem?_eq_getElem (by omega)]
        unfold rowAt
        rw [List.getD_eq_getElem?_getD, List.getElem?_eq_getElem (by omega)]
        rfl
      exact (d_eq (d := tIs ((rowAt rs u.1).take 1)) (d' := tIs [u.2.1]) (shaped_tints _) (shaped_tints _) (d_ixL (DE.w (dv 10)) (dv 19) (at_int h0 hx)) (d_tup (dd_cons (dv 20) dd_nil))).is (by rw [eqv_top])
    · rw [List.all_map]
      exact hf
    · exact ds_nil rfl ⟨rfl, rfl, rfl, rfl, rfl, rfl, rfl, rfl, rfl, trivial⟩
  · rintro Γ1 rfl
    exact ds_nil h ⟨rfl, rfl, trivial⟩
end
end Tb
set_option Elab.async false
set_option linter.all false
set_option maxRecDepth 100000
set_option maxHeartbeats 1000000
namespace Tb
open PySem PySem.Spec PyProof.Rows L2 DL
/-! ### law -/
section
variable {E : Ev} {f : Addr} {fd : FuncData}
def rLaw : List Ty → Ty → Prop := fun Ts T => ∃ ns : List Int, ns.length ≤ 1000 ∧ Ts = [tD (.list (ns.map .int))] ∧ T = tD (.bool true)
/-- what law leans on -/
structure LawK (E : Ev) (A B : Addr) : Prop where
  hr : E.mg "range" = none
  hi : E.mg "int" = none
  ha : E.mg "all" = none
  hl : E.mg "len" = none
  bag : Kn E 1 "_law_bag" rLawBag
  pull : Kn E 1 "_law_pull" rLawPull
  sinks : Kn E 6 "sinks" (rSinks A)
  tops : Kn E 1 "_law_tops" rLawTops
  likeI : Kn E 1 "_law_like" rLikeI
  likeT : Kn E 2 "_law_like" rLikeT
  clear : Kn E 4 "clear" (rClear A)
  weight : Kn E 4 "clear_weight" (rClearWeight A)
  lowest : Kn E 1 "_law_lowest" rLawLowest
  power : Kn E 1 "_law_power" rLawPower
  bc : BrC E B
  rows : Kn E 2 "_law_rows" rLawRows
  copy : Kn E 1 "_law_copy" rLawCopy
  board : KnI E 4 "Board" B "rows" (rBoardInit A)
  settle : KnU E 9 B "settle" [tD (.int 20000)] (rBoardSettle A)
  brows : KnM E 1 B "rows" (rBoardRows B)
  figs : KnM E 1 A "figures" (rBookFigures A)
theorem ok_law {A B : Addr} (K : LawK E A B) (F : FnP E.K "law" sLaw f fd) : Ok E 11 f fd ["_law_script"] rLaw := by
  refine defOk F scLaw (fun Ts T ⟨_, _, e, _⟩ => by subst e; rfl) ?_
  rintro Ts T ⟨ns, hns, rfl, rfl⟩
  have nd := scLaw.nd
  refine ds_set (cl1 K.bag (dv 0) ⟨ns, hns, rfl, rfl⟩) (stn 1) ?_
  refine ds_open (n := 1) (Nat.le_of_ble_eq_true rfl) fun ms _ => ?_
  refine ds_for (di_range1 (i := 3) (isb K.hr) d_int (by decide) (by decide)) (dg_name (stn 2)) (fun i Γ => Γ = some (sD (.list (ns.map .int))) :: some (sv (tBag ms)) :: [none, none, none, none, none, none, none, none, none, none, none, none, none, none, none, none, none, none, none, none]) rfl ?_ ?_
  · rintro i d Γ1 hd rfl
    obtain ⟨hi, rfl⟩ := upD_get hd
    refine ⟨_, _, gr_name, ?_⟩
    refine ds_draw K.hr K.pull fun n ties ok => ?_
    refine ds_due K.hr K.hi K.ha K.hl K.sinks K.tops ok ?_
    refine ds_like K.likeI K.likeT K.clear K.weight K.lowest K.power ok ?_
    refine ds_board K.bc K.rows K.copy K.board K.settle ok fun rs hs hlen => ?_
    exact ds_tops K.ha K.brows K.figs ok hs hlen rfl
  · rintro Γ1 rfl
    exact ds_ret d_bl (Ty.le_refl _)
end
end Tb
set_option Elab.async false
set_option linter.all false
set_option maxRecDepth 100000
set_option maxHeartbeats 1000000
namespace Tb
open PySem PySem.Spec PyProof.Rows L2 DL
/-! ### what the head gives -/
structure Hd (E : Ev) : Prop where
  ns : ∃ h : Heap, E.K.In h ∧ h.Ns mainGlobals E.mg
  c : He.SaysD fa fn E.K
section
variable {E : Ev}
theorem Hd.glo (d : Hd E) {x : Str} (i : Nat) (e : fa[i]? = some (.glo x) := by rfl) : E.mg x = some (.ref (He.ga E.K x)) := by
  obtain ⟨h, X, G⟩ := d.ns
  exact He.glo_ok X G (d.c.fact i e)
theorem Hd.free (d : Hd E) {x : Str} (i : Nat) (e : fa[i]? = some (.free x) := by rfl) : E.mg x = none := by
  obtain ⟨h, X, G⟩ := d.ns
  exact He.free_ok X G (d.c.fact i e)
theorem Hd.int (d : Hd E) {x : Str} {n : Int} (i : Nat) (e : fa[i]? = some (.int x n) := by rfl) : ∃ t, E.mg x = some (.int n t) := by
  obtain ⟨h, X, G⟩ := d.ns
  exact He.int_ok X G (d.c.fact i e)
theorem Hd.cls (d : Hd E) {x : Str} (i : Nat) (e : fa[i]? = some (.cls x) := by rfl) : Cls E.K (He.ga E.K x) := He.cls_ok (d.c.fact i e)
theorem Hd.noat (d : Hd E) {x f : Str} (i : Nat) (e : fa[i]? = some (.noat x f) := by rfl) : NoAttr E.K (He.ga E.K x) f := He.noat_ok (d.c.fact i e)
theorem Hd.meth (d : Hd E) {x m : Str} (i : Nat) (e : fa[i]? = some (.meth x m) := by rfl) : Meth E.K (He.ga E.K x) m (He.ma E.K (He.ga E.K x) m) := He.meth_ok (d.c.fact i e)
theorem Hd.mkr (d : Hd E) {x : Str} (i : Nat) (e : fa[i]? = some (.mkr x) := by rfl) : Mk E.K (He.ga E.K x) (He.ma E.K (He.ga E.K x) "__init__") := He.mkr_ok (d.c.fact i e)
abbrev aBook (E : Ev) : Addr := He.ga E.K "Book"
abbrev aBoard (E : Ev) : Addr := He.ga E.K "Board"
theorem fd_need_colours (h : Hd E) : ∃ fd, FnP E.K "need_colours" sNeedColours (He.ga E.K "need_colours") fd := h.c.def_ 0 (d := ⟨("need_colours", none), "need_colours", "need_colours", defArgs sNeedColours, defBody sNeedColours, defScope sNeedColours, [], []⟩) rfl
theorem fd_is_triple (h : Hd E) : ∃ fd, FnP E.K "is_triple" sIsTriple (He.ga E.K "is_triple") fd := h.c.def_ 1 (d := ⟨("is_triple", none), "is_triple", "is_triple", defArgs sIsTriple, defBody sIsTriple, defScope sIsTriple, [], []⟩) rfl
theorem fd_is_figure (h : Hd E) : ∃ fd, FnP E.K "is_figure" sIsFigure (He.ga E.K "is_figure") fd := h.c.def_ 2 (d := ⟨("is_figure", none), "is_figure", "is_figure", defArgs sIsFigure, defBody sIsFigure, defScope sIsFigure, [], []⟩) rfl
theorem fd_need_figures (h : Hd E) : ∃ fd, FnP E.K "need_figures" sNeedFigures (He.ga E.K "need_figures") fd := h.c.def_ 3 (d := ⟨("need_figures", none), "need_figures", "need_figures", defArgs sNeedFigures, defBody sNeedFigures, defScope sNeedFigures, [], []⟩) rfl
theorem fd_pads_of (h : Hd E) : ∃ fd, FnP E.K "pads_of" sPadsOf (He.ga E.K "pads_of") fd := h.c.def_ 4 (d := ⟨("pads_of", none), "pads_of", "pads_of", defArgs sPadsOf, defBody sPadsOf, defScope sPadsOf, [], []⟩) rfl
theorem fd_share (h : Hd E) : ∃ fd, FnP E.K "share" sShare (He.ga E.K "share") fd := h.c.def_ 5 (d := ⟨("share", none), "share", "share", defArgs sShare, defBody sShare, defScope sShare, [], []⟩) rfl
theorem fd_bar (h : Hd E) : ∃ fd, FnP E.K "bar" sBar (He.ga E.K "bar") fd := h.c.def_ 6 (d := ⟨("bar", none), "bar", "bar", defArgs sBar, defBody sBar, defScope sBar, [], []⟩) rfl
theorem fd_need_barred (h : Hd E) : ∃ fd, FnP E.K "need_barred" sNeedBarred (He.ga E.K "need_barred") fd := h.c.def_ 7 (d := ⟨("need_barred", none), "need_barred", "need_barred", defArgs sNeedBarred, defBody sNeedBarred, defScope sNeedBarred, [], []⟩) rfl
theorem fd_need_tie (h : Hd E) : ∃ fd, FnP E.K "need_tie" sNeedTie (He.ga E.K "need_tie") fd := h.c.def_ 8 (d := ⟨("need_tie", none), "need_tie", "need_tie", defArgs sNeedTie, defBody sNeedTie, defScope sNeedTie, [], []⟩) rfl
theorem fd_sinks (h : Hd E) : ∃ fd, FnP E.K "sinks" sSinks (He.ga E.K "sinks") fd := h.c.def_ 9 (d := ⟨("sinks", none), "sinks", "sinks", defArgs sSinks, defBody sSinks, defScope sSinks, [], []⟩) rfl
theorem fd_shortest (h : Hd E) : ∃ fd, FnP E.K "shortest" sShortest (He.ga E.K "shortest") fd := h.c.def_ 10 (d := ⟨("shortest", none), "shortest", "shortest", defArgs sShortest, defBody sShortest, defScope sShortest, [], []⟩) rfl
theorem fd_least_row (h : Hd E) : ∃ fd, FnP E.K "least_row" sLeastRow (He.ga E.K "least_row") fd := h.c.def_ 11 (d := ⟨("least_row", none), "least_row", "least_row", defArgs sLeastRow, defBody sLeastRow, defScope sLeastRow, [], []⟩) rfl
theorem fd_note_at (h : Hd E) : ∃ fd, FnP E.K "note_at" sNoteAt (He.ga E.K "note_at") fd := h.c.def_ 12 (d := ⟨("note_at", none), "note_at", "note_at", defArgs sNoteAt, defBody sNoteAt, defScope sNoteAt, [], []⟩) rfl
theorem fd_behind (h : Hd E) : ∃ fd, FnP E.K "behind" sBehind (He.ga E.K "behind") fd := h.c.def_ 13 (d := ⟨("behind", none), "behind", "behind", defArgs sBehind, defBody sBehind, defScope sBehind, [], []⟩) rfl
theorem fd_has_notes (h : Hd E) : ∃ fd, FnP E.K "has_notes" sHasNotes (He.ga E.K "has_notes") fd := h.c.def_ 14 (d := ⟨("has_notes", none), "has_notes", "has_notes", defArgs sHasNotes, defBody sHasNotes, defScope sHasNotes, [], []⟩) rfl
theorem fd_stands_on (h : Hd E) : ∃ fd, FnP E.K "stands_on" sStandsOn (He.ga E.K "stands_on") fd := h.c.def_ 15 (d := ⟨("stands_on", none), "stands_on", "stands_on", defArgs sStandsOn, defBody sStandsOn, defScope sStandsOn, [], []⟩) rfl
theorem fd_standing_on (h : Hd E) : ∃ fd, FnP E.K "standing_on" sStandingOn (He.ga E.K "standing_on") fd := h.c.def_ 16 (d := ⟨("standing_on", none), "standing_on", "standing_on", defArgs sStandingOn, defBody sStandingOn, defScope sStandingOn, [], []⟩) rfl
theorem fd_torn_off (h : Hd E) : ∃ fd, FnP E.K "torn_off" sTornOff (He.ga E.K "torn_off") fd := h.c.def_ 17 (d := ⟨("torn_off", none), "torn_off", "torn_off", defArgs sTornOff, defBody sTornOff, defScope sTornOff, [], []⟩) rfl
theorem fd_torn_all (h : Hd E) : ∃ fd, FnP E.K "torn_all" sTornAll (He.ga E.K "torn_all") fd := h.c.def_ 18 (d := ⟨("torn_all", none), "torn_all", "torn_all", defArgs sTornAll, defBody sTornAll, defScope sTornAll, [], []⟩) rfl
theorem fd_on_part (h : Hd E) : ∃ fd, FnP E.K "on_part" sOnPart (He.ga E.K "on_part") fd := h.c.def_ 19 (d := ⟨("on_part", none), "on_part", "on_part", defArgs sOnPart, defBody sOnPart, defScope sOnPart, [], []⟩) rfl
theorem fd_sweep_of (h : Hd E) : ∃ fd, FnP E.K "sweep_of" sSweepOf (He.ga E.K "sweep_of") fd := h.c.def_ 20 (d := ⟨("sweep_of", none), "sweep_of", "sweep_of", defArgs sSweepOf, defBody sSweepOf, defScope sSweepOf, [], []⟩) rfl
theorem fd_story_of (h : Hd E) : ∃ fd, FnP E.K "story_of" sStoryOf (He.ga E.K "story_of") fd := h.c.def_ 21 (d := ⟨("story_of", none), "story_of", "story_of", defArgs sStoryOf, defBody sStoryOf, defScope sStoryOf, [], []⟩) rfl
theorem fd_need_clear (h : Hd E) : ∃ fd, FnP E.K "need_clear" sNeedClear (He.ga E.K "need_clear") fd := h.c.def_ 22 (d := ⟨("need_clear", none), "need_clear", "need_clear", defArgs sNeedClear, defBody sNeedClear, defScope sNeedClear, [], []⟩) rfl
theorem fd_sweeps_to_end (h : Hd E) : ∃ fd, FnP E.K "sweeps_to_end" sSweepsToEnd (He.ga E.K "sweeps_to_end") fd := h.c.def_ 23 (d := ⟨("sweeps_to_end", none), "sweeps_to_end", "sweeps_to_end", defArgs sSweepsToEnd, defBody sSweepsToEnd, defScope sSweepsToEnd, [], []⟩) rfl
theorem fd_need_row (h : Hd E) : ∃ fd, FnP E.K "need_row" sNeedRow (He.ga E.K "need_row") fd := h.c.def_ 24 (d := ⟨("need_row", none), "need_row", "need_row", defArgs sNeedRow, defBody sNeedRow, defScope sNeedRow, [], []⟩) rfl
theorem fd_rows_from (h : Hd E) : ∃ fd, FnP E.K "rows_from" sRowsFrom (He.ga E.K "rows_from") fd := h.c.def_ 25 (d := ⟨("rows_from", none), "rows_from", "rows_from", defArgs sRowsFrom, defBody sRowsFrom, defScope sRowsFrom, [], []⟩) rfl
theorem fd_need_heights (h : Hd E) : ∃ fd, FnP E.K "need_heights" sNeedHeights (He.ga E.K "need_heights") fd := h.c.def_ 26 (d := ⟨("need_heights", none), "need_heights", "need_heights", defArgs sNeedHeights, defBody sNeedHeights, defScope sNeedHeights, [], []⟩) rfl
theorem fd_depths_of (h : Hd E) : ∃ fd, FnP E.K "depths_of" sDepthsOf (He.ga E.K "depths_of") fd := h.c.def_ 27 (d := ⟨("depths_of", none), "depths_of", "depths_of", defArgs sDepthsOf, defBody sDepthsOf, defScope sDepthsOf, [], []⟩) rfl
theorem fd_rows_of_notes (h : Hd E) : ∃ fd, FnP E.K "rows_of_notes" sRowsOfNotes (He.ga E.K "rows_of_notes") fd := h.c.def_ 28 (d := ⟨("rows_of_notes", none), "rows_of_notes", "rows_of_notes", defArgs sRowsOfNotes, defBody sRowsOfNotes, defScope sRowsOfNotes, [], []⟩) rfl
theorem fd_signed (h : Hd E) : ∃ fd, FnP E.K "signed" sSigned (He.ga E.K "signed") fd := h.c.def_ 29 (d := ⟨("signed", none), "signed", "signed", defArgs sSigned, defBody sSigned, defScope sSigned, [], []⟩) rfl
theorem fd_clear_fillings (h : Hd E) : ∃ fd, FnP E.K "clear_fillings" sClearFillings (He.ga E.K "clear_fillings") fd := h.c.def_ 30 (d := ⟨("clear_fillings", none), "clear_fillings", "clear_fillings", defArgs sClearFillings, defBody sClearFillings, defScope sClearFillings, [], []⟩) rfl
theorem fd_clear (h : Hd E) : ∃ fd, FnP E.K "clear" sClear (He.ga E.K "clear") fd := h.c.def_ 31 (d := ⟨("clear", none), "clear", "clear", defArgs sClear, defBody sClear, defScope sClear, [], []⟩) rfl
theorem fd_need_weights (h : Hd E) : ∃ fd, FnP E.K "need_weights" sNeedWeights (He.ga E.K "need_weights") fd := h.c.def_ 32 (d := ⟨("need_weights", none), "need_weights", "need_weights", defArgs sNeedWeights, defBody sNeedWeights, defScope sNeedWeights, [], []⟩) rfl
theorem fd_weight_of (h : Hd E) : ∃ fd, FnP E.K "weight_of" sWeightOf (He.ga E.K "weight_of") fd := h.c.def_ 33 (d := ⟨("weight_of", none), "weight_of", "weight_of", defArgs sWeightOf, defBody sWeightOf, defScope sWeightOf, [], []⟩) rfl
theorem fd_fraction (h : Hd E) : ∃ fd, FnP E.K "fraction" sFraction (He.ga E.K "fraction") fd := h.c.def_ 34 (d := ⟨("fraction", none), "fraction", "fraction", defArgs sFraction, defBody sFraction, defScope sFraction, [], []⟩) rfl
theorem fd_weight_clear (h : Hd E) : ∃ fd, FnP E.K "weight_clear" sWeightClear (He.ga E.K "weight_clear") fd := h.c.def_ 35 (d := ⟨("weight_clear", none), "weight_clear", "weight_clear", defArgs sWeightClear, defBody sWeightClear, defScope sWeightClear, [], []⟩) rfl
theorem fd_clear_weight (h : Hd E) : ∃ fd, FnP E.K "clear_weight" sClearWeight (He.ga E.K "clear_weight") fd := h.c.def_ 36 (d := ⟨("clear_weight", none), "clear_weight", "clear_weight", defArgs sClearWeight, defBody sClearWeight, defScope sClearWeight, [], []⟩) rfl
theorem fd_law_bag (h : Hd E) : ∃ fd, FnP E.K "_law_bag" sLawBag (He.ga E.K "_law_bag") fd := h.c.def_ 37 (d := ⟨("_law_bag", none), "_law_bag", "_law_bag", defArgs sLawBag, defBody sLawBag, defScope sLawBag, [], []⟩) rfl
theorem fd_law_pull (h : Hd E) : ∃ fd, FnP E.K "_law_pull" sLawPull (He.ga E.K "_law_pull") fd := h.c.def_ 38 (d := ⟨("_law_pull", none), "_law_pull", "_law_pull", defArgs sLawPull, defBody sLawPull, defScope sLawPull, [], []⟩) rfl
theorem fd_law_tops (h : Hd E) : ∃ fd, FnP E.K "_law_tops" sLawTops (He.ga E.K "_law_tops") fd := h.c.def_ 39 (d := ⟨("_law_tops", none), "_law_tops", "_law_tops", defArgs sLawTops, defBody sLawTops, defScope sLawTops, [], []⟩) rfl
theorem fd_law_like (h : Hd E) : ∃ fd, FnP E.K "_law_like" sLawLike (He.ga E.K "_law_like") fd := h.c.def_ 40 (d := ⟨("_law_like", none), "_law_like", "_law_like", defArgs sLawLike, defBody sLawLike, defScope sLawLike, [], []⟩) rfl
theorem fd_law_lowest (h : Hd E) : ∃ fd, FnP E.K "_law_lowest" sLawLowest (He.ga E.K "_law_lowest") fd := h.c.def_ 41 (d := ⟨("_law_lowest", none), "_law_lowest", "_law_lowest", defArgs sLawLowest, defBody sLawLowest, defScope sLawLowest, [], []⟩) rfl
theorem fd_law_power (h : Hd E) : ∃ fd, FnP E.K "_law_power" sLawPower (He.ga E.K "_law_power") fd := h.c.def_ 42 (d := ⟨("_law_power", none), "_law_power", "_law_power", defArgs sLawPower, defBody sLawPower, defScope sLawPower, [], []⟩) rfl
theorem fd_law_rows (h : Hd E) : ∃ fd, FnP E.K "_law_rows" sLawRows (He.ga E.K "_law_rows") fd := h.c.def_ 43 (d := ⟨("_law_rows", none), "_law_rows", "_law_rows", defArgs sLawRows, defBody sLawRows, defScope sLawRows, [], []⟩) rfl
theorem fd_law_copy (h : Hd E) : ∃ fd, FnP E.K "_law_copy" sLawCopy (He.ga E.K "_law_copy") fd := h.c.def_ 44 (d := ⟨("_law_copy", none), "_law_copy", "_law_copy", defArgs sLawCopy, defBody sLawCopy, defScope sLawCopy, [], []⟩) rfl
theorem fd_law (h : Hd E) : ∃ fd, FnP E.K "law" sLaw (He.ga E.K "law") fd := h.c.def_ 45 (d := ⟨("law", none), "law", "law", defArgs sLaw, defBody sLaw, defScope sLaw, [], []⟩) rfl
theorem fd_Book_init (h : Hd E) : ∃ fd, FnM E.K "Book" "__init__" "Book.__init__" sBookInit [("figures", V.ref (figDflt E.K))] (He.ma E.K (He.ga E.K "Book") "__init__") fd := h.c.def_ 46 (d := ⟨("Book", some "__init__"), "__init__", "Book.__init__", defArgs sBookInit, defBody sBookInit, defScope sBookInit, [], [("figures", .adr figDflt)]⟩) rfl
theorem fd_Bookcolours (h : Hd E) : ∃ fd, FnM E.K "Book" "colours" "Book.colours" sBookColours [] (He.ma E.K (He.ga E.K "Book") "colours") fd := h.c.def_ 47 (d := ⟨("Book", some "colours"), "colours", "Book.colours", defArgs sBookColours, defBody sBookColours, defScope sBookColours, [], []⟩) rfl
theorem fd_Bookpads (h : Hd E) : ∃ fd, FnM E.K "Book" "pads" "Book.pads" sBookPads [] (He.ma E.K (He.ga E.K "Book") "pads") fd := h.c.def_ 48 (d := ⟨("Book", some "pads"), "pads", "Book.pads", defArgs sBookPads, defBody sBookPads, defScope sBookPads, [], []⟩) rfl
theorem fd_Bookfigures (h : Hd E) : ∃ fd, FnM E.K "Book" "figures" "Book.figures" sBookFigures [] (He.ma E.K (He.ga E.K "Book") "figures") fd := h.c.def_ 49 (d := ⟨("Book", some "figures"), "figures", "Book.figures", defArgs sBookFigures, defBody sBookFigures, defScope sBookFigures, [], []⟩) rfl
theorem fd_Bookshape (h : Hd E) : ∃ fd, FnM E.K "Book" "shape" "Book.shape" sBookShape [] (He.ma E.K (He.ga E.K "Book") "shape") fd := h.c.def_ 50 (d := ⟨("Book", some "shape"), "shape", "Book.shape", defArgs sBookShape, defBody sBookShape, defScope sBookShape, [], []⟩) rfl
theorem fd_Bookparts (h : Hd E) : ∃ fd, FnM E.K "Book" "parts" "Book.parts" sBookParts [] (He.ma E.K (He.ga E.K "Book") "parts") fd := h.c.def_ 51 (d := ⟨("Book", some "parts"), "parts", "Book.parts", defArgs sBookParts, defBody sBookParts, defScope sBookParts, [], []⟩) rfl
theorem fd_Bookapart_sets (h : Hd E) : ∃ fd, FnM E.K "Book" "apart_sets" "Book.apart_sets" sBookApartSets [] (He.ma E.K (He.ga E.K "Book") "apart_sets") fd := h.c.def_ 52 (d := ⟨("Book", some "apart_sets"), "apart_sets", "Book.apart_sets", defArgs sBookApartSets, defBody sBookApartSets, defScope sBookApartSets, [], []⟩) rfl
theorem fd_Board_init (h : Hd E) : ∃ fd, FnM E.K "Board" "__init__" "Board.__init__" sBoardInit [("rows", V.non)] (He.ma E.K (He.ga E.K "Board") "__init__") fd := h.c.def_ 53 (d := ⟨("Board", some "__init__"), "__init__", "Board.__init__", defArgs sBoardInit, defBody sBoardInit, defScope sBoardInit, [], [("rows", .non)]⟩) rfl
theorem fd_Boardgo (h : Hd E) : ∃ fd, FnM E.K "Board" "go" "Board.go" sBoardGo [] (He.ma E.K (He.ga E.K "Board") "go") fd := h.c.def_ 54 (d := ⟨("Board", some "go"), "go", "Board.go", defArgs sBoardGo, defBody sBoardGo, defScope sBoardGo, [], []⟩) rfl
theorem fd_Boarddo_settle (h : Hd E) : ∃ fd, FnM E.K "Board" "do_settle" "Board.do_settle" sBoardDoSettle [] (He.ma E.K (He.ga E.K "Board") "do_settle") fd := h.c.def_ 55 (d := ⟨("Board", some "do_settle"), "do_settle", "Board.do_settle", defArgs sBoardDoSettle, defBody sBoardDoSettle, defScope sBoardDoSettle, [], []⟩) rfl
theorem fd_Boardsettle (h : Hd E) : ∃ fd, FnM E.K "Board" "settle" "Board.settle" sBoardSettle [("most", V.int 20000)] (He.ma E.K (He.ga E.K "Board") "settle") fd := h.c.def_ 56 (d := ⟨("Board", some "settle"), "settle", "Board.settle", defArgs sBoardSettle, defBody sBoardSettle, defScope sBoardSettle, [], [("most", .int 20000)]⟩) rfl
theorem fd_Boardrows (h : Hd E) : ∃ fd, FnM E.K "Board" "rows" "Board.rows" sBoardRows [] (He.ma E.K (He.ga E.K "Board") "rows") fd := h.c.def_ 57 (d := ⟨("Board", some "rows"), "rows", "Board.rows", defArgs sBoardRows, defBody sBoardRows, defScope sBoardRows, [], []⟩) rfl
theorem bkC (h : Hd E) : BkC E (aBook E) := ⟨(h.cls (x := "Book") 71), (h.noat (x := "Book") (f := "hues") 73), (h.noat (x := "Book") (f := "shapes") 74)⟩
theorem brC (h : Hd E) : BrC E (aBoard E) := ⟨(h.cls (x := "Board") 82), (h.noat (x := "Board") (f := "now") 84), (h.noat (x := "Board") (f := "holder") 85), (h.noat (x := "Board") (f := "past") 86), (h.noat (x := "Board") (f := "ahead") 87), (h.noat (x := "Board") (f := "run") 88), (h.noat (x := "Board") (f := "whole") 89), (h.noat (x := "Board") (f := "tally") 90)⟩
theorem isN (h : Hd E) : IsN E := ⟨(h.free (x := "isinstance") 61), (h.free (x := "tuple") 56), (h.free (x := "list") 57), (h.free (x := "bool") 59), (h.free (x := "int") 58), (h.free (x := "len") 48), (h.free (x := "range") 50), (h.free (x := "all") 53)⟩
theorem kn_signed (h : Hd E) : Kn E 1 "signed" rSigned := by
  obtain ⟨fd, F⟩ := fd_signed h
  exact ⟨_, fd, ["some", "found"], ok_signed (h.free (x := "len") 48) F, (h.glo (x := "signed") 29), F.kp, (F.bindsN fun _ _ _ _ _ _ us hl => match us, hl with | [_, _], _ => rfl)⟩
theorem kn_rows_of_notes (h : Hd E) : Kn E 1 "rows_of_notes" rRowsOfNotes := by
  obtain ⟨fd, F⟩ := fd_rows_of_notes h
  exact ⟨_, fd, ["many", "height"], ok_rows_of_notes (h.free (x := "range") 50) F, (h.glo (x := "rows_of_notes") 28), F.kp, (F.bindsN fun _ _ _ _ _ _ us hl => match us, hl with | [_, _], _ => rfl)⟩
theorem kn_fraction (h : Hd E) : Kn E 1 "fraction" rFraction := by
  obtain ⟨fd, F⟩ := fd_fraction h
  exact ⟨_, fd, ["over", "under"], ok_fraction  F, (h.glo (x := "fraction") 34), F.kp, (F.bindsN fun _ _ _ _ _ _ us hl => match us, hl with | [_, _], _ => rfl)⟩
theorem kn_pads_of (h : Hd E) : Kn E 1 "pads_of" rPadsOf := by
  obtain ⟨fd, F⟩ := fd_pads_of h
  exact ⟨_, fd, ["figure"], ok_pads_of  F, (h.glo (x := "pads_of") 4), F.kp, (F.bindsN fun _ _ _ _ _ _ us hl => match us, hl with | [_], _ => rfl)⟩
theorem kn_share (h : Hd E) : Kn E 2 "share" rShare := by
  obtain ⟨fd, F⟩ := fd_share h
  exact ⟨_, fd, ["one", "other"], ok_share (h.free (x := "any") 52) (kn_pads_of h) F, (h.glo (x := "share") 5), F.kp, (F.bindsN fun _ _ _ _ _ _ us hl => match us, hl with | [_, _], _ => rfl)⟩
theorem kn_bar (h : Hd E) : Kn E 1 "bar" rBar := by
  obtain ⟨fd, F⟩ := fd_bar h
  exact ⟨_, fd, ["one", "other"], ok_bar (h.free (x := "any") 52) F, (h.glo (x := "bar") 6), F.kp, (F.bindsN fun _ _ _ _ _ _ us hl => match us, hl with | [_, _], _ => rfl)⟩
theorem kn_need_barred (h : Hd E) : Kn E 3 "need_barred" rNeedBarred := by
  obtain ⟨fd, F⟩ := fd_need_barred h
  exact ⟨_, fd, ["figures"], ok_need_barred (h.free (x := "len") 48) (h.free (x := "range") 50) (kn_share h) (kn_bar h) F, (h.glo (x := "need_barred") 7), F.kp, (F.bindsN fun _ _ _ _ _ _ us hl => match us, hl with | [_], _ => rfl)⟩
theorem kn_is_triple (h : Hd E) : Kn E 1 "is_triple" rIsTriple := by
  obtain ⟨fd, F⟩ := fd_is_triple h
  exact ⟨_, fd, ["colours", "triple", "least"], ok_is_triple (h.free (x := "len") 48) (h.int (x := "MOST_DEPTH") (n := 3) 65) F, (h.glo (x := "is_triple") 1), F.kp, (F.bindsN fun _ _ _ _ _ _ us hl => match us, hl with | [_, _, _], _ => rfl)⟩
theorem kn_is_figure (h : Hd E) : Kn E 2 "is_figure" rIsFigure := by
  obtain ⟨fd, F⟩ := fd_is_figure h
  exact ⟨_, fd, ["colours", "figure"], ok_is_figure (h.free (x := "len") 48) (kn_is_triple h) F, (h.glo (x := "is_figure") 2), F.kp, (F.bindsN fun _ _ _ _ _ _ us hl => match us, hl with | [_, _], _ => rfl)⟩
theorem kn_need_figures (h : Hd E) : Kn E 3 "need_figures" rNeedFigures := by
  obtain ⟨fd, F⟩ := fd_need_figures h
  exact ⟨_, fd, ["colours", "figures"], ok_need_figures (h.free (x := "len") 48) (h.free (x := "enumerate") 49) (h.int (x := "MOST_FIGURES") (n := 12) 64) (kn_is_figure h) F, (h.glo (x := "need_figures") 3), F.kp, (F.bindsN fun _ _ _ _ _ _ us hl => match us, hl with | [_, _], _ => rfl)⟩
theorem kn_need_colours (h : Hd E) : Kn E 1 "need_colours" rNeedColours := by
  obtain ⟨fd, F⟩ := fd_need_colours h
  exact ⟨_, fd, ["colours"], ok_need_colours (h.free (x := "len") 48) (h.free (x := "enumerate") 49) (h.int (x := "MOST_PADS") (n := 6) 62) (h.int (x := "MOST_COLOURS") (n := 4) 63) F, (h.glo (x := "need_colours") 0), F.kp, (F.bindsN fun _ _ _ _ _ _ us hl => match us, hl with | [_], _ => rfl)⟩
theorem kn_need_tie (h : Hd E) : Kn E 1 "need_tie" rNeedTie := by
  obtain ⟨fd, F⟩ := fd_need_tie h
  exact ⟨_, fd, ["points", "tie"], ok_need_tie  F, (h.glo (x := "need_tie") 8), F.kp, (F.bindsN fun _ _ _ _ _ _ us hl => match us, hl with | [_, _], _ => rfl)⟩
theorem ki_Book (h : Hd E) : KnI E 4 "Book" (aBook E) "figures" rBookInit := by
  obtain ⟨fd, F⟩ := fd_Book_init h
  have O := ok_book_init (bkC h) (h.free (x := "tuple") 56) (kn_need_colours h) (kn_need_figures h) (kn_need_barred h) F
  obtain ⟨mv, b⟩ := FunD.kbinds0 (ps := ["self", "colours", "figures"]) F 2 ["figures"] [] (fun us _ ws => us ++ ws) (fun e => by cases e) (fun q hq => by cases hq) (fun a _ c => a.append c) fun D doc pm an cdv ct us mv ws h1 h2 h3 => match us, mv, ws, h1, h2, h3 with | [_, _], [], [_], _, _, _ => rfl
  exact ⟨_, fd, ["self", "colours", "figures"], _, (h.mkr (x := "Book") 72), O, (h.glo (x := "Book") 46), b⟩
theorem km_Bookcolours (h : Hd E) : KnM E 1 (aBook E) "colours" (rBookColours (aBook E)) := by
  obtain ⟨fd, F⟩ := fd_Bookcolours h
  exact ⟨(h.cls (x := "Book") 71), _, fd, ["self"], ok_book_colours (bkC h) F, (h.meth (x := "Book") (m := "colours") 76), (F.bindsN fun _ _ _ _ _ _ us hl => match us, hl with | [_], _ => rfl)⟩
theorem km_Bookpads (h : Hd E) : KnM E 1 (aBook E) "pads" (rBookPads (aBook E)) := by
  obtain ⟨fd, F⟩ := fd_Bookpads h
  exact ⟨(h.cls (x := "Book") 71), _, fd, ["self"], ok_book_pads (bkC h) (h.free (x := "len") 48) F, (h.meth (x := "Book") (m := "pads") 77), (F.bindsN fun _ _ _ _ _ _ us hl => match us, hl with | [_], _ => rfl)⟩
theorem km_Bookfigures (h : Hd E) : KnM E 1 (aBook E) "figures" (rBookFigures (aBook E)) := by
  obtain ⟨fd, F⟩ := fd_Bookfigures h
  exact ⟨(h.cls (x := "Book") 71), _, fd, ["self"], ok_book_figures (bkC h) (h.free (x := "list") 57) F, (h.meth (x := "Book") (m := "figures") 78), (F.bindsN fun _ _ _ _ _ _ us hl => match us, hl with | [_], _ => rfl)⟩
theorem km_Bookshape (h : Hd E) : KnM E 1 (aBook E) "shape" (rBookShape (aBook E)) := by
  obtain ⟨fd, F⟩ := fd_Bookshape h
  exact ⟨(h.cls (x := "Book") 71), _, fd, ["self", "at"], ok_book_shape (bkC h) (h.free (x := "len") 48) F, (h.meth (x := "Book") (m := "shape") 79), (F.bindsN fun _ _ _ _ _ _ us hl => match us, hl with | [_, _], _ => rfl)⟩
theorem km_Bookparts (h : Hd E) : KnM E 2 (aBook E) "parts" (rBookParts (aBook E)) := by
  obtain ⟨fd, F⟩ := fd_Bookparts h
  exact ⟨(h.cls (x := "Book") 71), _, fd, ["self"], ok_book_parts (bkC h) (h.free (x := "any") 52) (h.free (x := "len") 48) (h.free (x := "range") 50) (h.free (x := "sorted") 55) (kn_pads_of h) F, (h.meth (x := "Book") (m := "parts") 80), (F.bindsN fun _ _ _ _ _ _ us hl => match us, hl with | [_], _ => rfl)⟩
theorem km_Bookapart_sets (h : Hd E) : KnM E 3 (aBook E) "apart_sets" (rBookApart (aBook E)) := by
  obtain ⟨fd, F⟩ := fd_Bookapart_sets h
  exact ⟨(h.cls (x := "Book") 71), _, fd, ["self"], ok_book_apart (bkC h) (h.free (x := "any") 52) (h.free (x := "enumerate") 49) (h.free (x := "sorted") 55) (kn_share h) F, (h.meth (x := "Book") (m := "apart_sets") 81), (F.bindsN fun _ _ _ _ _ _ us hl => match us, hl with | [_], _ => rfl)⟩
theorem kn_sinks (h : Hd E) : Kn E 6 "sinks" (rSinks (aBook E)) := by
  obtain ⟨fd, F⟩ := fd_sinks h
  exact ⟨_, fd, ["points", "ties"], ok_sinks (h.free (x := "len") 48) (h.free (x := "range") 50) (h.free (x := "enumerate") 49) (h.free (x := "int") 58) (h.int (x := "MOST_PADS") (n := 6) 62) (h.int (x := "MOST_POINTS") (n := 7) 66) (kn_need_tie h) (ki_Book h) F, (h.glo (x := "sinks") 9), F.kp, (F.bindsN fun _ _ _ _ _ _ us hl => match us, hl with | [_, _], _ => rfl)⟩
theorem kn_shortest (h : Hd E) : Kn E 1 "shortest" rShortest := by
  obtain ⟨fd, F⟩ := fd_shortest h
  exact ⟨_, fd, ["turn"], ok_shortest (h.free (x := "len") 48) (h.free (x := "range") 50) F, (h.glo (x := "shortest") 10), F.kp, (F.bindsN fun _ _ _ _ _ _ us hl => match us, hl with | [_], _ => rfl)⟩
theorem kn_least_row (h : Hd E) : Kn E 2 "least_row" rLeastRow := by
  obtain ⟨fd, F⟩ := fd_least_row h
  exact ⟨_, fd, ["lead", "turn"], ok_least_row (h.free (x := "tuple") 56) (kn_shortest h) F, (h.glo (x := "least_row") 11), F.kp, (F.bindsN fun _ _ _ _ _ _ us hl => match us, hl with | [_, _], _ => rfl)⟩
theorem kn_note_at (h : Hd E) : Kn E 1 "note_at" rNoteAt := by
  obtain ⟨fd, F⟩ := fd_note_at h
  exact ⟨_, fd, ["row", "depth"], ok_note_at (h.free (x := "len") 48) F, (h.glo (x := "note_at") 12), F.kp, (F.bindsN fun _ _ _ _ _ _ us hl => match us, hl with | [_, _], _ => rfl)⟩
theorem kn_behind (h : Hd E) : Kn E 3 "behind" rBehind := by
  obtain ⟨fd, F⟩ := fd_behind h
  exact ⟨_, fd, ["row", "many"], ok_behind (h.free (x := "len") 48) (kn_least_row h) F, (h.glo (x := "behind") 13), F.kp, (F.bindsN fun _ _ _ _ _ _ us hl => match us, hl with | [_, _], _ => rfl)⟩
theorem kn_has_notes (h : Hd E) : Kn E 1 "has_notes" rHasNotes := by
  obtain ⟨fd, F⟩ := fd_has_notes h
  exact ⟨_, fd, ["row", "many"], ok_has_notes (h.free (x := "len") 48) F, (h.glo (x := "has_notes") 14), F.kp, (F.bindsN fun _ _ _ _ _ _ us hl => match us, hl with | [_, _], _ => rfl)⟩
theorem kn_stands_on (h : Hd E) : Kn E 2 "stands_on" rStandsOn := by
  obtain ⟨fd, F⟩ := fd_stands_on h
  exact ⟨_, fd, ["figure", "rows"], ok_stands_on (kn_has_notes h) (kn_note_at h) F, (h.glo (x := "stands_on") 15), F.kp, (F.bindsN fun _ _ _ _ _ _ us hl => match us, hl with | [_, _], _ => rfl)⟩
theorem kn_standing_on (h : Hd E) : Kn E 3 "standing_on" (rStandingOn (aBook E)) := by
  obtain ⟨fd, F⟩ := fd_standing_on h
  exact ⟨_, fd, ["book", "rows"], ok_standing_on (h.free (x := "enumerate") 49) (km_Bookfigures h) (kn_stands_on h) F, (h.glo (x := "standing_on") 16), F.kp, (F.bindsN fun _ _ _ _ _ _ us hl => match us, hl with | [_, _], _ => rfl)⟩
theorem kn_torn_off (h : Hd E) : Kn E 4 "torn_off" rTornOff := by
  obtain ⟨fd, F⟩ := fd_torn_off h
  exact ⟨_, fd, ["figure", "rows"], ok_torn_off (h.free (x := "tuple") 56) (h.free (x := "list") 57) (kn_behind h) F, (h.glo (x := "torn_off") 17), F.kp, (F.bindsN fun _ _ _ _ _ _ us hl => match us, hl with | [_, _], _ => rfl)⟩
theorem kn_torn_all (h : Hd E) : Kn E 5 "torn_all" (rTornAll (aBook E)) := by
  obtain ⟨fd, F⟩ := fd_torn_all h
  exact ⟨_, fd, ["book", "some", "rows"], ok_torn_all (km_Bookshape h) (kn_torn_off h) F, (h.glo (x := "torn_all") 18), F.kp, (F.bindsN fun _ _ _ _ _ _ us hl => match us, hl with | [_, _, _], _ => rfl)⟩
theorem kn_on_part (h : Hd E) : Kn E 2 "on_part" (rOnPart (aBook E)) := by
  obtain ⟨fd, F⟩ := fd_on_part h
  exact ⟨_, fd, ["book", "pads"], ok_on_part (h.free (x := "enumerate") 49) (km_Bookfigures h) (kn_pads_of h) F, (h.glo (x := "on_part") 19), F.kp, (F.bindsN fun _ _ _ _ _ _ us hl => match us, hl with | [_, _], _ => rfl)⟩
theorem kn_sweep_of (h : Hd E) : Kn E 3 "sweep_of" (rSweepOf (aBook E)) := by
  obtain ⟨fd, F⟩ := fd_sweep_of h
  exact ⟨_, fd, ["book", "some", "rows"], ok_sweep_of (km_Bookshape h) (kn_stands_on h) F, (h.glo (x := "sweep_of") 20), F.kp, (F.bindsN fun _ _ _ _ _ _ us hl => match us, hl with | [_, _, _], _ => rfl)⟩
theorem kn_story_of (h : Hd E) : Kn E 6 "story_of" (rStoryOf (aBook E)) := by
  obtain ⟨fd, F⟩ := fd_story_of h
  exact ⟨_, fd, ["book", "rows", "pads", "most"], ok_story_of (h.free (x := "tuple") 56) (h.free (x := "len") 48) (kn_on_part h) (kn_sweep_of h) (kn_torn_all h) F, (h.glo (x := "story_of") 21), F.kp, (F.bindsN fun _ _ _ _ _ _ us hl => match us, hl with | [_, _, _, _], _ => rfl)⟩
theorem kn_need_clear (h : Hd E) : Kn E 7 "need_clear" (rNeedClear (aBook E)) := by
  obtain ⟨fd, F⟩ := fd_need_clear h
  exact ⟨_, fd, ["book", "rows", "most"], ok_need_clear (km_Bookparts h) (kn_story_of h) F, (h.glo (x := "need_clear") 22), F.kp, (F.bindsN fun _ _ _ _ _ _ us hl => match us, hl with | [_, _, _], _ => rfl)⟩
theorem kn_sweeps_to_end (h : Hd E) : Kn E 6 "sweeps_to_end" (rSweepsToEnd (aBook E)) := by
  obtain ⟨fd, F⟩ := fd_sweeps_to_end h
  exact ⟨_, fd, ["book", "rows"], ok_sweeps_to_end (kn_standing_on h) (kn_torn_all h) F, (h.glo (x := "sweeps_to_end") 23), F.kp, (F.bindsN fun _ _ _ _ _ _ us hl => match us, hl with | [_, _], _ => rfl)⟩
theorem kn_need_row (h : Hd E) : Kn E 2 "need_row" (rNeedRow (aBook E)) := by
  obtain ⟨fd, F⟩ := fd_need_row h
  exact ⟨_, fd, ["book", "pad", "lead", "turn"], ok_need_row (h.free (x := "len") 48) (h.free (x := "all") 53) (h.free (x := "list") 57) (h.int (x := "MOST_LEAD") (n := 400) 67) (h.int (x := "MOST_ROUND") (n := 12) 68) (km_Bookcolours h) F, (h.glo (x := "need_row") 24), F.kp, (F.bindsN fun _ _ _ _ _ _ us hl => match us, hl with | [_, _, _, _], _ => rfl)⟩
theorem kn_rows_from (h : Hd E) : Kn E 3 "rows_from" (rRowsFrom (aBook E)) := by
  obtain ⟨fd, F⟩ := fd_rows_from h
  exact ⟨_, fd, ["book", "rows"], ok_rows_from (h.free (x := "len") 48) (h.free (x := "enumerate") 49) (h.free (x := "tuple") 56) (km_Bookpads h) (kn_need_row h) (kn_least_row h) F, (h.glo (x := "rows_from") 25), F.kp, (F.bindsN fun _ _ _ _ _ _ us hl => match us, hl with | [_, _], _ => rfl)⟩
theorem ki_Board (h : Hd E) : KnI E 4 "Board" (aBoard E) "rows" (rBoardInit (aBook E)) := by
  obtain ⟨fd, F⟩ := fd_Board_init h
  have O := ok_board_init (brC h) (kn_rows_from h) F
  obtain ⟨mv, b⟩ := FunD.kbinds0 (ps := ["self", "book", "rows"]) F 2 ["rows"] [] (fun us _ ws => us ++ ws) (fun e => by cases e) (fun q hq => by cases hq) (fun a _ c => a.append c) fun D doc pm an cdv ct us mv ws h1 h2 h3 => match us, mv, ws, h1, h2, h3 with | [_, _], [], [_], _, _, _ => rfl
  exact ⟨_, fd, ["self", "book", "rows"], _, (h.mkr (x := "Board") 83), O, (h.glo (x := "Board") 47), b⟩
theorem ku_Boardgo (h : Hd E) : KnU E 1 (aBoard E) "go" [] (rBoardGo (aBook E)) := by
  obtain ⟨fd, F⟩ := fd_Boardgo h
  exact ⟨(h.cls (x := "Board") 82), _, fd, ["self", "rows"], [], [], ok_board_go (brC h) F, (h.meth (x := "Board") (m := "go") 92), (F.bindsN fun _ _ _ _ _ _ us hl => match us, hl with | [_, _], _ => rfl), .nil, fun _ => .nil⟩
theorem ku_Boarddo_settle (h : Hd E) : KnU E 8 (aBoard E) "do_settle" [] (rBoardDoSettle (aBook E)) := by
  obtain ⟨fd, F⟩ := fd_Boarddo_settle h
  exact ⟨(h.cls (x := "Board") 82), _, fd, ["self", "most"], [], [], ok_board_do_settle (brC h) (kn_need_clear h) (kn_sweeps_to_end h) (kn_torn_all h) (ku_Boardgo h) F, (h.meth (x := "Board") (m := "do_settle") 93), (F.bindsN fun _ _ _ _ _ _ us hl => match us, hl with | [_, _], _ => rfl), .nil, fun _ => .nil⟩
theorem ku_Boardsettle (h : Hd E) : KnU E 9 (aBoard E) "settle" [tD (.int 20000)] (rBoardSettle (aBook E)) := by
  obtain ⟨fd, F⟩ := fd_Boardsettle h
  have O := ok_board_settle (brC h) (ku_Boarddo_settle h) F
  obtain ⟨ds, r, b⟩ := FunD.binds0 (ps := ["self", "most"]) F 1 (fun e => by cases e) rfl fun D doc pm an cdv ct us ks h1 h2 => match us, ks, h1, h2 with | [_], [_], _, _ => ⟨_, _, _, _, _, _, rfl, rfl, rfl⟩
  exact ⟨(h.cls (x := "Board") 82), _, fd, ["self", "most"], ds, [.int 20000], O, (h.meth (x := "Board") (m := "settle") 94), b, r, fun _ => .cons (.int _) .nil⟩
theorem km_Boardrows (h : Hd E) : KnM E 1 (aBoard E) "rows" (rBoardRows (aBoard E)) := by
  obtain ⟨fd, F⟩ := fd_Boardrows h
  exact ⟨(h.cls (x := "Board") 82), _, fd, ["self"], ok_board_rows (brC h) (h.free (x := "list") 57) F, (h.meth (x := "Board") (m := "rows") 95), (F.bindsN fun _ _ _ _ _ _ us hl => match us, hl with | [_], _ => rfl)⟩
theorem kn_need_heights (h : Hd E) : Kn E 2 "need_heights" (rNeedHeights (aBook E)) := by
  obtain ⟨fd, F⟩ := fd_need_heights h
  exact ⟨_, fd, ["book", "heights"], ok_need_heights (h.free (x := "len") 48) (h.free (x := "enumerate") 49) (h.int (x := "MOST_HEIGHT") (n := 6) 69) (km_Bookpads h) F, (h.glo (x := "need_heights") 26), F.kp, (F.bindsN fun _ _ _ _ _ _ us hl => match us, hl with | [_, _], _ => rfl)⟩
theorem kn_depths_of (h : Hd E) : Kn E 2 "depths_of" (rDepthsOf (aBook E)) := by
  obtain ⟨fd, F⟩ := fd_depths_of h
  exact ⟨_, fd, ["book", "some"], ok_depths_of (km_Bookpads h) (km_Bookshape h) F, (h.glo (x := "depths_of") 27), F.kp, (F.bindsN fun _ _ _ _ _ _ us hl => match us, hl with | [_, _], _ => rfl)⟩
theorem kn_clear_fillings (h : Hd E) : Kn E 3 "clear_fillings" (rClearFillings (aBook E)) := by
  obtain ⟨fd, F⟩ := fd_clear_fillings h
  exact ⟨_, fd, ["book", "sets", "heights"], ok_clear_fillings (h.free (x := "all") 53) (h.free (x := "zip") 51) (kn_depths_of h) (km_Bookcolours h) (kn_rows_of_notes h) (kn_signed h) F, (h.glo (x := "clear_fillings") 30), F.kp, (F.bindsN fun _ _ _ _ _ _ us hl => match us, hl with | [_, _, _], _ => rfl)⟩
theorem kn_clear (h : Hd E) : Kn E 4 "clear" (rClear (aBook E)) := by
  obtain ⟨fd, F⟩ := fd_clear h
  exact ⟨_, fd, ["book", "heights"], ok_clear (kn_need_heights h) (km_Bookapart_sets h) (kn_clear_fillings h) F, (h.glo (x := "clear") 31), F.kp, (F.bindsN fun _ _ _ _ _ _ us hl => match us, hl with | [_, _], _ => rfl)⟩
theorem kn_need_weights (h : Hd E) : Kn E 2 "need_weights" (rNeedWeights (aBook E)) := by
  obtain ⟨fd, F⟩ := fd_need_weights h
  exact ⟨_, fd, ["book", "weights"], ok_need_weights (h.free (x := "len") 48) (h.free (x := "enumerate") 49) (h.free (x := "all") 53) (h.free (x := "sum") 54) (h.int (x := "MOST_WEIGHT") (n := 999) 70) (km_Bookpads h) (km_Bookcolours h) F, (h.glo (x := "need_weights") 32), F.kp, (F.bindsN fun _ _ _ _ _ _ us hl => match us, hl with | [_, _], _ => rfl)⟩
theorem kn_weight_of (h : Hd E) : Kn E 2 "weight_of" (rWeightOf (aBook E)) := by
  obtain ⟨fd, F⟩ := fd_weight_of h
  exact ⟨_, fd, ["book", "weights", "some"], ok_weight_of (h.free (x := "enumerate") 49) (h.free (x := "sum") 54) (km_Bookshape h) F, (h.glo (x := "weight_of") 33), F.kp, (F.bindsN fun _ _ _ _ _ _ us hl => match us, hl with | [_, _, _], _ => rfl)⟩
theorem kn_weight_clear (h : Hd E) : Kn E 3 "weight_clear" (rWeightClear (aBook E)) := by
  obtain ⟨fd, F⟩ := fd_weight_clear h
  exact ⟨_, fd, ["book", "weights", "sets"], ok_weight_clear (h.free (x := "sum") 54) (kn_weight_of h) (kn_signed h) F, (h.glo (x := "weight_clear") 35), F.kp, (F.bindsN fun _ _ _ _ _ _ us hl => match us, hl with | [_, _, _], _ => rfl)⟩
theorem kn_clear_weight (h : Hd E) : Kn E 4 "clear_weight" (rClearWeight (aBook E)) := by
  obtain ⟨fd, F⟩ := fd_clear_weight h
  exact ⟨_, fd, ["book", "weights"], ok_clear_weight (kn_need_weights h) (km_Bookapart_sets h) (kn_weight_clear h) (kn_weight_of h) (kn_fraction h) F, (h.glo (x := "clear_weight") 36), F.kp, (F.bindsN fun _ _ _ _ _ _ us hl => match us, hl with | [_, _], _ => rfl)⟩
theorem kn_law_bag (h : Hd E) : Kn E 1 "_law_bag" rLawBag := by
  obtain ⟨fd, F⟩ := fd_law_bag h
  exact ⟨_, fd, ["_law_script"], ok_law_bag (h.free (x := "len") 48) (h.free (x := "list") 57) F, (h.glo (x := "_law_bag") 37), F.kp, (F.bindsN fun _ _ _ _ _ _ us hl => match us, hl with | [_], _ => rfl)⟩
theorem kn_law_pull (h : Hd E) : Kn E 1 "_law_pull" rLawPull := by
  obtain ⟨fd, F⟩ := fd_law_pull h
  exact ⟨_, fd, ["_law_bag_here", "_law_size"], ok_law_pull (h.free (x := "len") 48) F, (h.glo (x := "_law_pull") 38), F.kp, (F.bindsN fun _ _ _ _ _ _ us hl => match us, hl with | [_, _], _ => rfl)⟩
theorem kn_law_like (h : Hd E) : Kn E 1 "_law_like" rLikeI := by
  obtain ⟨fd, F⟩ := fd_law_like h
  exact ⟨_, fd, ["_law_one", "_law_due"], ok_like_i (isN h) F, (h.glo (x := "_law_like") 40), F.kp, (F.bindsN fun _ _ _ _ _ _ us hl => match us, hl with | [_, _], _ => rfl)⟩
theorem kn_law_likeT (h : Hd E) : Kn E 2 "_law_like" rLikeT := by
  obtain ⟨fd, F⟩ := fd_law_like h
  exact ⟨_, fd, ["_law_one", "_law_due"], ok_like_t (isN h) (kn_law_like h) F, (h.glo (x := "_law_like") 40), F.kp, (F.bindsN fun _ _ _ _ _ _ us hl => match us, hl with | [_, _], _ => rfl)⟩
theorem kn_law_lowest (h : Hd E) : Kn E 1 "_law_lowest" rLawLowest := by
  obtain ⟨fd, F⟩ := fd_law_lowest h
  exact ⟨_, fd, ["_law_over", "_law_under"], ok_law_lowest  F, (h.glo (x := "_law_lowest") 41), F.kp, (F.bindsN fun _ _ _ _ _ _ us hl => match us, hl with | [_, _], _ => rfl)⟩
theorem kn_law_power (h : Hd E) : Kn E 1 "_law_power" rLawPower := by
  obtain ⟨fd, F⟩ := fd_law_power h
  exact ⟨_, fd, ["_law_many", "_law_times"], ok_law_power (h.free (x := "range") 50) F, (h.glo (x := "_law_power") 42), F.kp, (F.bindsN fun _ _ _ _ _ _ us hl => match us, hl with | [_, _], _ => rfl)⟩
theorem kn_law_tops (h : Hd E) : Kn E 1 "_law_tops" rLawTops := by
  obtain ⟨fd, F⟩ := fd_law_tops h
  exact ⟨_, fd, ["_law_colours"], ok_law_tops (h.free (x := "range") 50) F, (h.glo (x := "_law_tops") 39), F.kp, (F.bindsN fun _ _ _ _ _ _ us hl => match us, hl with | [_], _ => rfl)⟩
theorem kn_law_copy (h : Hd E) : Kn E 1 "_law_copy" rLawCopy := by
  obtain ⟨fd, F⟩ := fd_law_copy h
  exact ⟨_, fd, ["_law_my_rows"], ok_law_copy (h.free (x := "list") 57) F, (h.glo (x := "_law_copy") 44), F.kp, (F.bindsN fun _ _ _ _ _ _ us hl => match us, hl with | [_], _ => rfl)⟩
theorem kn_law_rows (h : Hd E) : Kn E 2 "_law_rows" rLawRows := by
  obtain ⟨fd, F⟩ := fd_law_rows h
  exact ⟨_, fd, ["_law_bag_here", "_law_colours", "_law_most", "_law_ever"], ok_law_rows (h.free (x := "range") 50) (kn_law_pull h) F, (h.glo (x := "_law_rows") 43), F.kp, (F.bindsN fun _ _ _ _ _ _ us hl => match us, hl with | [_, _, _, _], _ => rfl)⟩
theorem lawK (h : Hd E) : LawK E (aBook E) (aBoard E) := ⟨(h.free (x := "range") 50), (h.free (x := "int") 58), (h.free (x := "all") 53), (h.free (x := "len") 48), kn_law_bag h, kn_law_pull h, kn_sinks h, kn_law_tops h, kn_law_like h, kn_law_likeT h, kn_clear h, kn_clear_weight h, kn_law_lowest h, kn_law_power h, brC h, kn_law_rows h, kn_law_copy h, ki_Board h, ku_Boardsettle h, km_Boardrows h, km_Bookfigures h⟩
theorem gloLaw (h : Hd E) : E.mg "law" = some (.ref (He.ga E.K "law")) := (h.glo (x := "law") 45)
end
/-- law, as the head leaves it -/
theorem facts {P : Program} {w : World} {K : PySem.W.Frag} {h : Heap} {mg : Str → Option Value} {f : Addr} (X : K.In h) (G : h.Ns mainGlobals mg) (hfa : mg ("law" : Str) = some (.ref f)) (c : He.SaysD fa fn K) :
    ∃ fd : FuncData, (∀ (s : Shared) (v : Value), BindsTo s fd ⟨[v], []⟩ [("_law_script", v)]) ∧ ∀ base : Heap, K.In base → base.Ns mainGlobals mg → FnOk P w K mg base CX0 11 f fd ["_law_script"] (spT K rLaw) := by
  have hd : ∀ base : Heap, Hd ⟨P, w, K, mg, base⟩ := fun base => ⟨⟨h, X, G⟩, c⟩
  obtain ⟨fd, F⟩ := fd_law (hd h)
  have e := hfa.symm.trans (gloLaw (hd h))
  cases e
  have b := FunD.bindsA (ps := ["_law_script"]) F fun _ _ _ _ _ _ us hl => match us, hl with | [_], _ => rfl
  exact ⟨fd, fun s v => b s [v] rfl, fun base _ _ => ok_law (E := ⟨P, w, K, mg, base⟩) (lawK (hd base)) F⟩
theorem sp_law {K : PySem.W.Frag} (H : Hp) (a : Addr) (ns : List Int) (hl : ns.length ≤ 63) (hS : SqL K H a (ns.map V.int)) : spT K rLaw [.ref a] H (fun v _ => v = .bl true) fun _ _ _ => False := by
  refine ⟨H, [tD (.list (ns.map .int))], tD (.bool true), Same.refl _, .cons (.lst hS (ints_dpa ns)) .nil, ⟨ns, Nat.le_trans hl (by decide), rfl, rfl⟩, fun v G' H' _ p => ?_⟩
  cases p
  rfl
end Tb
set_option Elab.async false
set_option linter.all false
set_option maxRecDepth 100000
set_option maxHeartbeats 0
namespace Tb
open PySem PySem.Spec PyProof.Rows L2

open HandSHeadRun PySem.W
theorem run0 (w : World) : HandSHeadRun.RunEq R (PySem.W.view R.prog [101]) hk ob 20000 nms (w.withFollow "special-get-raises" false) := by
  intro os
  kernel_rfl
theorem run1 (w : World) : HandSHeadRun.RunEq R (PySem.W.view R.prog [101]) hk ob 20000 nms (w.withFollow "special-get-raises" true) := by
  intro os
  kernel_rfl
theorem run (w : World) : HandSHeadRun.RunEq R (PySem.W.view R.prog [101]) hk ob 20000 nms w := PySem.W.byRow2 "special-get-raises" run0 run1 w
end Tb
open PySem PySem.W PySem.Calls PyProof.Rows
theorem holds_of (hc : WalkO (view Tb.R.prog [101]) Tb.nms (XL (view Tb.R.prog [101]) []) Tb.hk.says Tb.R.toRowW (HandSHeadRun.topDef Tb.R.prog 101) [] fun f vs => PySem.call f vs) : PySem.Challenge.rw_tearboard_k58_whole_sinks_counted.Holds := by
  w_on; o_law
  refine HandSHeadRun.head_any (r := Tb.R) (q := view Tb.R.prog [101]) (H := Tb.hk) (ob := Tb.ob) (M := 20000) (loose := Tb.nms) (d := HandSHeadRun.topDef Tb.R.prog 101) (kwd := []) Tb.ob_eq
    (by kernel_rfl) (fun s => by kernel_rfl) Tb.run (by kernel_rfl) (by kernel_rfl) (by kernel_rfl) (by rfl) (by first | assumption | decide +kernel) (by decide +kernel) ⟨rfl, rfl, rfl, rfl, rfl, by decide +kernel⟩ ?hw ?hc
  case hw => w_witness2
  case hc => exact hc
theorem PySem.Challenge.cw_tearboard_k58_whole_sinks_counted_holds : PySem.Challenge.rw_tearboard_k58_whole_sinks_counted.Holds := by
  refine holds_of ?_
  refine L2.walk_ofE (l := PySem.Challenge.rw_tearboard_k58_whole_sinks_counted) (n := 63) (k := 11) (x := "_law_script") (CX := L2.CX0) rfl (by decide) (by kernel_rfl) ⟨rfl, by decide, by decide⟩ ?F (fun _ _ _ _ z => z)
  intro w mg fa h Y G hmg0
  obtain ⟨K, KX, c⟩ := Y
  have hmg : mg ("law" : PySem.Str) = some (.ref fa) := by
    have e : (HandSHeadRun.topDef Tb.R.prog 101).name = ("law" : PySem.Str) := by kernel_rfl
    rw [← e]
    exact hmg0
  obtain ⟨fd, hb, hF⟩ := Tb.facts (P := (PySem.Challenge.rw_tearboard_k58_whole_sinks_counted).prog) (w := w) KX G hmg c
  exact ⟨K, fd, DL.spT K Tb.rLaw, KX, hb, fun H a ns hl _ hS => Tb.sp_law H a ns hl hS, hF⟩
