import PyProof.Rows.All
import Wide.All
import OpenK.AllK
import Wide.FinOn
import PySem.Challenge.RW_ringlaps_k59_whole_faithful_exactly
import HandS.ForMost
import HandS.Exc
import HandS.TryOnly
import HandS.TryMany
import HandS.ExcOwn
import HandS.WordsExc
import HandS.CallSlots
import HandS.Defaults
import HandS.IsInst
import HandS.SortInts
import HandS.SortKw
import HandS.Conv
import HandS.More
import HandS.DictComp
import HandS.ListItems
import HandS.Flow
import HandS.HeadHook1
import HandS.Style
import KE.KStateDown
import HandS.Head0
import HandS.Head1
import HandS.Head2
import HandS.HeadEnd
import HandS.HeadHook2
import HandS.HeadWalk
import HandS.TupAny
import HandS.Sort
import HandS.SortRule
import HandS.Zip
import HandS.SetKeys
import HandS.SetFor
import HandS.MakeKwOnly
import HandS.MakeKw
set_option Elab.async false
set_option linter.all false
set_option maxRecDepth 100000
set_option maxHeartbeats 4000000
namespace VL
open PySem PySem.Spec
open PyProof.Rows hiding St
def clsBody (s : Stmt) : List Stmt := match s with
  | .ClassDef _ _ _ b _ _ _ _ _ _ _ => b
  | _ => []
end VL
set_option maxRecDepth 100000
set_option maxHeartbeats 8000000
namespace Lk59
open PySem PySem.Spec L2 VL
open PyProof.Rows hiding St
def fn : List He.DefD := [⟨("_law_tape", none), "_law_tape", "_law_tape", defArgs (PySem.Challenge.pw_ringlaps_k59_whole_faithful_exactly.main.body.getD 25 (.Pass ⟨0, 0, 0, 0⟩)), defBody (PySem.Challenge.pw_ringlaps_k59_whole_faithful_exactly.main.body.getD 25 (.Pass ⟨0, 0, 0, 0⟩)), defScope (PySem.Challenge.pw_ringlaps_k59_whole_faithful_exactly.main.body.getD 25 (.Pass ⟨0, 0, 0, 0⟩)), [], []⟩,
  ⟨("_law_pick", none), "_law_pick", "_law_pick", defArgs (PySem.Challenge.pw_ringlaps_k59_whole_faithful_exactly.main.body.getD 26 (.Pass ⟨0, 0, 0, 0⟩)), defBody (PySem.Challenge.pw_ringlaps_k59_whole_faithful_exactly.main.body.getD 26 (.Pass ⟨0, 0, 0, 0⟩)), defScope (PySem.Challenge.pw_ringlaps_k59_whole_faithful_exactly.main.body.getD 26 (.Pass ⟨0, 0, 0, 0⟩)), [], []⟩,
  ⟨("_law_size", none), "_law_size", "_law_size", defArgs (PySem.Challenge.pw_ringlaps_k59_whole_faithful_exactly.main.body.getD 27 (.Pass ⟨0, 0, 0, 0⟩)), defBody (PySem.Challenge.pw_ringlaps_k59_whole_faithful_exactly.main.body.getD 27 (.Pass ⟨0, 0, 0, 0⟩)), defScope (PySem.Challenge.pw_ringlaps_k59_whole_faithful_exactly.main.body.getD 27 (.Pass ⟨0, 0, 0, 0⟩)), [], []⟩,
  ⟨("_law_places", none), "_law_places", "_law_places", defArgs (PySem.Challenge.pw_ringlaps_k59_whole_faithful_exactly.main.body.getD 28 (.Pass ⟨0, 0, 0, 0⟩)), defBody (PySem.Challenge.pw_ringlaps_k59_whole_faithful_exactly.main.body.getD 28 (.Pass ⟨0, 0, 0, 0⟩)), defScope (PySem.Challenge.pw_ringlaps_k59_whole_faithful_exactly.main.body.getD 28 (.Pass ⟨0, 0, 0, 0⟩)), [], []⟩,
  ⟨("_law_nexts", none), "_law_nexts", "_law_nexts", defArgs (PySem.Challenge.pw_ringlaps_k59_whole_faithful_exactly.main.body.getD 29 (.Pass ⟨0, 0, 0, 0⟩)), defBody (PySem.Challenge.pw_ringlaps_k59_whole_faithful_exactly.main.body.getD 29 (.Pass ⟨0, 0, 0, 0⟩)), defScope (PySem.Challenge.pw_ringlaps_k59_whole_faithful_exactly.main.body.getD 29 (.Pass ⟨0, 0, 0, 0⟩)), [], []⟩,
  ⟨("_law_behinds", none), "_law_behinds", "_law_behinds", defArgs (PySem.Challenge.pw_ringlaps_k59_whole_faithful_exactly.main.body.getD 35 (.Pass ⟨0, 0, 0, 0⟩)), defBody (PySem.Challenge.pw_ringlaps_k59_whole_faithful_exactly.main.body.getD 35 (.Pass ⟨0, 0, 0, 0⟩)), defScope (PySem.Challenge.pw_ringlaps_k59_whole_faithful_exactly.main.body.getD 35 (.Pass ⟨0, 0, 0, 0⟩)), [], []⟩,
  ⟨("check_place", none), "check_place", "check_place", defArgs (PySem.Challenge.pw_ringlaps_k59_whole_faithful_exactly.main.body.getD 20 (.Pass ⟨0, 0, 0, 0⟩)), defBody (PySem.Challenge.pw_ringlaps_k59_whole_faithful_exactly.main.body.getD 20 (.Pass ⟨0, 0, 0, 0⟩)), defScope (PySem.Challenge.pw_ringlaps_k59_whole_faithful_exactly.main.body.getD 20 (.Pass ⟨0, 0, 0, 0⟩)), [], []⟩,
  ⟨("check_houses", none), "check_houses", "check_houses", defArgs (PySem.Challenge.pw_ringlaps_k59_whole_faithful_exactly.main.body.getD 21 (.Pass ⟨0, 0, 0, 0⟩)), defBody (PySem.Challenge.pw_ringlaps_k59_whole_faithful_exactly.main.body.getD 21 (.Pass ⟨0, 0, 0, 0⟩)), defScope (PySem.Challenge.pw_ringlaps_k59_whole_faithful_exactly.main.body.getD 21 (.Pass ⟨0, 0, 0, 0⟩)), [], []⟩,
  ⟨("letter_places", none), "letter_places", "letter_places", defArgs (PySem.Challenge.pw_ringlaps_k59_whole_faithful_exactly.main.body.getD 18 (.Pass ⟨0, 0, 0, 0⟩)), defBody (PySem.Challenge.pw_ringlaps_k59_whole_faithful_exactly.main.body.getD 18 (.Pass ⟨0, 0, 0, 0⟩)), defScope (PySem.Challenge.pw_ringlaps_k59_whole_faithful_exactly.main.body.getD 18 (.Pass ⟨0, 0, 0, 0⟩)), [], []⟩,
  ⟨("check_tables", none), "check_tables", "check_tables", defArgs (PySem.Challenge.pw_ringlaps_k59_whole_faithful_exactly.main.body.getD 22 (.Pass ⟨0, 0, 0, 0⟩)), defBody (PySem.Challenge.pw_ringlaps_k59_whole_faithful_exactly.main.body.getD 22 (.Pass ⟨0, 0, 0, 0⟩)), defScope (PySem.Challenge.pw_ringlaps_k59_whole_faithful_exactly.main.body.getD 22 (.Pass ⟨0, 0, 0, 0⟩)), [], []⟩,
  ⟨("Net", some "__init__"), "__init__", "Net.__init__", defArgs ((clsBody (PySem.Challenge.pw_ringlaps_k59_whole_faithful_exactly.main.body.getD 23 (.Pass ⟨0, 0, 0, 0⟩))).getD 0 (.Pass ⟨0, 0, 0, 0⟩)), defBody ((clsBody (PySem.Challenge.pw_ringlaps_k59_whole_faithful_exactly.main.body.getD 23 (.Pass ⟨0, 0, 0, 0⟩))).getD 0 (.Pass ⟨0, 0, 0, 0⟩)), defScope ((clsBody (PySem.Challenge.pw_ringlaps_k59_whole_faithful_exactly.main.body.getD 23 (.Pass ⟨0, 0, 0, 0⟩))).getD 0 (.Pass ⟨0, 0, 0, 0⟩)), [], [("befores", .non), ("letters", .non)]⟩,
  ⟨("_law_same", none), "_law_same", "_law_same", defArgs (PySem.Challenge.pw_ringlaps_k59_whole_faithful_exactly.main.body.getD 32 (.Pass ⟨0, 0, 0, 0⟩)), defBody (PySem.Challenge.pw_ringlaps_k59_whole_faithful_exactly.main.body.getD 32 (.Pass ⟨0, 0, 0, 0⟩)), defScope (PySem.Challenge.pw_ringlaps_k59_whole_faithful_exactly.main.body.getD 32 (.Pass ⟨0, 0, 0, 0⟩)), [], []⟩,
  ⟨("Net", some "nexts"), "nexts", "Net.nexts", defArgs ((clsBody (PySem.Challenge.pw_ringlaps_k59_whole_faithful_exactly.main.body.getD 23 (.Pass ⟨0, 0, 0, 0⟩))).getD 4 (.Pass ⟨0, 0, 0, 0⟩)), defBody ((clsBody (PySem.Challenge.pw_ringlaps_k59_whole_faithful_exactly.main.body.getD 23 (.Pass ⟨0, 0, 0, 0⟩))).getD 4 (.Pass ⟨0, 0, 0, 0⟩)), defScope ((clsBody (PySem.Challenge.pw_ringlaps_k59_whole_faithful_exactly.main.body.getD 23 (.Pass ⟨0, 0, 0, 0⟩))).getD 4 (.Pass ⟨0, 0, 0, 0⟩)), [], []⟩,
  ⟨("_law_ordered", none), "_law_ordered", "_law_ordered", defArgs (PySem.Challenge.pw_ringlaps_k59_whole_faithful_exactly.main.body.getD 33 (.Pass ⟨0, 0, 0, 0⟩)), defBody (PySem.Challenge.pw_ringlaps_k59_whole_faithful_exactly.main.body.getD 33 (.Pass ⟨0, 0, 0, 0⟩)), defScope (PySem.Challenge.pw_ringlaps_k59_whole_faithful_exactly.main.body.getD 33 (.Pass ⟨0, 0, 0, 0⟩)), [], []⟩,
  ⟨("Net", some "befores"), "befores", "Net.befores", defArgs ((clsBody (PySem.Challenge.pw_ringlaps_k59_whole_faithful_exactly.main.body.getD 23 (.Pass ⟨0, 0, 0, 0⟩))).getD 5 (.Pass ⟨0, 0, 0, 0⟩)), defBody ((clsBody (PySem.Challenge.pw_ringlaps_k59_whole_faithful_exactly.main.body.getD 23 (.Pass ⟨0, 0, 0, 0⟩))).getD 5 (.Pass ⟨0, 0, 0, 0⟩)), defScope ((clsBody (PySem.Challenge.pw_ringlaps_k59_whole_faithful_exactly.main.body.getD 23 (.Pass ⟨0, 0, 0, 0⟩))).getD 5 (.Pass ⟨0, 0, 0, 0⟩)), [], []⟩,
  ⟨("Net", some "letters"), "letters", "Net.letters", defArgs ((clsBody (PySem.Challenge.pw_ringlaps_k59_whole_faithful_exactly.main.body.getD 23 (.Pass ⟨0, 0, 0, 0⟩))).getD 6 (.Pass ⟨0, 0, 0, 0⟩)), defBody ((clsBody (PySem.Challenge.pw_ringlaps_k59_whole_faithful_exactly.main.body.getD 23 (.Pass ⟨0, 0, 0, 0⟩))).getD 6 (.Pass ⟨0, 0, 0, 0⟩)), defScope ((clsBody (PySem.Challenge.pw_ringlaps_k59_whole_faithful_exactly.main.body.getD 23 (.Pass ⟨0, 0, 0, 0⟩))).getD 6 (.Pass ⟨0, 0, 0, 0⟩)), [], []⟩,
  ⟨("_law_stands", none), "_law_stands", "_law_stands", defArgs (PySem.Challenge.pw_ringlaps_k59_whole_faithful_exactly.main.body.getD 34 (.Pass ⟨0, 0, 0, 0⟩)), defBody (PySem.Challenge.pw_ringlaps_k59_whole_faithful_exactly.main.body.getD 34 (.Pass ⟨0, 0, 0, 0⟩)), defScope (PySem.Challenge.pw_ringlaps_k59_whole_faithful_exactly.main.body.getD 34 (.Pass ⟨0, 0, 0, 0⟩)), [], []⟩,
  ⟨("_law_letter", none), "_law_letter", "_law_letter", defArgs (PySem.Challenge.pw_ringlaps_k59_whole_faithful_exactly.main.body.getD 36 (.Pass ⟨0, 0, 0, 0⟩)), defBody (PySem.Challenge.pw_ringlaps_k59_whole_faithful_exactly.main.body.getD 36 (.Pass ⟨0, 0, 0, 0⟩)), defScope (PySem.Challenge.pw_ringlaps_k59_whole_faithful_exactly.main.body.getD 36 (.Pass ⟨0, 0, 0, 0⟩)), [], []⟩,
  ⟨("_law_far", none), "_law_far", "_law_far", defArgs (PySem.Challenge.pw_ringlaps_k59_whole_faithful_exactly.main.body.getD 30 (.Pass ⟨0, 0, 0, 0⟩)), defBody (PySem.Challenge.pw_ringlaps_k59_whole_faithful_exactly.main.body.getD 30 (.Pass ⟨0, 0, 0, 0⟩)), defScope (PySem.Challenge.pw_ringlaps_k59_whole_faithful_exactly.main.body.getD 30 (.Pass ⟨0, 0, 0, 0⟩)), [], []⟩,
  ⟨("_law_between", none), "_law_between", "_law_between", defArgs (PySem.Challenge.pw_ringlaps_k59_whole_faithful_exactly.main.body.getD 31 (.Pass ⟨0, 0, 0, 0⟩)), defBody (PySem.Challenge.pw_ringlaps_k59_whole_faithful_exactly.main.body.getD 31 (.Pass ⟨0, 0, 0, 0⟩)), defScope (PySem.Challenge.pw_ringlaps_k59_whole_faithful_exactly.main.body.getD 31 (.Pass ⟨0, 0, 0, 0⟩)), [], []⟩,
  ⟨("each_held_once", none), "each_held_once", "each_held_once", defArgs (PySem.Challenge.pw_ringlaps_k59_whole_faithful_exactly.main.body.getD 16 (.Pass ⟨0, 0, 0, 0⟩)), defBody (PySem.Challenge.pw_ringlaps_k59_whole_faithful_exactly.main.body.getD 16 (.Pass ⟨0, 0, 0, 0⟩)), defScope (PySem.Challenge.pw_ringlaps_k59_whole_faithful_exactly.main.body.getD 16 (.Pass ⟨0, 0, 0, 0⟩)), [], []⟩,
  ⟨("_law_kept", none), "_law_kept", "_law_kept", defArgs (PySem.Challenge.pw_ringlaps_k59_whole_faithful_exactly.main.body.getD 37 (.Pass ⟨0, 0, 0, 0⟩)), defBody (PySem.Challenge.pw_ringlaps_k59_whole_faithful_exactly.main.body.getD 37 (.Pass ⟨0, 0, 0, 0⟩)), defScope (PySem.Challenge.pw_ringlaps_k59_whole_faithful_exactly.main.body.getD 37 (.Pass ⟨0, 0, 0, 0⟩)), [], []⟩,
  ⟨("Net", some "clone"), "clone", "Net.clone", defArgs ((clsBody (PySem.Challenge.pw_ringlaps_k59_whole_faithful_exactly.main.body.getD 23 (.Pass ⟨0, 0, 0, 0⟩))).getD 8 (.Pass ⟨0, 0, 0, 0⟩)), defBody ((clsBody (PySem.Challenge.pw_ringlaps_k59_whole_faithful_exactly.main.body.getD 23 (.Pass ⟨0, 0, 0, 0⟩))).getD 8 (.Pass ⟨0, 0, 0, 0⟩)), defScope ((clsBody (PySem.Challenge.pw_ringlaps_k59_whole_faithful_exactly.main.body.getD 23 (.Pass ⟨0, 0, 0, 0⟩))).getD 8 (.Pass ⟨0, 0, 0, 0⟩)), [], []⟩,
  ⟨("far", none), "far", "far", defArgs (PySem.Challenge.pw_ringlaps_k59_whole_faithful_exactly.main.body.getD 2 (.Pass ⟨0, 0, 0, 0⟩)), defBody (PySem.Challenge.pw_ringlaps_k59_whole_faithful_exactly.main.body.getD 2 (.Pass ⟨0, 0, 0, 0⟩)), defScope (PySem.Challenge.pw_ringlaps_k59_whole_faithful_exactly.main.body.getD 2 (.Pass ⟨0, 0, 0, 0⟩)), [], []⟩,
  ⟨("is_true", none), "is_true", "is_true", defArgs (PySem.Challenge.pw_ringlaps_k59_whole_faithful_exactly.main.body.getD 10 (.Pass ⟨0, 0, 0, 0⟩)), defBody (PySem.Challenge.pw_ringlaps_k59_whole_faithful_exactly.main.body.getD 10 (.Pass ⟨0, 0, 0, 0⟩)), defScope (PySem.Challenge.pw_ringlaps_k59_whole_faithful_exactly.main.body.getD 10 (.Pass ⟨0, 0, 0, 0⟩)), [], []⟩,
  ⟨("holds_true", none), "holds_true", "holds_true", defArgs (PySem.Challenge.pw_ringlaps_k59_whole_faithful_exactly.main.body.getD 11 (.Pass ⟨0, 0, 0, 0⟩)), defBody (PySem.Challenge.pw_ringlaps_k59_whole_faithful_exactly.main.body.getD 11 (.Pass ⟨0, 0, 0, 0⟩)), defScope (PySem.Challenge.pw_ringlaps_k59_whole_faithful_exactly.main.body.getD 11 (.Pass ⟨0, 0, 0, 0⟩)), [], []⟩,
  ⟨("Net", some "hold"), "hold", "Net.hold", defArgs ((clsBody (PySem.Challenge.pw_ringlaps_k59_whole_faithful_exactly.main.body.getD 23 (.Pass ⟨0, 0, 0, 0⟩))).getD 20 (.Pass ⟨0, 0, 0, 0⟩)), defBody ((clsBody (PySem.Challenge.pw_ringlaps_k59_whole_faithful_exactly.main.body.getD 23 (.Pass ⟨0, 0, 0, 0⟩))).getD 20 (.Pass ⟨0, 0, 0, 0⟩)), defScope ((clsBody (PySem.Challenge.pw_ringlaps_k59_whole_faithful_exactly.main.body.getD 23 (.Pass ⟨0, 0, 0, 0⟩))).getD 20 (.Pass ⟨0, 0, 0, 0⟩)), [], []⟩,
  ⟨("_law_held", none), "_law_held", "_law_held", defArgs (PySem.Challenge.pw_ringlaps_k59_whole_faithful_exactly.main.body.getD 38 (.Pass ⟨0, 0, 0, 0⟩)), defBody (PySem.Challenge.pw_ringlaps_k59_whole_faithful_exactly.main.body.getD 38 (.Pass ⟨0, 0, 0, 0⟩)), defScope (PySem.Challenge.pw_ringlaps_k59_whole_faithful_exactly.main.body.getD 38 (.Pass ⟨0, 0, 0, 0⟩)), [], []⟩,
  ⟨("refuse_strangers", none), "refuse_strangers", "refuse_strangers", defArgs (PySem.Challenge.pw_ringlaps_k59_whole_faithful_exactly.main.body.getD 13 (.Pass ⟨0, 0, 0, 0⟩)), defBody (PySem.Challenge.pw_ringlaps_k59_whole_faithful_exactly.main.body.getD 13 (.Pass ⟨0, 0, 0, 0⟩)), defScope (PySem.Challenge.pw_ringlaps_k59_whole_faithful_exactly.main.body.getD 13 (.Pass ⟨0, 0, 0, 0⟩)), [], []⟩,
  ⟨("Net", some "next_of"), "next_of", "Net.next_of", defArgs ((clsBody (PySem.Challenge.pw_ringlaps_k59_whole_faithful_exactly.main.body.getD 23 (.Pass ⟨0, 0, 0, 0⟩))).getD 2 (.Pass ⟨0, 0, 0, 0⟩)), defBody ((clsBody (PySem.Challenge.pw_ringlaps_k59_whole_faithful_exactly.main.body.getD 23 (.Pass ⟨0, 0, 0, 0⟩))).getD 2 (.Pass ⟨0, 0, 0, 0⟩)), defScope ((clsBody (PySem.Challenge.pw_ringlaps_k59_whole_faithful_exactly.main.body.getD 23 (.Pass ⟨0, 0, 0, 0⟩))).getD 2 (.Pass ⟨0, 0, 0, 0⟩)), [], []⟩,
  ⟨("between", none), "between", "between", defArgs (PySem.Challenge.pw_ringlaps_k59_whole_faithful_exactly.main.body.getD 3 (.Pass ⟨0, 0, 0, 0⟩)), defBody (PySem.Challenge.pw_ringlaps_k59_whole_faithful_exactly.main.body.getD 3 (.Pass ⟨0, 0, 0, 0⟩)), defScope (PySem.Challenge.pw_ringlaps_k59_whole_faithful_exactly.main.body.getD 3 (.Pass ⟨0, 0, 0, 0⟩)), [], []⟩,
  ⟨("is_faithful", none), "is_faithful", "is_faithful", defArgs (PySem.Challenge.pw_ringlaps_k59_whole_faithful_exactly.main.body.getD 14 (.Pass ⟨0, 0, 0, 0⟩)), defBody (PySem.Challenge.pw_ringlaps_k59_whole_faithful_exactly.main.body.getD 14 (.Pass ⟨0, 0, 0, 0⟩)), defScope (PySem.Challenge.pw_ringlaps_k59_whole_faithful_exactly.main.body.getD 14 (.Pass ⟨0, 0, 0, 0⟩)), [], []⟩,
  ⟨("law", none), "law", "law", defArgs (PySem.Challenge.pw_ringlaps_k59_whole_faithful_exactly.main.body.getD 39 (.Pass ⟨0, 0, 0, 0⟩)), defBody (PySem.Challenge.pw_ringlaps_k59_whole_faithful_exactly.main.body.getD 39 (.Pass ⟨0, 0, 0, 0⟩)), defScope (PySem.Challenge.pw_ringlaps_k59_whole_faithful_exactly.main.body.getD 39 (.Pass ⟨0, 0, 0, 0⟩)), [], []⟩]
def fa : List He.Fa := [.free "int", .free "abs", .free "len", .free "max", .free "range", .free "sorted", .cls "Net", .noat "Net" "size", .free "dict", .noat "Net" "_nexts", .noat "Net" "_befores", .free "list", .noat "Net" "_letters", .free "isinstance", .free "bool", .free "str", .free "tuple", .glo "_law_tape", .glo "_law_pick", .glo "_law_size", .glo "_law_places", .glo "_law_nexts", .glo "_law_behinds", .glo "check_place", .glo "check_houses", .glo "letter_places", .glo "check_tables", .mkr "Net", .glo "Net", .glo "_law_same", .meth "Net" "nexts", .glo "_law_ordered", .meth "Net" "befores", .meth "Net" "letters", .glo "_law_stands", .glo "_law_letter", .glo "_law_far", .glo "_law_between", .glo "each_held_once", .glo "_law_kept", .meth "Net" "clone", .glo "far", .glo "is_true", .glo "holds_true", .meth "Net" "hold", .glo "_law_held", .glo "refuse_strangers", .meth "Net" "next_of", .glo "between", .glo "is_faithful", .glo "law"]
abbrev Rw : PySem.W.OpenRow := PySem.W.OpenLaw.row PySem.Challenge.rw_ringlaps_k59_whole_faithful_exactly
abbrev hk : PySem.W.Hook := He.hookD 6 fa fn
def ob (s : PySem.W.SharedT) : He.AlD := He.obsDG 6 fa fn (HandSHeadRun.getT s)
theorem ob_eq (s : PySem.W.SharedT) : ob s = hk.obs s.abs := He.obsDG_eq (HandSHeadRun.getT_eq s)
theorem run (w : World) : HandSHeadRun.RunEq Rw (PySem.W.view Rw.prog [39]) hk ob 4000 ["_wall", "far", "between", "RingError", "OffCircle", "NoHouse", "NoLetter", "is_true", "holds_true", "refuse_strangers", "is_faithful", "each_held_once", "letter_places", "check_place", "check_houses", "check_tables", "Net", "_law_tape", "_law_pick", "_law_size", "_law_places", "_law_nexts", "_law_far", "_law_between", "_law_same", "_law_ordered", "_law_stands", "_law_behinds", "_law_letter", "_law_kept", "_law_held"] w := by
  intro os
  kernel_rfl
def hd := fun hw hc => HandSHeadRun.head_any (r := PySem.W.OpenLaw.row PySem.Challenge.rw_ringlaps_k59_whole_faithful_exactly) (q := PySem.W.view (PySem.W.OpenLaw.row PySem.Challenge.rw_ringlaps_k59_whole_faithful_exactly).prog [39]) (H := hk) (ob := ob) (M := 4000) (loose := ["_wall", "far", "between", "RingError", "OffCircle", "NoHouse", "NoLetter", "is_true", "holds_true", "refuse_strangers", "is_faithful", "each_held_once", "letter_places", "check_place", "check_houses", "check_tables", "Net", "_law_tape", "_law_pick", "_law_size", "_law_places", "_law_nexts", "_law_far", "_law_between", "_law_same", "_law_ordered", "_law_stands", "_law_behinds", "_law_letter", "_law_kept", "_law_held"]) (d := HandSHeadRun.topDef (PySem.W.OpenLaw.row PySem.Challenge.rw_ringlaps_k59_whole_faithful_exactly).prog 39) (kwd := []) ob_eq
  (by kernel_rfl) (fun s => by kernel_rfl) run (by kernel_rfl) (by kernel_rfl) (by kernel_rfl) (by rfl) (by decide +kernel) (by decide +kernel) ⟨rfl, rfl, rfl, rfl, rfl, by decide +kernel⟩ hw hc
end Lk59
set_option maxRecDepth 100000
set_option maxHeartbeats 4000000
namespace VL
open PySem PySem.Spec L2
open PyProof.Rows hiding St
inductive D where
  | non | bl (b : Bool) | int (i : Int) | str (x : Str)
  | ins (k : Nat)
  | frz (xs : List D) | lst (xs : List D) | tup (xs : List D) | dct (kvs : List (Key × D))
/-- what a place of one's own holds -/
inductive C where
  | lst (xs : List D) | dct (kvs : List (Key × D)) | lkd (kvs : List (Key × D))
/-- an operand: data that never changes; a new object that nobody else has; the frame's own i-th name; the caller's n-th cell; the j-th cell of the k-th instance -/
inductive R where
  | val (d : D) | tmp (c : C) | var (i : Nat) | pc (n : Nat) | ic (k j : Nat)
inductive S where
  | no | val (d : D) | own (c : C) | lck (c : C) | pc (n : Nat) | ic (k j : Nat)
inductive F where
  | val (d : D) | cell (j : Nat)
structure Inst where
  cls : Str
  fs : List (Str × F)
  cells : List C
structure FS where
  env : List S
  pcs : List C
  g : List Inst
structure Ex where
  cls : Str
  fs : List (Str × D)
inductive Res (α : Type) where
  | stuck | ok (a : α) (s : FS) | exc (e : Ex) (s : FS)
abbrev M (α : Type) := FS → Res α
inductive SRes where
  | stuck | next (s : FS) | brk (s : FS) | cont (s : FS) | ret (r : R) (s : FS) | exc (e : Ex) (s : FS)
abbrev SM := FS → SRes
inductive DRes where
  | stuck | ok (r : R) (cs : List C) (g : List Inst) | exc (e : Ex) (cs : List C) (g : List Inst)
abbrev Den := List R → List C → List Inst → DRes
def Res.bind {α β : Type} (x : Res α) (f : α → M β) : Res β := match x with
  | .stuck => .stuck
  | .ok a s => f a s
  | .exc e s => .exc e s
inductive Own where
  | slot (i : Nat) | pc (n : Nat) | ins (k : Nat) | idc (k : Nat) | ic (k j : Nat)
  deriving DecidableEq
structure Mp where
  P : Hp
  L : Hp
  O : Addr → Option Own
  al : Nat → Addr
  n : Nat
  io : Nat → Addr
  dx : Nat → Addr
  nc : Nat → Nat
  ic : Nat → Nat → Addr
  lks : Nat → Option Addr
  Z : Addr → Option HO
mutual
inductive RepD (K : PySem.W.Frag) (P : Hp) (io : Nat → Addr) (n : Nat) : V → D → Prop
  | non : RepD K P io n .non .non
  | bl {b} : RepD K P io n (.bl b) (.bl b)
  | int {i} : RepD K P io n (.int i) (.int i)
  | str {x} : RepD K P io n (.str x) (.str x)
  | ins {k} : k < n → RepD K P io n (.ref (io k)) (.ins k)
  | frz {a vs ds} : SqL K P a vs → RepDs K P io n vs ds → RepD K P io n (.ref a) (.frz ds)
  | lst {a vs ds} : P a = some (.lst vs) → RepDs K P io n vs ds → RepD K P io n (.ref a) (.lst ds)
  | tup {a vs ds} : P a = some (.tup vs) → RepDs K P io n vs ds → RepD K P io n (.ref a) (.tup ds)
  | dct {a kvs kds} : P a = some (.dK kvs) → RepKs K P io n kvs kds → RepD K P io n (.ref a) (.dct kds)
inductive RepDs (K : PySem.W.Frag) (P : Hp) (io : Nat → Addr) (n : Nat) : List V → List D → Prop
  | nil : RepDs K P io n [] []
  | cons {v d vs ds} : RepD K P io n v d → RepDs K P io n vs ds → RepDs K P io n (v :: vs) (d :: ds)
inductive RepKs (K : PySem.W.Frag) (P : Hp) (io : Nat → Addr) (n : Nat) : List (Key × V) → List (Key × D) → Prop
  | nil : RepKs K P io n [] []
  | cons {k v d vs ds} : RepD K P io n v d → RepKs K P io n vs ds → RepKs K P io n ((k, v) :: vs) ((k, d) :: ds)
end
theorem sqL_mono {K : PySem.W.Frag} {P P' : Hp} (h : ∀ a o, P a = some o → P' a = some o) {a : Addr} {vs : List V} (x : SqL K P a vs) : SqL K P' a vs := by
  rcases x with (x | ⟨o, x⟩) | x
  · exact .inl (.inl (h _ _ x))
  · exact .inl (.inr ⟨o, h _ _ x⟩)
  · exact .inr x
section
variable {K : PySem.W.Frag} {P P' : Hp} {io io' : Nat → Addr} {n n' : Nat}
mutual
theorem RepD.mono (h1 : ∀ a o, P a = some o → P' a = some o) (h2 : n ≤ n') (h3 : ∀ k, k < n → io' k = io k) : ∀ {v d}, RepD K P io n v d → RepD K P' io' n' v d
  | _, _, .non => .non
  | _, _, .bl => .bl
  | _, _, .int => .int
  | _, _, .str => .str
  | _, _, .ins (k := k) hk => by rw [← h3 k hk]; exact .ins (Nat.lt_of_lt_of_le hk h2)
  | _, _, .frz a r => .frz (sqL_mono h1 a) (RepDs.mono h1 h2 h3 r)
  | _, _, .lst a r => .lst (h1 _ _ a) (RepDs.mono h1 h2 h3 r)
  | _, _, .tup a r => .tup (h1 _ _ a) (RepDs.mono h1 h2 h3 r)
  | _, _, .dct a r => .dct (h1 _ _ a) (RepKs.mono h1 h2 h3 r)
theorem RepDs.mono (h1 : ∀ a o, P a = some o → P' a = some o) (h2 : n ≤ n') (h3 : ∀ k, k < n → io' k = io k) : ∀ {v d}, RepDs K P io n v d → RepDs K P' io' n' v d
  | _, _, .nil => .nil
  | _, _, .cons a r => .cons (RepD.mono h1 h2 h3 a) (RepDs.mono h1 h2 h3 r)
theorem RepKs.mono (h1 : ∀ a o, P a = some o → P' a = some o) (h2 : n ≤ n') (h3 : ∀ k, k < n → io' k = io k) : ∀ {v d}, RepKs K P io n v d → RepKs K P' io' n' v d
  | _, _, .nil => .nil
  | _, _, .cons a r => .cons (RepD.mono h1 h2 h3 a) (RepKs.mono h1 h2 h3 r)
end
theorem RepDs.length : ∀ {vs : List V} {ds : List D}, RepDs K P io n vs ds → vs.length = ds.length
  | _, _, .nil => rfl
  | _, _, .cons _ r => by simp only [List.length_cons, RepDs.length r]
theorem RepDs.append : ∀ {vs ws : List V} {ds es : List D}, RepDs K P io n vs ds → RepDs K P io n ws es → RepDs K P io n (vs ++ ws) (ds ++ es)
  | _, _, _, _, .nil, q => q
  | _, _, _, _, .cons a r, q => .cons a (RepDs.append r q)
theorem RepDs.get : ∀ {vs : List V} {ds : List D} {i : Nat} {d : D}, RepDs K P io n vs ds → ds[i]? = some d → ∃ v, vs[i]? = some v ∧ RepD K P io n v d
  | _, _, _, _, .nil, e => by simp at e
  | _, _, 0, d, .cons (v := v) a r, e => by
    simp only [List.getElem?_cons_zero, Option.some.injEq] at e
    subst e
    exact ⟨v, rfl, a⟩
  | _, _, i + 1, d, .cons a r, e => by
    simp only [List.getElem?_cons_succ] at e ⊢
    exact RepDs.get r e
theorem RepDs.getV : ∀ {vs : List V} {ds : List D} {i : Nat} {v : V}, RepDs K P io n vs ds → vs[i]? = some v → ∃ d, ds[i]? = some d ∧ RepD K P io n v d
  | _, _, _, _, .nil, e => by simp at e
  | _, _, 0, _, .cons (d := d) a r, e => by
    simp only [List.getElem?_cons_zero, Option.some.injEq] at e
    subst e
    exact ⟨d, rfl, a⟩
  | _, _, i + 1, _, .cons a r, e => by
    simp only [List.getElem?_cons_succ] at e ⊢
    exact RepDs.getV r e
theorem RepDs.set {v : V} {d : D} (q : RepD K P io n v d) : ∀ {vs : List V} {ds : List D} (i : Nat), RepDs K P io n vs ds → RepDs K P io n (vs.set i v) (ds.set i d)
  | _, _, _, .nil => .nil
  | _, _, 0, .cons a r => .cons q r
  | _, _, i + 1, .cons a r => .cons a (RepDs.set q i r)
theorem RepDs.drop : ∀ {vs : List V} {ds : List D} (i : Nat), RepDs K P io n vs ds → RepDs K P io n (vs.drop i) (ds.drop i)
  | _, _, 0, q => q
  | _, _, i + 1, .nil => .nil
  | _, _, i + 1, .cons a r => RepDs.drop i r
theorem RepDs.take : ∀ {vs : List V} {ds : List D} (i : Nat), RepDs K P io n vs ds → RepDs K P io n (vs.take i) (ds.take i)
  | _, _, 0, q => .nil
  | _, _, i + 1, .nil => .nil
  | _, _, i + 1, .cons a r => .cons a (RepDs.take i r)
theorem RepKs.length : ∀ {vs : List (Key × V)} {ds : List (Key × D)}, RepKs K P io n vs ds → vs.length = ds.length
  | _, _, .nil => rfl
  | _, _, .cons _ r => by simp only [List.length_cons, RepKs.length r]
theorem RepKs.keys : ∀ {vs : List (Key × V)} {ds : List (Key × D)}, RepKs K P io n vs ds → vs.map (·.1) = ds.map (·.1)
  | _, _, .nil => rfl
  | _, _, .cons _ r => by simp only [List.map_cons, RepKs.keys r]
end
abbrev RD (K : PySem.W.Frag) (m : Mp) : V → D → Prop := RepD K m.P m.io m.n
abbrev RDs (K : PySem.W.Frag) (m : Mp) : List V → List D → Prop := RepDs K m.P m.io m.n
abbrev RKs (K : PySem.W.Frag) (m : Mp) : List (Key × V) → List (Key × D) → Prop := RepKs K m.P m.io m.n
/-- an object holds this -/
def RepC (K : PySem.W.Frag) (m : Mp) (o : HO) : C → Prop
  | .lst ds => ∃ vs, o = .lst vs ∧ RDs K m vs ds
  | .dct ds => ∃ vs, o = .dK vs ∧ RKs K m vs ds
  | .lkd ds => ∃ od vs, o = .frz od (.dK vs) ∧ RKs K m vs ds
structure Mp.le (m m' : Mp) : Prop where
  P : ∀ a o, m.P a = some o → m'.P a = some o
  L : m'.L = m.L
  al : m'.al = m.al
  n : m.n ≤ m'.n
  io : ∀ k, k < m.n → m'.io k = m.io k
  nc : ∀ k, k < m.n → m.nc k ≤ m'.nc k
  ic : ∀ k j, k < m.n → j < m.nc k → m'.ic k j = m.ic k j
  lks : m'.lks = m.lks
  Z : m'.Z = m.Z
theorem Mp.le.refl (m : Mp) : m.le m := ⟨fun _ _ h => h, rfl, rfl, Nat.le_refl _, fun _ _ => rfl, fun _ _ => Nat.le_refl _, fun _ _ _ _ => rfl, rfl, rfl⟩
theorem Mp.le.trans {a b c : Mp} (x : a.le b) (y : b.le c) : a.le c :=
  ⟨fun p o h => y.P p o (x.P p o h), y.L.trans x.L, y.al.trans x.al, Nat.le_trans x.n y.n, fun k h => (y.io k (Nat.lt_of_lt_of_le h x.n)).trans (x.io k h),
    fun k h => Nat.le_trans (x.nc k h) (y.nc k (Nat.lt_of_lt_of_le h x.n)), fun k j h h' => (y.ic k j (Nat.lt_of_lt_of_le h x.n) (Nat.lt_of_lt_of_le h' (x.nc k h))).trans (x.ic k j h h'), y.lks.trans x.lks, y.Z.trans x.Z⟩
theorem RD.mono {K : PySem.W.Frag} {m m' : Mp} (h : m.le m') {v d} (r : RD K m v d) : RD K m' v d := RepD.mono h.P h.n h.io r
theorem RDs.mono {K : PySem.W.Frag} {m m' : Mp} (h : m.le m') {v d} (r : RDs K m v d) : RDs K m' v d := RepDs.mono h.P h.n h.io r
theorem RKs.mono {K : PySem.W.Frag} {m m' : Mp} (h : m.le m') {v d} (r : RKs K m v d) : RKs K m' v d := RepKs.mono h.P h.n h.io r
/-- m' knows at least what m knows of data -/
structure Mp.kn (m m' : Mp) : Prop where
  P : ∀ a o, m.P a = some o → m'.P a = some o
  n : m.n ≤ m'.n
  io : ∀ k, k < m.n → m'.io k = m.io k
theorem Mp.le.kn {m m' : Mp} (h : m.le m') : m.kn m' := ⟨h.P, h.n, h.io⟩
theorem RepC.mono {K : PySem.W.Frag} {m m' : Mp} (h : m.kn m') {o c} (r : RepC K m o c) : RepC K m' o c := by
  cases c with
  | lst ds => obtain ⟨vs, e, r⟩ := r; exact ⟨vs, e, RepDs.mono h.P h.n h.io r⟩
  | dct ds => obtain ⟨vs, e, r⟩ := r; exact ⟨vs, e, RepKs.mono h.P h.n h.io r⟩
  | lkd ds => obtain ⟨od, vs, e, r⟩ := r; exact ⟨od, vs, e, RepKs.mono h.P h.n h.io r⟩
def CellOk (K : PySem.W.Frag) (m : Mp) (H : Hp) (w : Own) (a : Addr) (c : C) : Prop := m.O a = some w ∧ ∃ o, H a = some o ∧ RepC K m o c
def SlotOk (K : PySem.W.Frag) (m : Mp) (σ : St) (H : Hp) (i : Nat) : S → Prop
  | .no => True
  | .val d => ∃ v, σ[i]? = some (some v) ∧ RD K m v d
  | .own c => ∃ a, σ[i]? = some (some (.ref a)) ∧ CellOk K m H (.slot i) a c
  | .lck c => ∃ a, σ[i]? = some (some (.ref a)) ∧ CellOk K m H (.slot i) a c ∧ m.lks i = some a
  | .pc n => σ[i]? = some (some (.ref (m.al n)))
  | .ic k j => σ[i]? = some (some (.ref (m.ic k j))) ∧ k < m.n ∧ j < m.nc k
/-- one field -/
def RepF1 (K : PySem.W.Frag) (m : Mp) (k : Nat) (v : V) : F → Prop
  | .val d => RD K m v d
  | .cell j => v = .ref (m.ic k j) ∧ j < m.nc k
def RepF (K : PySem.W.Frag) (m : Mp) (k : Nat) : List (Str × V) → List (Str × F) → Prop
  | [], [] => True
  | (f, v) :: vs, (g, x) :: fs => f = g ∧ RepF1 K m k v x ∧ RepF K m k vs fs
  | _, _ => False
def InstOk0 (K : PySem.W.Frag) (m : Mp) (H : Hp) (k : Nat) (I : Inst) : Prop :=
  m.O (m.io k) = some (.ins k) ∧ m.O (m.dx k) = some (.idc k) ∧ (∃ fs, H (m.io k) = some (.ins (He.ga K I.cls) (m.dx k) fs) ∧ RepF K m k fs I.fs) ∧
  H (m.dx k) = some (.own (m.io k)) ∧ m.nc k = I.cells.length ∧ ∀ j c, I.cells[j]? = some c → CellOk K m H (.ic k j) (m.ic k j) c
/-- a box: a list or a dict that many may name; one that is dead says nothing -/
def boxN : Str := ""
def BoxOk (K : PySem.W.Frag) (m : Mp) (H : Hp) (k : Nat) (I : Inst) : Prop :=
  m.nc k = 0 ∧ (I.cells = [] ∨ ∃ c, I.cells = [c] ∧ CellOk K m H (.ins k) (m.io k) c)
def InstOk (K : PySem.W.Frag) (m : Mp) (H : Hp) (k : Nat) (I : Inst) : Prop := (I.cls ≠ boxN ∧ InstOk0 K m H k I) ∨ (I.cls = boxN ∧ BoxOk K m H k I)
theorem InstOk.real {K : PySem.W.Frag} {m : Mp} {H : Hp} {k : Nat} {I : Inst} (x : InstOk K m H k I) (h : I.cls ≠ boxN) : InstOk0 K m H k I := x.elim (fun y => y.2) fun y => absurd y.1 h
theorem InstOk.box {K : PySem.W.Frag} {m : Mp} {H : Hp} {k : Nat} {I : Inst} (x : InstOk K m H k I) (h : I.cls = boxN) : BoxOk K m H k I := x.elim (fun y => absurd h y.1) fun y => y.2
theorem InstOk.cells {K : PySem.W.Frag} {m : Mp} {H : Hp} {k : Nat} {I : Inst} (x : InstOk K m H k I) : ∀ j c, j < m.nc k → I.cells[j]? = some c → CellOk K m H (.ic k j) (m.ic k j) c := fun j c hj h => by
  rcases x with ⟨_, x⟩ | ⟨_, x⟩
  · exact x.2.2.2.2.2 j c h
  · rw [x.1] at hj; omega
theorem RepF.mono {K : PySem.W.Frag} {m m' : Mp} {k : Nat} (h : m.kn m') (h1 : m.nc k ≤ m'.nc k) (h2 : ∀ j, j < m.nc k → m'.ic k j = m.ic k j) : ∀ {vs : List (Str × V)} {fs : List (Str × F)}, RepF K m k vs fs → RepF K m' k vs fs
  | [], [], _ => trivial
  | (f, v) :: vs, (g, .val d) :: fs, r => ⟨r.1, RepD.mono h.P h.n h.io r.2.1, RepF.mono h h1 h2 r.2.2⟩
  | (f, v) :: vs, (g, .cell j) :: fs, r => ⟨r.1, ⟨by rw [h2 j r.2.1.2]; exact r.2.1.1, Nat.lt_of_lt_of_le r.2.1.2 h1⟩, RepF.mono h h1 h2 r.2.2⟩
  | [], _ :: _, r => r.elim
  | _ :: _, [], r => r.elim
theorem CellOk.mono {K : PySem.W.Frag} {m m' : Mp} {H H' : Hp} {w : Own} {a : Addr} {c : C} (h : m.kn m') (ho : m'.O a = some w) (hh : H' a = H a) (x : CellOk K m H w a c) : CellOk K m' H' w a c := by
  obtain ⟨_, o, e, r⟩ := x
  exact ⟨ho, o, hh.trans e, r.mono h⟩
/-- an owner that belongs to the k-th instance -/
def Own.isI (k : Nat) : Own → Prop
  | .ins i => i = k
  | .idc i => i = k
  | .ic i _ => i = k
  | _ => False
/-- an instance stays -/
theorem InstOk.mono {K : PySem.W.Frag} {m m' : Mp} {H H' : Hp} {k : Nat} {I : Inst} (h : m.kn m') (e1 : m'.io k = m.io k) (e2 : m'.dx k = m.dx k) (e3 : m'.nc k = m.nc k) (e4 : ∀ j, j < m.nc k → m'.ic k j = m.ic k j)
    (hO : ∀ a w, w.isI k → m.O a = some w → m'.O a = some w) (hH : ∀ a w, w.isI k → m.O a = some w → H' a = H a) (x : InstOk K m H k I) : InstOk K m' H' k I := by
  rcases x with ⟨x0, a, b, ⟨fs, c, r⟩, d, n, cs⟩ | ⟨x0, n, x⟩
  · have ha := hH _ (.ins k) rfl a
    have hb := hH _ (.idc k) rfl b
    refine .inl ⟨x0, by rw [e1]; exact hO _ (.ins k) rfl a, by rw [e2]; exact hO _ (.idc k) rfl b, ⟨fs, by rw [e1, e2, ha]; exact c, r.mono h (Nat.le_of_eq e3.symm) e4⟩, by rw [e1, e2, hb]; exact d, by rw [e3]; exact n, fun j c q => ?_⟩
    have hj : j < m.nc k := by
      rw [n]
      exact (List.getElem?_eq_some_iff.mp q).1
    rw [e4 j hj]
    have z := cs j c q
    exact z.mono h (hO _ (.ic k j) rfl z.1) (hH _ (.ic k j) rfl z.1)
  · refine .inr ⟨x0, by rw [e3]; exact n, x.imp id fun ⟨c, ec, z⟩ => ⟨c, ec, ?_⟩⟩
    rw [e1]
    exact z.mono h (hO _ (.ins k) rfl z.1) (hH _ (.ins k) rfl z.1)
structure Rel (K : PySem.W.Frag) (m : Mp) (σ : St) (H : Hp) (s : FS) : Prop where
  pers : ∀ a o, m.P a = some o → H a = some o
  lock : ∀ a o, m.L a = some o → H a = some o
  oh : ∀ a w, m.O a = some w → H a ≠ none
  op : ∀ a w, m.O a = some w → m.P a = none
  ol : ∀ a w, m.O a = some w → m.L a = none
  lp : ∀ a o, m.L a = some o → m.P a = none
  len : s.env.length = σ.length
  env : ∀ i x, s.env[i]? = some x → SlotOk K m σ H i x
  cells : ∀ n c, s.pcs[n]? = some c → CellOk K m H (.pc n) (m.al n) c
  cnt : m.n = s.g.length
  ins : ∀ k I, s.g[k]? = some I → InstOk K m H k I
  zz : ∀ a o, m.Z a = some o → H a = some o ∧ ∃ od kvs, o = .frz od (.dK kvs)
def RepR (K : PySem.W.Frag) (m : Mp) (σ : St) (H : Hp) (v : V) : R → Prop
  | .val d => RD K m v d
  | .tmp c => ∃ a, v = .ref a ∧ m.O a = none ∧ m.P a = none ∧ m.L a = none ∧ ∃ o, H a = some o ∧ RepC K m o c
  | .var i => σ[i]? = some (some v)
  | .pc n => v = .ref (m.al n)
  | .ic k j => v = .ref (m.ic k j) ∧ k < m.n ∧ j < m.nc k
def cont (s : FS) : R → Option C
  | .tmp c => some c
  | .var i => match s.env[i]? with
    | some (.own c) => some c
    | some (.lck c) => some c
    | _ => none
  | .pc n => s.pcs[n]?
  | .ic k j => match s.g[k]? with
    | some I => I.cells[j]?
    | none => none
  | .val (.lst xs) => some (.lst xs)
  | .val (.dct kvs) => some (.dct kvs)
  | .val (.ins k) => match s.g[k]? with
    | some I => if I.cls = boxN then I.cells[0]? else none
    | none => none
  | .val _ => none
section
variable {K : PySem.W.Frag} {m m' : Mp} {σ : St} {H : Hp} {s : FS} {v : V} {r : R} {c : C}
theorem cont_ok (x : Rel K m σ H s) (p : RepR K m σ H v r) (e : cont s r = some c) : ∃ a o, v = .ref a ∧ H a = some o ∧ RepC K m o c := by
  cases r with
  | val d =>
    cases d with
    | lst xs =>
      cases e
      cases p with
      | lst ha r => exact ⟨_, _, rfl, x.pers _ _ ha, _, rfl, r⟩
    | dct kvs =>
      cases e
      cases p with
      | dct ha r => exact ⟨_, _, rfl, x.pers _ _ ha, _, rfl, r⟩
    | ins k =>
      simp only [cont] at e
      cases q : s.g[k]? with
      | none => rw [q] at e; cases e
      | some I =>
        rw [q] at e
        simp only [] at e
        split at e
        · rename_i hb
          obtain ⟨_, z | ⟨c', z, _, o, ho, rc⟩⟩ := (x.ins k I q).box hb
          · rw [z] at e; cases e
          · rw [z] at e
            cases e
            cases p
            exact ⟨_, o, rfl, ho, rc⟩
        · cases e
    | _ => cases e
  | tmp c' =>
    cases e
    obtain ⟨a, rfl, _, _, _, o, ho, rc⟩ := p
    exact ⟨a, o, rfl, ho, rc⟩
  | var i =>
    simp only [cont] at e
    cases q : s.env[i]? with
    | none => rw [q] at e; cases e
    | some z =>
      rw [q] at e
      cases z with
      | own c' =>
        cases e
        obtain ⟨a, ha, _, o, ho, rc⟩ := x.env i _ q
        have p' : σ[i]? = some (some v) := p
        rw [ha] at p'
        cases p'
        exact ⟨a, o, rfl, ho, rc⟩
      | lck c' =>
        cases e
        obtain ⟨a, ha, ⟨_, o, ho, rc⟩, _⟩ := x.env i _ q
        have p' : σ[i]? = some (some v) := p
        rw [ha] at p'
        cases p'
        exact ⟨a, o, rfl, ho, rc⟩
      | _ => cases e
  | pc n =>
    obtain ⟨_, o, ho, rc⟩ := x.cells n c e
    have p' : v = .ref (m.al n) := p
    exact ⟨_, o, p', ho, rc⟩
  | ic k j =>
    simp only [cont] at e
    cases q : s.g[k]? with
    | none => rw [q] at e; cases e
    | some I =>
      rw [q] at e
      obtain ⟨p', _, hj⟩ := p
      obtain ⟨_, o, ho, rc⟩ := (x.ins k I q).cells j c hj e
      exact ⟨_, o, p', ho, rc⟩
/-- the pending new object is kept out of everyone's hands -/
def lk (m : Mp) (v : V) (r : R) (H : Hp) : Mp := match r, v with
  | .tmp _, .ref a => { m with L := fun b => if b = a then H a else m.L b }
  | _, _ => m
def Mp.setL (m : Mp) (L : Hp) : Mp := { m with L := L }
theorem insL (x : Rel K m σ H s) {L : Hp} (k : Nat) (I : Inst) (e : s.g[k]? = some I) : InstOk K (m.setL L) H k I :=
  InstOk.mono (m := m) (m' := m.setL L) ⟨fun _ _ h => h, Nat.le_refl _, fun _ _ => rfl⟩ rfl rfl rfl (fun _ _ => rfl) (fun _ _ _ h => h) (fun _ _ _ _ => rfl) (x.ins k I e)
theorem Rel.setL (x : Rel K m σ H s) {L : Hp} (h : ∀ a o, L a = some o → m.L a = some o) : Rel K (m.setL L) σ H s := by
  refine ⟨x.pers, fun a o e => x.lock a o (h a o e), x.oh, x.op, fun a w e => ?_, fun a o e => x.lp a o (h a o e), x.len, x.env, x.cells, x.cnt, insL x, x.zz⟩
  show L a = none
  cases q : L a with
  | none => rfl
  | some o =>
    have := x.ol a w e
    rw [h a o q] at this
    cases this
theorem Rel.lk (x : Rel K m σ H s) (p : RepR K m σ H v r) : Rel K (lk m v r H) σ H s := by
  cases r with
  | tmp c =>
    obtain ⟨a, rfl, h1, h2, h3, o, ho, rc⟩ := p
    refine ⟨x.pers, fun b u e => ?_, x.oh, x.op, fun b w e => ?_, fun b u e => ?_, x.len, x.env, x.cells, x.cnt, insL x, x.zz⟩
    · have e' : (if b = a then H a else m.L b) = some u := e
      by_cases hb : b = a
      · rw [if_pos hb] at e'; rw [hb]; exact e'
      · rw [if_neg hb] at e'; exact x.lock b u e'
    · show (if b = a then H a else m.L b) = none
      by_cases hb : b = a
      · have e' : m.O b = some w := e
        rw [hb, h1] at e'; cases e'
      · rw [if_neg hb]; exact x.ol b w e
    · have e' : (if b = a then H a else m.L b) = some u := e
      by_cases hb : b = a
      · rw [hb]; exact h2
      · rw [if_neg hb] at e'; exact x.lp b u e'
  | _ => exact x
theorem lk_O : (lk m v r H).O = m.O := by cases r <;> cases v <;> rfl
theorem lk_P : (lk m v r H).P = m.P := by cases r <;> cases v <;> rfl
theorem lk_al : (lk m v r H).al = m.al := by cases r <;> cases v <;> rfl
theorem lk_n : (lk m v r H).n = m.n := by cases r <;> cases v <;> rfl
theorem lk_io : (lk m v r H).io = m.io := by cases r <;> cases v <;> rfl
theorem lk_nc : (lk m v r H).nc = m.nc := by cases r <;> cases v <;> rfl
theorem lk_ic : (lk m v r H).ic = m.ic := by cases r <;> cases v <;> rfl
theorem lk_lks : (lk m v r H).lks = m.lks := by cases r <;> cases v <;> rfl
theorem lk_Z : (lk m v r H).Z = m.Z := by cases r <;> cases v <;> rfl
/-- what came behind the lock, the lock undone -/
theorem lk_le {m0 m1 m2 : Mp} {H1 : Hp} (a : m0.le m1) (b : (lk m1 v r H1).le m2) : m0.le (m2.setL m0.L) := by
  refine ⟨fun p o h => b.P p o (by rw [lk_P]; exact a.P p o h), rfl, ?_, ?_, ?_, ?_, ?_, by show m2.lks = m0.lks; rw [b.lks, lk_lks, a.lks], by show m2.Z = m0.Z; rw [b.Z, lk_Z, a.Z]⟩
  · show m2.al = m0.al
    rw [b.al, lk_al, a.al]
  · have := b.n; rw [lk_n] at this; exact Nat.le_trans a.n this
  · intro k hk
    show m2.io k = m0.io k
    rw [b.io k (by rw [lk_n]; exact Nat.lt_of_lt_of_le hk a.n), lk_io, a.io k hk]
  · intro k hk
    have := b.nc k (by rw [lk_n]; exact Nat.lt_of_lt_of_le hk a.n)
    rw [lk_nc] at this
    exact Nat.le_trans (a.nc k hk) this
  · intro k j hk hj
    show m2.ic k j = m0.ic k j
    rw [b.ic k j (by rw [lk_n]; exact Nat.lt_of_lt_of_le hk a.n) (by rw [lk_nc]; exact Nat.lt_of_lt_of_le hj (a.nc k hk)), lk_ic, a.ic k j hk hj]
theorem lk_rep {m1 m2 : Mp} {H1 H2 : Hp} {s2 : FS} {L : Hp} (eL : m1.L = L) (p : RepR K m1 σ H1 v r) (b : (lk m1 v r H1).le m2) (x : Rel K m2 σ H2 s2) :
    RepR K (m2.setL L) σ H2 v r ∧ lk (m2.setL L) v r H2 = m2 := by
  have bkn : m1.kn m2 := ⟨fun a o h => b.P a o (by rw [lk_P]; exact h), by have := b.n; rw [lk_n] at this; exact this, fun k hk => by rw [b.io k (by rw [lk_n]; exact hk), lk_io]⟩
  cases r with
  | tmp c =>
    obtain ⟨a, rfl, h1, h2, h3, o, ho, rc⟩ := p
    have hL : m2.L = fun b => if b = a then H1 a else m1.L b := b.L
    have hLa : m2.L a = some o := by rw [hL]; show (if a = a then H1 a else _) = _; rw [if_pos rfl]; exact ho
    have h2a := x.lock a o hLa
    refine ⟨⟨a, rfl, ?_, ?_, ?_, o, h2a, rc.mono bkn⟩, ?_⟩
    · cases q : m2.O a with
      | none => exact q
      | some w =>
        have := x.ol a w q
        rw [hLa] at this; cases this
    · exact x.lp a o hLa
    · show L a = none
      rw [← eL]; exact h3
    · show ({ m2.setL L with L := fun b => if b = a then H2 a else L b } : Mp) = m2
      have : (fun b => if b = a then H2 a else L b) = m2.L := by
        rw [hL, ← eL, h2a, ho]
      rw [this]; rfl
  | val d =>
    refine ⟨RepD.mono bkn.P bkn.n bkn.io p, ?_⟩
    have hL : m2.L = m1.L := b.L
    show ({ m2 with L := L } : Mp) = m2
    rw [← eL, ← hL]
  | var i =>
    have hL : m2.L = m1.L := b.L
    refine ⟨p, ?_⟩
    show ({ m2 with L := L } : Mp) = m2
    rw [← eL, ← hL]
  | pc n =>
    have hL : m2.L = m1.L := b.L
    have hal : m2.al = m1.al := b.al
    refine ⟨?_, ?_⟩
    · show v = .ref (m2.al n)
      rw [hal]; exact p
    · show ({ m2 with L := L } : Mp) = m2
      rw [← eL, ← hL]
  | ic k j =>
    have hL : m2.L = m1.L := b.L
    obtain ⟨p1, p2, p3⟩ := p
    refine ⟨⟨?_, ?_, ?_⟩, ?_⟩
    · show v = .ref (m2.ic k j)
      rw [b.ic k j p2 p3]; exact p1
    · exact Nat.lt_of_lt_of_le p2 b.n
    · exact Nat.lt_of_lt_of_le p3 (b.nc k p2)
    · show ({ m2 with L := L } : Mp) = m2
      rw [← eL, ← hL]
end
def RepRs (K : PySem.W.Frag) (σ : St) (H : Hp) : Mp → List V → List R → Prop
  | _, [], [] => True
  | m, v :: vs, r :: rs => RepR K m σ H v r ∧ RepRs K σ H (lk m v r H) vs rs
  | _, _, _ => False
theorem RepRs.length {K : PySem.W.Frag} {σ : St} {H : Hp} : ∀ {m : Mp} {vs : List V} {rs : List R}, RepRs K σ H m vs rs → vs.length = rs.length
  | _, [], [], _ => rfl
  | _, v :: vs, r :: rs, h => by simp only [List.length_cons, RepRs.length h.2]
  | _, [], _ :: _, h => h.elim
  | _, _ :: _, [], h => h.elim
def RepXf (K : PySem.W.Frag) (m : Mp) : List (Str × V) → List (Str × D) → Prop
  | [], [] => True
  | (f, v) :: vs, (g, d) :: ds => f = g ∧ RD K m v d ∧ RepXf K m vs ds
  | _, _ => False
def RepX (K : PySem.W.Frag) (m : Mp) (H : Hp) (c : Value) (d : Option Addr) (e : Ex) : Prop :=
  c = .ref (He.ga K e.cls) ∧ ((d = none ∧ e.fs = []) ∨ ∃ a fs, d = some a ∧ m.P a = some (.xd fs) ∧ RepXf K m fs e.fs)
theorem RepXf.mono {K : PySem.W.Frag} {m m' : Mp} (h : m.kn m') : ∀ {vs : List (Str × V)} {ds : List (Str × D)}, RepXf K m vs ds → RepXf K m' vs ds
  | [], [], _ => trivial
  | (f, v) :: vs, (g, d) :: ds, r => ⟨r.1, RepD.mono h.P h.n h.io r.2.1, RepXf.mono h r.2.2⟩
  | [], _ :: _, r => r.elim
  | _ :: _, [], r => r.elim
theorem RepX.mono {K : PySem.W.Frag} {m m' : Mp} (h : m.kn m') {H H' : Hp} {c : Value} {d : Option Addr} {e : Ex} (r : RepX K m H c d e) : RepX K m' H' c d e := by
  obtain ⟨a, b | ⟨p, fs, e1, e2, e3⟩⟩ := r
  · exact ⟨a, .inl b⟩
  · exact ⟨a, .inr ⟨p, fs, e1, h.P _ _ e2, e3.mono h⟩⟩
def Post {α β : Type} (K : PySem.W.Frag) (W : WX) (m : Mp) (σ : St) (x : Res α) (Rp : Mp → Hp → β → α → Prop) (Q : β → Hp → Prop) : Prop := match x with
  | .stuck => False
  | .ok r s => ∀ v H' m', m.le m' → Rel K m' σ H' s → Rp m' H' v r → Q v H'
  | .exc e s => ∀ c d H' m', m.le m' → Rel K m' σ H' s → RepX K m' H' c d e → W c d σ H'
abbrev RpE (K : PySem.W.Frag) (σ : St) : Mp → Hp → V → R → Prop := fun m H v r => RepR K m σ H v r
abbrev RpA (K : PySem.W.Frag) (σ : St) : Mp → Hp → List V → List R → Prop := fun m H vs rs => RepRs K σ H m vs rs
abbrev RpT : Mp → Hp → Bool → Bool → Prop := fun _ _ a b => a = b
def toE (K : PySem.W.Frag) (W : WX) (f : M R) : TE := fun σ H Q => ∃ m s, Rel K m σ H s ∧ Post K W m σ (f s) (RpE K σ) Q
def toT (K : PySem.W.Frag) (W : WX) (f : M Bool) : TT := fun σ H Q => ∃ m s, Rel K m σ H s ∧ Post K W m σ (f s) RpT Q
def toA (K : PySem.W.Frag) (W : WX) (f : M (List R)) : TA := fun σ H Q => ∃ m s, Rel K m σ H s ∧ Post K W m σ (f s) (RpA K σ) Q
/-- behind a statement -/
def PostS (K : PySem.W.Frag) (W : WX) (m : Mp) (x : SRes) (D : Ends) : Prop := match x with
  | .stuck => False
  | .next s => ∀ σ' H' m', m.le m' → Rel K m' σ' H' s → D.nx σ' H'
  | .brk s => ∀ σ' H' m', m.le m' → Rel K m' σ' H' s → D.bk σ' H'
  | .cont s => ∀ σ' H' m', m.le m' → Rel K m' σ' H' s → D.ct σ' H'
  | .ret r s => ∀ v σ' H' m', m.le m' → Rel K m' σ' H' s → RepR K m' σ' H' v r → D.rt v H'
  | .exc e s => ∀ c d σ' H' m', m.le m' → Rel K m' σ' H' s → RepX K m' H' c d e → W c d σ' H'
def toS (K : PySem.W.Frag) (W : WX) (f : SM) : TS := fun D σ H => ∃ m s, Rel K m σ H s ∧ PostS K W m (f s) D
end VL
set_option maxRecDepth 100000
set_option maxHeartbeats 4000000
namespace VL
open PySem PySem.Spec L2
open PyProof.Rows hiding St
section
variable {X : Cx}
theorem PE_imp {e : Expr} {t t' : TE} (h : PE X e t) (i : ∀ σ H Q, t' σ H Q → t σ H Q) : PE X e t' := ⟨fun pins s σ H Q I q => h.run pins s σ H Q I (i _ _ _ q)⟩
theorem PT_imp {e : Expr} {t t' : TT} (h : PT X e t) (i : ∀ σ H Q, t' σ H Q → t σ H Q) : PT X e t' := ⟨fun pins s σ H Q I q => h.run pins s σ H Q I (i _ _ _ q)⟩
theorem PW_imp {e : Expr} {t t' : TT} (h : PW X e t) (i : ∀ σ H Q, t' σ H Q → t σ H Q) : PW X e t' := ⟨fun w pins s σ H Q I q => h.run w pins s σ H Q I (i _ _ _ q)⟩
theorem PA_imp {e : List Expr} {t t' : TA} (h : PA X e t) (i : ∀ σ H Q, t' σ H Q → t σ H Q) : PA X e t' := ⟨fun p pins s σ H Q I q => h.run p pins s σ H Q I (i _ _ _ q)⟩
theorem PS_imp {e : Stmt} {t t' : TS} (h : PS X e t) (i : ∀ D σ H, t' D σ H → t D σ H) : PS X e t' := ⟨fun pins s σ H D I q => h.run pins s σ H D I (i _ _ _ q)⟩
theorem PSs_imp {e : List Stmt} {t t' : TS} (h : PSs X e t) (i : ∀ D σ H, t' D σ H → t D σ H) : PSs X e t' := ⟨fun pins s σ H D I q => h.run pins s σ H D I (i _ _ _ q)⟩
end
section
variable {K : PySem.W.Frag} {W : WX} {m m' : Mp} {σ : St} {H : Hp} {s : FS}
theorem Post_mono {α β : Type} {x : Res α} {Rp : Mp → Hp → β → α → Prop} {Q : β → Hp → Prop} (l : m.le m') (p : Post K W m σ x Rp Q) : Post K W m' σ x Rp Q := by
  cases x with
  | stuck => exact p
  | ok r s => exact fun v H' m2 l2 => p v H' m2 (l.trans l2)
  | exc e s => exact fun c d H' m2 l2 => p c d H' m2 (l.trans l2)
theorem PostS_mono {x : SRes} {D : Ends} (l : m.le m') (p : PostS K W m x D) : PostS K W m' x D := by
  cases x with
  | stuck => exact p
  | next s => exact fun σ' H' m2 l2 => p σ' H' m2 (l.trans l2)
  | brk s => exact fun σ' H' m2 l2 => p σ' H' m2 (l.trans l2)
  | cont s => exact fun σ' H' m2 l2 => p σ' H' m2 (l.trans l2)
  | ret r s => exact fun v σ' H' m2 l2 => p v σ' H' m2 (l.trans l2)
  | exc e s => exact fun c d σ' H' m2 l2 => p c d σ' H' m2 (l.trans l2)
/-- one operand, then the rest -/
theorem one {α β : Type} {f : M R} {k : R → M α} {Rp : Mp → Hp → β → α → Prop} {Q : β → Hp → Prop} {R' : V → Hp → Prop}
    (h : ∃ m s, Rel K m σ H s ∧ Post K W m σ ((f s).bind k) Rp Q)
    (hk : ∀ m s H v r, Rel K m σ H s → RepR K m σ H v r → Post K W m σ (k r s) Rp Q → R' v H) : toE K W f σ H R' := by
  obtain ⟨m, s, x, p⟩ := h
  refine ⟨m, s, x, ?_⟩
  cases e : f s with
  | stuck => rw [e] at p; exact p.elim
  | ok r s1 =>
    rw [e] at p
    intro v H1 m1 l1 x1 r1
    exact hk m1 s1 H1 v r x1 r1 (Post_mono l1 p)
  | exc ex s1 => rw [e] at p; exact p
/-- a test, then the rest -/
theorem oneT {α β : Type} {f : M Bool} {k : Bool → M α} {Rp : Mp → Hp → β → α → Prop} {Q : β → Hp → Prop} {R' : Bool → Hp → Prop}
    (h : ∃ m s, Rel K m σ H s ∧ Post K W m σ ((f s).bind k) Rp Q)
    (hk : ∀ m s H b, Rel K m σ H s → Post K W m σ (k b s) Rp Q → R' b H) : toT K W f σ H R' := by
  obtain ⟨m, s, x, p⟩ := h
  refine ⟨m, s, x, ?_⟩
  cases e : f s with
  | stuck => rw [e] at p; exact p.elim
  | ok r s1 =>
    rw [e] at p
    intro v H1 m1 l1 x1 r1
    have r1' : v = r := r1
    subst r1'
    exact hk m1 s1 H1 v x1 (Post_mono l1 p)
  | exc ex s1 => rw [e] at p; exact p
theorem many {α β : Type} {f : M (List R)} {k : List R → M α} {Rp : Mp → Hp → β → α → Prop} {Q : β → Hp → Prop} {R' : List V → Hp → Prop}
    (h : ∃ m s, Rel K m σ H s ∧ Post K W m σ ((f s).bind k) Rp Q)
    (hk : ∀ m s H vs rs, Rel K m σ H s → RepRs K σ H m vs rs → Post K W m σ (k rs s) Rp Q → R' vs H) : toA K W f σ H R' := by
  obtain ⟨m, s, x, p⟩ := h
  refine ⟨m, s, x, ?_⟩
  cases e : f s with
  | stuck => rw [e] at p; exact p.elim
  | ok r s1 =>
    rw [e] at p
    intro v H1 m1 l1 x1 r1
    exact hk m1 s1 H1 v r x1 r1 (Post_mono l1 p)
  | exc ex s1 => rw [e] at p; exact p
/-- behind an operand that is kept, a list of further ones -/
theorem thenA {α β : Type} {v : V} {r : R} {g : M (List R)} {k : List R → M α} {Rp : Mp → Hp → β → α → Prop} {Q : β → Hp → Prop} {R' : List V → Hp → Prop}
    (x : Rel K m σ H s) (p : RepR K m σ H v r) (h : Post K W m σ ((g s).bind k) Rp Q) (hR : ∀ m2 H2 a b, RepR K m2 σ H2 a b = RepR K m2 σ H2 a b)
    (hk : ∀ m s H vs rs, Rel K m σ H s → RepRs K σ H m (v :: vs) (r :: rs) → Post K W m σ (k rs s) Rp Q → R' vs H) : toA K W g σ H R' := by
  refine ⟨lk m v r H, s, x.lk p, ?_⟩
  cases e : g s with
  | stuck => rw [e] at h; exact h.elim
  | ok rs s1 =>
    rw [e] at h
    intro vs H2 m2 l2 x2 rr
    have l0 := lk_le (Mp.le.refl m) l2
    have q := lk_rep (L := m.L) rfl p l2 x2
    refine hk (m2.setL m.L) s1 H2 vs rs (x2.setL fun a o ea => ?_) ⟨q.1, by rw [q.2]; exact rr⟩ (Post_mono l0 h)
    have : (lk m v r H).L a = some o := by
      cases r with
      | tmp c =>
        obtain ⟨b, rfl, h1, h2, h3, u, hu, rc⟩ := p
        show (if a = b then H b else m.L a) = some o
        by_cases hab : a = b
        · rw [hab, h3] at ea; cases ea
        · rw [if_neg hab]; exact ea
      | _ => cases v <;> exact ea
    rw [← l2.L] at this
    exact this
  | exc ex s1 =>
    rw [e] at h
    intro c d H2 m2 l2 x2 rx
    have l0 := lk_le (Mp.le.refl m) l2
    refine h c d H2 (m2.setL m.L) l0 (x2.setL fun a o ea => ?_) (RepX.mono (m := m2) (m' := m2.setL m.L) ⟨fun _ _ h => h, Nat.le_refl _, fun _ _ => rfl⟩ rx)
    have : (lk m v r H).L a = some o := by
      cases r with
      | tmp c =>
        obtain ⟨b, rfl, h1, h2, h3, u, hu, rc⟩ := p
        show (if a = b then H b else m.L a) = some o
        by_cases hab : a = b
        · rw [hab, h3] at ea; cases ea
        · rw [if_neg hab]; exact ea
      | _ => cases v <;> exact ea
    rw [← l2.L] at this
    exact this
end
def eNil : M (List R) := fun s => .ok [] s
def eCons (f : M R) (g : M (List R)) : M (List R) := fun s => (f s).bind fun r s1 => (g s1).bind fun rs s2 => .ok (r :: rs) s2
section
variable {K : PySem.W.Frag} {W : WX}
theorem toA_nil {σ : St} {H : Hp} {Q : List V → Hp → Prop} (h : toA K W eNil σ H Q) : tNil σ H Q := by
  obtain ⟨m, s, x, p⟩ := h
  exact p [] H m (Mp.le.refl m) x trivial
theorem toA_cons {f : M R} {g : M (List R)} {σ : St} {H : Hp} {Q : List V → Hp → Prop} (h : toA K W (eCons f g) σ H Q) : tCons (toE K W f) (toA K W g) σ H Q := by
  refine one h fun m s H v r x p q => thenA x p q (fun _ _ _ _ => rfl) fun m s H vs rs x p q => q (v :: vs) H m (Mp.le.refl m) x p
/-- two operands, then the rest -/
theorem two {α β : Type} {f g : M R} {k : R → R → M α} {Rp : Mp → Hp → β → α → Prop} {σ : St} {H : Hp} {Q : β → Hp → Prop} {R' : V → V → Hp → Prop}
    (h : ∃ m s, Rel K m σ H s ∧ Post K W m σ ((f s).bind fun a s1 => (g s1).bind fun b => k a b) Rp Q)
    (hk : ∀ m s H v1 v2 r1 r2, Rel K m σ H s → RepRs K σ H m [v1, v2] [r1, r2] → Post K W m σ (k r1 r2 s) Rp Q → R' v1 v2 H) :
    toE K W f σ H fun x H1 => toE K W g σ H1 fun y H2 => R' x y H2 := by
  refine one h fun m s H v r x p q => ?_
  have q' : Post K W m σ ((eCons g eNil s).bind fun rs => k r (rs.headD r)) Rp Q := by
    show Post K W m σ (((g s).bind fun b s2 => Res.bind (.ok [] s2) fun rs s3 => .ok (b :: rs) s3).bind fun rs => k r (rs.headD r)) Rp Q
    cases e : g s with
    | stuck => rw [e] at q; exact q
    | ok b s1 => rw [e] at q; exact q
    | exc ex s1 => rw [e] at q; exact q
  have z := thenA (R' := fun vs H => ∀ y, vs = [y] → R' v y H) x p q' (fun _ _ _ _ => rfl) fun m s H vs rs x p q y ey => by
    subst ey
    cases rs with
    | nil => exact p.2.elim
    | cons b rs =>
      cases rs with
      | nil => exact hk m s H v y r b x p q
      | cons c rs => exact p.2.2.elim
  refine toA_cons (f := g) (g := eNil) (Q := fun vs H => ∀ y, vs = [y] → R' v y H) z |> fun w => ?_
  have w' : toE K W g σ H fun y H2 => toA K W eNil σ H2 fun vs H3 => ∀ z, y :: vs = [z] → R' v z H3 := w
  obtain ⟨m1, s1, x1, p1⟩ := w'
  refine ⟨m1, s1, x1, ?_⟩
  cases e : g s1 with
  | stuck => rw [e] at p1; exact p1
  | exc ex s2 => rw [e] at p1; exact p1
  | ok b s2 =>
    rw [e] at p1
    intro y H2 m2 l2 x2 r2
    exact toA_nil (p1 y H2 m2 l2 x2 r2) y rfl
end
section
variable {X : Cx} {W : WX}
theorem sa_nil : PA X [] (toA X.K W eNil) := PA_imp pa_nil fun _ _ _ => toA_nil
theorem sa_cons {e : Expr} {es : List Expr} {f : M R} {g : M (List R)} (ha : PE X e (toE X.K W f)) (hr : PA X es (toA X.K W g)) (hs : starEach (e :: es) X.env = (false, eval e X.env) :: starEach es X.env := by rfl) :
    PA X (e :: es) (toA X.K W (eCons f g)) := PA_imp (pa_cons ha hr hs) fun _ _ _ => toA_cons
end
section
variable {K : PySem.W.Frag} {W : WX} {m : Mp} {σ : St} {H : Hp} {s : FS} {Q : VK}
theorem post_val {v : V} {r : R} (x : Rel K m σ H s) (p : Post K W m σ (.ok r s) (RpE K σ) Q) (h : RepR K m σ H v r) : Q v H := p v H m (Mp.le.refl m) x h
theorem Rel.none3 (x : Rel K m σ H s) {p : Addr} (n : H p = none) : m.O p = none ∧ m.P p = none ∧ m.L p = none := by
  refine ⟨?_, ?_, ?_⟩
  · cases q : m.O p with
    | none => rfl
    | some w => exact absurd n (x.oh p w q)
  · cases q : m.P p with
    | none => rfl
    | some o => have := x.pers p o q; rw [n] at this; cases this
  · cases q : m.L p with
    | none => rfl
    | some o => have := x.lock p o q; rw [n] at this; cases this
theorem SlotOk.keep {H' : Hp} {i : Nat} {z : S} (h : ∀ a w, m.O a = some w → H' a = H a) (x : SlotOk K m σ H i z) : SlotOk K m σ H' i z := by
  cases z with
  | own c =>
    obtain ⟨a, e, o, u, hu, r⟩ := x
    exact ⟨a, e, o, u, (h a _ o).trans hu, r⟩
  | lck c =>
    obtain ⟨a, e, ⟨o, u, hu, r⟩, l⟩ := x
    exact ⟨a, e, ⟨o, u, (h a _ o).trans hu, r⟩, l⟩
  | _ => exact x
theorem CellOk.keep {H' : Hp} {w : Own} {a : Addr} {c : C} (h : ∀ a w, m.O a = some w → H' a = H a) (x : CellOk K m H w a c) : CellOk K m H' w a c := by
  obtain ⟨o, u, hu, r⟩ := x
  exact ⟨o, u, (h a _ o).trans hu, r⟩
theorem InstOk.keep {H' : Hp} {k : Nat} {I : Inst} (h : ∀ a w, m.O a = some w → H' a = H a) (x : InstOk K m H k I) : InstOk K m H' k I := by
  exact InstOk.mono (m := m) (m' := m) ⟨fun _ _ h => h, Nat.le_refl _, fun _ _ => rfl⟩ rfl rfl rfl (fun _ _ => rfl) (fun _ _ _ h => h) (fun a w _ q => h a w q) x
/-- the heap grew, or changed where nobody looks -/
theorem Rel.keep {H' : Hp} (x : Rel K m σ H s) (h1 : ∀ a w, m.O a = some w → H' a = H a) (h2 : ∀ a o, m.P a = some o → H' a = some o) (h3 : ∀ a o, m.L a = some o → H' a = some o) (h4 : ∀ a o, m.Z a = some o → H' a = some o ∧ ∃ od kvs, o = .frz od (.dK kvs)) : Rel K m σ H' s :=
  ⟨h2, h3, fun a w e => by rw [h1 a w e]; exact x.oh a w e, x.op, x.ol, x.lp, x.len, fun i z e => (x.env i z e).keep h1, fun n c e => (x.cells n c e).keep h1, x.cnt, fun k I e => (x.ins k I e).keep h1, h4⟩
theorem Rel.fresh (x : Rel K m σ H s) {p : Addr} {o : HO} (n : H p = none) : Rel K m σ (upd H p o) s := by
  obtain ⟨n1, n2, n3⟩ := x.none3 n
  have ne : ∀ {a : Addr} {o' : HO}, H a = some o' → a ≠ p := fun {a o'} e z => by rw [z, n] at e; cases e
  refine x.keep (fun a w e => upd_ne fun z => ?_) (fun a o' e => ?_) (fun a o' e => ?_) (fun a o' e => ⟨by rw [upd_ne (ne (x.zz a o' e).1)]; exact (x.zz a o' e).1, (x.zz a o' e).2⟩)
  · rw [z, n1] at e; cases e
  · rw [upd_ne (ne (x.pers a o' e))]; exact x.pers a o' e
  · rw [upd_ne (ne (x.lock a o' e))]; exact x.lock a o' e
theorem post_tmp {c : C} {p : Addr} {o : HO} (x : Rel K m σ H s) (h : Post K W m σ (.ok (.tmp c) s) (RpE K σ) Q) (n : H p = none) (r : RepC K m o c) : Q (.ref p) (upd H p o) := by
  obtain ⟨n1, n2, n3⟩ := x.none3 n
  exact h (.ref p) (upd H p o) m (Mp.le.refl m) (x.fresh n) ⟨p, rfl, n1, n2, n3, o, upd_same, r⟩
/-- an object that nobody has becomes data for good -/
theorem Rel.settle (x : Rel K m σ H s) {a : Addr} {o : HO} (h1 : m.O a = none) (h2 : m.L a = none) (e : H a = some o) (h3 : m.P a = none) :
    Rel K { m with P := upd m.P a o } σ H s ∧ m.le { m with P := upd m.P a o } := by
  have hP : ∀ b u, m.P b = some u → upd m.P a o b = some u := fun b u q => by
    rw [upd_ne fun z => ?_]; exact q
    rw [z, h3] at q; cases q
  have kn : m.kn { m with P := upd m.P a o } := ⟨hP, Nat.le_refl _, fun _ _ => rfl⟩
  refine ⟨⟨fun b u q => ?_, x.lock, x.oh, fun b w q => ?_, x.ol, fun b u q => ?_, x.len, fun i z q => ?_, fun n c q => ?_, x.cnt, fun k I q => ?_, x.zz⟩, ⟨hP, rfl, rfl, Nat.le_refl _, fun _ _ => rfl, fun _ _ => Nat.le_refl _, fun _ _ _ _ => rfl, rfl, rfl⟩⟩
  · by_cases hb : b = a
    · subst hb
      have : upd m.P b o b = some u := q
      rw [upd_same] at this; cases this; exact e
    · have q' : upd m.P a o b = some u := q
      rw [upd_ne hb] at q'; exact x.pers b u q'
  · show upd m.P a o b = none
    rw [upd_ne fun z => ?_]; exact x.op b w q
    have q' : m.O b = some w := q
    rw [z, h1] at q'; cases q'
  · show upd m.P a o b = none
    rw [upd_ne fun z => ?_]; exact x.lp b u q
    have q' : m.L b = some u := q
    rw [z, h2] at q'; cases q'
  · have y := x.env i z q
    cases z with
    | val d => obtain ⟨v, e1, r⟩ := y; exact ⟨v, e1, RepD.mono kn.P kn.n kn.io r⟩
    | own c => obtain ⟨b, e1, o1, u, hu, r⟩ := y; exact ⟨b, e1, o1, u, hu, r.mono kn⟩
    | lck c => obtain ⟨b, e1, ⟨o1, u, hu, r⟩, l⟩ := y; exact ⟨b, e1, ⟨o1, u, hu, r.mono kn⟩, l⟩
    | _ => exact y
  · obtain ⟨o1, u, hu, r⟩ := x.cells n c q
    exact ⟨o1, u, hu, r.mono kn⟩
  · exact (x.ins k I q).mono kn rfl rfl rfl (fun _ _ => rfl) (fun _ _ _ h => h) (fun _ _ _ _ => rfl)
theorem post_new {d : D} {p : Addr} {o : HO} (x : Rel K m σ H s) (h : Post K W m σ (.ok (.val d) s) (RpE K σ) Q) (n : H p = none) (r : ∀ m' : Mp, m.kn m' → m'.P p = some o → RD K m' (.ref p) d) : Q (.ref p) (upd H p o) := by
  obtain ⟨n1, n2, n3⟩ := x.none3 n
  obtain ⟨x2, l2⟩ := (x.fresh (o := o) n).settle n1 n3 upd_same n2
  exact h (.ref p) (upd H p o) _ l2 x2 (r _ l2.kn upd_same)
end
def eVar (i : Nat) : M R := fun s => match s.env[i]? with
  | some (.val d) => .ok (.val d) s
  | some (.own _) => .ok (.var i) s
  | some (.lck _) => .ok (.var i) s
  | some (.pc n) => .ok (.pc n) s
  | some (.ic k j) => .ok (.ic k j) s
  | _ => .stuck
def eD (d : D) : M R := fun s => .ok (.val d) s
section
variable {X : Cx} {W : WX} {pos : Pos}
theorem toE_var {K : PySem.W.Frag} {i : Nat} {σ : St} {H : Hp} {Q : VK} (h : toE K W (eVar i) σ H Q) : tVar i σ H Q := by
  obtain ⟨m, s, x, p⟩ := h
  unfold eVar at p
  cases e : s.env[i]? with
  | none => rw [e] at p; exact p.elim
  | some z =>
    rw [e] at p
    have y := x.env i z e
    cases z with
    | no => exact p.elim
    | val d => obtain ⟨v, e1, r⟩ := y; exact ⟨v, e1, p v H m (Mp.le.refl m) x r⟩
    | own c => obtain ⟨a, e1, _⟩ := y; exact ⟨_, e1, p _ H m (Mp.le.refl m) x e1⟩
    | lck c => obtain ⟨a, e1, _⟩ := y; exact ⟨_, e1, p _ H m (Mp.le.refl m) x e1⟩
    | pc n => exact ⟨_, y, p _ H m (Mp.le.refl m) x rfl⟩
    | ic k j => exact ⟨_, y.1, p _ H m (Mp.le.refl m) x ⟨rfl, y.2⟩⟩
theorem se_var (i : Nat) {x : Str} (hN : X.N[i]? = some x := by rfl) (hv : Vis X.env.scope x := by first | exact Or.inl rfl | exact Or.inr (Or.inl rfl) | exact Or.inr (Or.inr rfl)) (hd : (x == ("__debug__" : Str)) = false := by decide)
    (hcd : (x == ("__classdict__" : Str)) = false := by decide) : PE X (.Name x pos) (toE X.K W (eVar i)) := PE_imp (pe_var hN hv hd hcd) fun _ _ _ => toE_var
theorem toE_d {K : PySem.W.Frag} {v : V} {d : D} (r : ∀ m, RD K m v d) {σ : St} {H : Hp} {Q : VK} (h : toE K W (eD d) σ H Q) : tC v σ H Q := by
  obtain ⟨m, s, x, p⟩ := h
  exact p v H m (Mp.le.refl m) x (r m)
theorem se_int {i j} : PE X (.Constant (.int i) j pos) (toE X.K W (eD (.int i))) := PE_imp pe_int fun _ _ _ => toE_d fun _ => .int
theorem se_bl {b j} : PE X (.Constant (.bool b) j pos) (toE X.K W (eD (.bl b))) := PE_imp pe_bl fun _ _ _ => toE_d fun _ => .bl
theorem se_non {j} : PE X (.Constant .none j pos) (toE X.K W (eD .non)) := PE_imp pe_non fun _ _ _ => toE_d fun _ => .non
theorem se_str {x j} : PE X (.Constant (.str x) j pos) (toE X.K W (eD (.str x))) := PE_imp pe_str fun _ _ _ => toE_d fun _ => .str
end
def eB (k : R → R → M R) (f g : M R) : M R := fun s => (f s).bind fun a s1 => (g s1).bind fun b => k a b
def eU (k : R → M R) (f : M R) : M R := fun s => (f s).bind k
/-- k is what the operation r does -/
def Op2 (K : PySem.W.Frag) (r : R2) (k : R → R → M R) : Prop := ∀ (W : WX) (σ : St) (m : Mp) (s : FS) (H : Hp) (v1 v2 : V) (r1 r2 : R) (Q : VK), Rel K m σ H s → RepRs K σ H m [v1, v2] [r1, r2] → Post K W m σ (k r1 r2 s) (RpE K σ) Q → r v1 v2 H Q
section
variable {X : Cx} {W : WX} {pos : Pos} {a b : Expr} {f g : M R}
theorem se_bin {op : Operator} {r : R2} {k : R → R → M R} (ho : OpR X (binaryOp op) r) (hk : Op2 X.K r k) (ha : PE X a (toE X.K W f)) (hb : PE X b (toE X.K W g)) : PE X (.BinOp a op b pos) (toE X.K W (eB k f g)) :=
  PE_imp (pe_op ho ha hb) fun σ H Q h => two h fun m s H v1 v2 r1 r2 x p q => hk W σ m s H v1 v2 r1 r2 Q x p q
theorem se_cmp {op : CmpOp} {r : R2} {k : R → R → M R} (ho : OpR X (compareOp op) r) (hk : Op2 X.K r k) (ha : PE X a (toE X.K W f)) (hb : PE X b (toE X.K W g)) (hm : behindInMarks op b = false) : PE X (.Compare a [op] [b] pos) (toE X.K W (eB k f g)) :=
  PE_imp (pe_cmpR ho ha hb hm) fun σ H Q h => two h fun m s H v1 v2 r1 r2 x p q => hk W σ m s H v1 v2 r1 r2 Q x p q
theorem se_ix {r : R2} {k : R → R → M R} (ho : IxR X r) (hk : Op2 X.K r k) (ha : PE X a (toE X.K W f)) (hb : PE X b (toE X.K W g)) (hs : PlainIx b) : PE X (.Subscript a b pos) (toE X.K W (eB k f g)) :=
  PE_imp (pe_ix ho ha hb hs) fun σ H Q h => two h fun m s H v1 v2 r1 r2 x p q => hk W σ m s H v1 v2 r1 r2 Q x p q
end
/-- from a value that must be a truth value -/
def asB (r : R) : M Bool := fun s => match r with
  | .val (.bl b) => .ok b s
  | _ => .stuck
def eT (f : M R) : M Bool := fun s => (f s).bind asB
theorem asB_ok {K : PySem.W.Frag} {W : WX} {m : Mp} {σ : St} {H : Hp} {s : FS} {v : V} {r : R} {Q : Bool → Hp → Prop} (x : Rel K m σ H s) (p : RepR K m σ H v r) (q : Post K W m σ (asB r s) RpT Q) : ∃ k, v = .bl k ∧ Q k H := by
  cases r with
  | val d =>
    cases d with
    | bl b =>
      cases p
      exact ⟨b, rfl, q b H m (Mp.le.refl m) x rfl⟩
    | _ => exact q.elim
  | _ => exact q.elim
section
variable {X : Cx} {W : WX} {pos : Pos} {a b : Expr} {f g : M R}
/-- a comparison as a test -/
theorem st_cmp {op : CmpOp} {r : R2} {k : R → R → M R} (ho : OpR X (compareOp op) r) (hk : Op2 X.K r k) (ha : PE X a (toE X.K W f)) (hb : PE X b (toE X.K W g)) (hm : behindInMarks op b = false) :
    PT X (.Compare a [op] [b] pos) (toT X.K W (eT (eB k f g))) :=
  PT_imp (pt_cmpR ho ha hb hm) fun σ H Q h => by
    have h' : ∃ m s, Rel X.K m σ H s ∧ Post X.K W m σ ((f s).bind fun a s1 => (g s1).bind fun b s2 => (k a b s2).bind asB) RpT Q := by
      obtain ⟨m, s, x, p⟩ := h
      refine ⟨m, s, x, ?_⟩
      have e : eT (eB k f g) s = (f s).bind fun a s1 => (g s1).bind fun b s2 => (k a b s2).bind asB := by
        show ((f s).bind fun a s1 => (g s1).bind fun b => k a b).bind asB = _
        cases f s with
        | stuck => rfl
        | exc e s1 => rfl
        | ok r1 s1 =>
          show ((g s1).bind fun b => k r1 b).bind asB = (g s1).bind fun b s2 => (k r1 b s2).bind asB
          cases g s1 <;> rfl
      rw [e] at p; exact p
    refine two (K := X.K) (W := W) (R' := fun x y H2 => r x y H2 fun z H' => ∃ k, z = .bl k ∧ Q k H') h' fun m s H v1 v2 r1 r2 x p q => ?_
    refine hk W σ m s H v1 v2 r1 r2 _ x p ?_
    cases e : k r1 r2 s with
    | stuck => rw [e] at q; exact q
    | exc ex s1 => rw [e] at q; exact q
    | ok r3 s1 =>
      rw [e] at q
      intro v H' m' l' x' p'
      exact asB_ok x' p' (Post_mono l' q)
/-- a value that is a truth value, as a test -/
theorem st_val (ha : PE X a (toE X.K W f)) (he : ∀ whole, isTrue a X.env whole = (do let v ← whole; standAt a.pos; holding [v] (truthy v)) := by intro _; rfl) : PT X a (toT X.K W (eT f)) :=
  PT_imp (pt_val ha he) fun σ H Q h => one h fun m s H v r x p q => asB_ok x p q
end
def mAnd (f g : M Bool) : M Bool := fun s => (f s).bind fun b s1 => if b = true then g s1 else .ok false s1
def mOr (f g : M Bool) : M Bool := fun s => (f s).bind fun b s1 => if b = true then .ok true s1 else g s1
def mNot (f : M Bool) : M Bool := fun s => (f s).bind fun b s1 => .ok (!b) s1
section
variable {X : Cx} {W : WX} {pos : Pos} {a b c : Expr} {rest : List Expr} {f g : M Bool}
theorem sw_and1 (ha : PT X a (toT X.K W f)) : PW X (.BoolOp .And [a] pos) (toT X.K W f) := pw_and1 ha
theorem sw_or1 (ha : PT X a (toT X.K W f)) : PW X (.BoolOp .Or [a] pos) (toT X.K W f) := pw_or1 ha
theorem sw_and (ha : PT X a (toT X.K W f)) (hb : PW X (.BoolOp .And (b :: rest) pos) (toT X.K W g)) : PW X (.BoolOp .And (a :: b :: rest) pos) (toT X.K W (mAnd f g)) :=
  PW_imp (pw_and ha hb) fun σ H Q h => oneT h fun m s H k x q => by
    cases k with
    | true => rw [if_pos rfl] at q ⊢; exact ⟨m, s, x, q⟩
    | false => rw [if_neg (by decide)] at q ⊢; exact q false H m (Mp.le.refl m) x rfl
theorem sw_or (ha : PT X a (toT X.K W f)) (hb : PW X (.BoolOp .Or (b :: rest) pos) (toT X.K W g)) : PW X (.BoolOp .Or (a :: b :: rest) pos) (toT X.K W (mOr f g)) :=
  PW_imp (pw_or ha hb) fun σ H Q h => oneT h fun m s H k x q => by
    cases k with
    | true => rw [if_pos rfl] at q ⊢; exact q true H m (Mp.le.refl m) x rfl
    | false => rw [if_neg (by decide)] at q ⊢; exact ⟨m, s, x, q⟩
theorem st_not (ha : PT X a (toT X.K W f)) : PT X (.UnaryOp .Not a pos) (toT X.K W (mNot f)) :=
  PT_imp (pt_not ha) fun σ H Q h => oneT h fun m s H k x q => q (!k) H m (Mp.le.refl m) x rfl
end
def eAnd (f g : M R) : M R := fun s => (f s).bind fun r s1 => (asB r s1).bind fun b s2 => if b = true then g s2 else .ok (.val (.bl false)) s2
def eOr (f g : M R) : M R := fun s => (f s).bind fun r s1 => (asB r s1).bind fun b s2 => if b = true then .ok (.val (.bl true)) s2 else g s2
def eNot (f : M R) : M R := fun s => (f s).bind fun r s1 => (asB r s1).bind fun b s2 => .ok (.val (.bl (!b))) s2
def eIf (t : M Bool) (f g : M R) : M R := fun s => (t s).bind fun b s1 => if b = true then f s1 else g s1
section
variable {X : Cx} {W : WX} {pos : Pos} {a b c : Expr} {rest : List Expr} {f g : M R}
theorem asB_val {m : Mp} {σ : St} {H : Hp} {s : FS} {v : V} {r : R} {K : PySem.W.Frag} {Q : VK} {k : Bool → M R} (p : RepR K m σ H v r) (q : Post K W m σ ((asB r s).bind k) (RpE K σ) Q) : ∃ c, v = .bl c ∧ Post K W m σ (k c s) (RpE K σ) Q := by
  cases r with
  | val d =>
    cases d with
    | bl b =>
      cases p
      exact ⟨b, rfl, q⟩
    | _ => exact q.elim
  | _ => exact q.elim
theorem se_one {op} (h : PE X a (toE X.K W f)) : PE X (.BoolOp op [a] pos) (toE X.K W f) := pe_one h
theorem se_and (ha : PE X a (toE X.K W f)) (hb : PE X (.BoolOp .And (b :: rest) pos) (toE X.K W g)) : PE X (.BoolOp .And (a :: b :: rest) pos) (toE X.K W (eAnd f g)) :=
  PE_imp (pe_and ha hb) fun σ H Q h => one h fun m s H v r x p q => by
    obtain ⟨c, rfl, q⟩ := asB_val p q
    refine ⟨c, rfl, ?_⟩
    cases c with
    | true => rw [if_pos rfl] at q ⊢; exact ⟨m, s, x, q⟩
    | false => rw [if_neg (by decide)] at q ⊢; exact post_val x q .bl
theorem se_not (ha : PE X a (toE X.K W f)) : PE X (.UnaryOp .Not a pos) (toE X.K W (eNot f)) :=
  PE_imp (pe_not ha) fun σ H Q h => one h fun m s H v r x p q => by
    obtain ⟨c, rfl, q⟩ := asB_val p q
    exact ⟨c, rfl, post_val x q .bl⟩
theorem se_if {t : M Bool} (hc : PT X c (toT X.K W t)) (ha : PE X a (toE X.K W f)) (hb : PE X b (toE X.K W g)) : PE X (.IfExp c a b pos) (toE X.K W (eIf t f g)) :=
  PE_imp (pe_ifExp hc ha hb) fun σ H Q h => oneT h fun m s H k x q => by
    cases k with
    | true => rw [if_pos rfl] at q ⊢; exact ⟨m, s, x, q⟩
    | false => rw [if_neg (by decide)] at q ⊢; exact ⟨m, s, x, q⟩
end
end VL
set_option maxRecDepth 100000
set_option maxHeartbeats 4000000
namespace VL
open PySem PySem.Spec L2
open PyProof.Rows hiding St
def C.toD : C → D
  | .lst xs => .lst xs
  | .dct kvs => .dct kvs
  | .lkd kvs => .dct kvs
/-- a dict that a loop walks is not to be touched -/
def C.free : C → Bool
  | .lkd _ => false
  | _ => true
def FS.setE (s : FS) (i : Nat) (z : S) : FS := { s with env := s.env.set i z }
/-- an operand becomes data for good -/
def frzR (r : R) (s : FS) : Option (D × FS) := match r with
  | .val d => some (d, s)
  | .tmp c => if c.free = true then some (c.toD, s) else none
  | .var i => match s.env[i]? with
    | some (.own c) => if c.free = true then some (c.toD, s.setE i (.val c.toD)) else none
    | _ => none
  | _ => none
def frzAll : List R → FS → Option (List D × FS)
  | [], s => some ([], s)
  | r :: rs, s => match frzR r s with
    | none => none
    | some (d, s1) => match frzAll rs s1 with
      | none => none
      | some (ds, s2) => some (d :: ds, s2)
/-- the place r holds c from now on -/
def put0 (s : FS) (r : R) (c : C) : Option FS := match r with
  | .var i => match s.env[i]? with
    | some (.lck _) => some (s.setE i (.lck c))
    | _ => some (s.setE i (.own c))
  | .pc n => some { s with pcs := s.pcs.set n c }
  | .ic k j => match s.g[k]? with
    | some I => some { s with g := s.g.set k { I with cells := I.cells.set j c } }
    | none => none
  | .val (.ins k) => match s.g[k]? with
    | some I => if I.cls = boxN then some { s with g := s.g.set k { I with cells := [c] } } else none
    | none => none
  | _ => none
def put (s : FS) (r : R) (c : C) : Option FS := match cont s r with
  | some (.lkd _) => none
  | _ => put0 s r c
section
variable {K : PySem.W.Frag} {W : WX} {m m' : Mp} {σ : St} {H H' : Hp} {s s' : FS}
theorem toD_rep {m' : Mp} {a : Addr} {o : HO} {c : C} (hf : c.free = true) (h : m'.P a = some o) (r : RepC K m' o c) : RD K m' (.ref a) c.toD := by
  cases c with
  | lkd ds => cases hf
  | lst ds => obtain ⟨vs, rfl, r⟩ := r; exact .lst h r
  | dct ds => obtain ⟨vs, rfl, r⟩ := r; exact .dct h r
theorem setE_get {i j : Nat} {z y : S} (e : (s.env.set i z)[j]? = some y) : (j = i ∧ y = z) ∨ (j ≠ i ∧ s.env[j]? = some y) := by
  by_cases h : i = j
  · subst h
    left
    refine ⟨rfl, ?_⟩
    by_cases hl : i < s.env.length
    · rw [List.getElem?_set_self hl] at e; cases e; rfl
    · rw [List.getElem?_eq_none (by simpa using hl)] at e; cases e
  · rw [List.getElem?_set_ne h] at e
    exact .inr ⟨fun z => h z.symm, e⟩
/-- a slot is filled anew; nothing is owned by it -/
theorem Rel.fill (x : Rel K m σ H s) {i : Nat} {w : Option V} {z : S} (h : SlotOk K m (σ.set i w) H i z) : Rel K m (σ.set i w) H (s.setE i z) := by
  refine ⟨x.pers, x.lock, x.oh, x.op, x.ol, x.lp, ?_, fun j y e => ?_, x.cells, x.cnt, x.ins, x.zz⟩
  · show (s.env.set i z).length = (σ.set i w).length
    rw [List.length_set, List.length_set]; exact x.len
  · rcases setE_get e with ⟨rfl, rfl⟩ | ⟨hj, e⟩
    · exact h
    · have y' := x.env j y e
      have eσ : (σ.set i w)[j]? = σ[j]? := List.getElem?_set_ne (Ne.symm hj)
      cases y with
      | no => trivial
      | val d => obtain ⟨v, e1, r⟩ := y'; exact ⟨v, eσ.trans e1, r⟩
      | own c => obtain ⟨a, e1, r⟩ := y'; exact ⟨a, eσ.trans e1, r⟩
      | lck c => obtain ⟨a, e1, r⟩ := y'; exact ⟨a, eσ.trans e1, r⟩
      | pc n => exact eσ.trans y'
      | ic k j' => exact ⟨eσ.trans y'.1, y'.2⟩
theorem set_self {i : Nat} {v : V} (h : i < σ.length) : (σ.set i (some v))[i]? = some (some v) := List.getElem?_set_self h
/-- a slot takes a new object -/
theorem Rel.take (x : Rel K m σ H s) {i : Nat} {a : Addr} {o : HO} {c : C} (h1 : m.O a = none) (h2 : m.P a = none) (h3 : m.L a = none) (e : H a = some o) (r : RepC K m o c) (hi : i < σ.length) :
    ∃ m', m.le m' ∧ Rel K m' (σ.set i (some (.ref a))) H (s.setE i (.own c)) := by
  have hO : ∀ b w, m.O b = some w → (fun b => if b = a then some (Own.slot i) else m.O b) b = some w := fun b w q => by
    show (if b = a then some (Own.slot i) else m.O b) = some w
    rw [if_neg fun z => ?_]; exact q
    rw [z, h1] at q; cases q
  have x1 : Rel K { m with O := fun b => if b = a then some (.slot i) else m.O b } σ H s := by
    refine ⟨x.pers, x.lock, fun b w q => ?_, fun b w q => ?_, fun b w q => ?_, x.lp, x.len, fun j z q => ?_, fun n c q => ?_, x.cnt, fun k I q => ?_, x.zz⟩
    · have q' : (if b = a then some (Own.slot i) else m.O b) = some w := q
      by_cases hb : b = a
      · rw [hb, e]; intro z; cases z
      · rw [if_neg hb] at q'; exact x.oh b w q'
    · have q' : (if b = a then some (Own.slot i) else m.O b) = some w := q
      by_cases hb : b = a
      · rw [hb]; exact h2
      · rw [if_neg hb] at q'; exact x.op b w q'
    · have q' : (if b = a then some (Own.slot i) else m.O b) = some w := q
      by_cases hb : b = a
      · rw [hb]; exact h3
      · rw [if_neg hb] at q'; exact x.ol b w q'
    · have y := x.env j z q
      cases z with
      | own c => obtain ⟨b, e1, o1, u, hu, r⟩ := y; exact ⟨b, e1, hO b _ o1, u, hu, r⟩
      | lck c => obtain ⟨b, e1, ⟨o1, u, hu, r⟩, l⟩ := y; exact ⟨b, e1, ⟨hO b _ o1, u, hu, r⟩, l⟩
      | _ => exact y
    · obtain ⟨o1, u, hu, r⟩ := x.cells n c q
      exact ⟨hO _ _ o1, u, hu, r⟩
    · exact InstOk.mono (m := m) (m' := { m with O := fun b => if b = a then some (.slot i) else m.O b }) ⟨fun _ _ h => h, Nat.le_refl _, fun _ _ => rfl⟩ rfl rfl rfl (fun _ _ => rfl) (fun b w _ h => hO b w h) (fun _ _ _ _ => rfl) (x.ins k I q)
  refine ⟨{ m with O := fun b => if b = a then some (.slot i) else m.O b }, ⟨fun _ _ h => h, rfl, rfl, Nat.le_refl _, fun _ _ => rfl, fun _ _ => Nat.le_refl _, fun _ _ _ _ => rfl, rfl, rfl⟩, x1.fill (i := i) (z := .own c) ?_⟩
  refine ⟨a, set_self hi, ?_, o, e, r⟩
  show (if a = a then some (Own.slot i) else m.O a) = some (Own.slot i)
  rw [if_pos rfl]
/-- an own object is given up: it is data from now on -/
theorem Rel.yield_ (x : Rel K m σ H s) {i : Nat} {a : Addr} {o : HO} {c : C} (es : s.env[i]? = some (.own c)) (e1 : σ[i]? = some (some (.ref a))) (e2 : m.O a = some (.slot i)) (e3 : H a = some o) (r : RepC K m o c) (hf : c.free = true) :
    ∃ m', m.le m' ∧ Rel K m' σ H (s.setE i (.val c.toD)) ∧ RD K m' (.ref a) c.toD ∧ (∀ b, m.O b = none → m'.O b = none) ∧ (∀ b, b ≠ a → m'.P b = m.P b) := by
  have hP : ∀ b u, m.P b = some u → upd m.P a o b = some u := fun b u q => by
    rw [upd_ne fun z => ?_]; exact q
    rw [z, x.op a _ e2] at q; cases q
  have kn : m.kn { m with P := upd m.P a o, O := fun b => if b = a then none else m.O b } := ⟨hP, Nat.le_refl _, fun _ _ => rfl⟩
  have hO : ∀ b w, b ≠ a → m.O b = some w → (if b = a then none else m.O b) = some w := fun b w n q => by rw [if_neg n]; exact q
  have hne : ∀ b w, m.O b = some w → w ≠ .slot i → b ≠ a := fun b w q n z => by
    rw [z, e2] at q; cases q; exact n rfl
  have ra : RD K { m with P := upd m.P a o, O := fun b => if b = a then none else m.O b } (.ref a) c.toD := toD_rep hf upd_same (r.mono kn)
  refine ⟨{ m with P := upd m.P a o, O := fun b => if b = a then none else m.O b }, ⟨hP, rfl, rfl, Nat.le_refl _, fun _ _ => rfl, fun _ _ => Nat.le_refl _, fun _ _ _ _ => rfl, rfl, rfl⟩, ⟨fun b u q => ?_, x.lock, fun b w q => ?_, fun b w q => ?_, fun b w q => ?_, fun b u q => ?_, ?_, fun j z q => ?_, fun n c q => ?_, x.cnt, fun k I q => ?_, x.zz⟩, ra, fun b q => ?_, fun b hb => upd_ne hb⟩
  · by_cases hb : b = a
    · subst hb
      have q' : upd m.P b o b = some u := q
      rw [upd_same] at q'; cases q'; exact e3
    · have q' : upd m.P a o b = some u := q
      rw [upd_ne hb] at q'; exact x.pers b u q'
  · have q' : (if b = a then none else m.O b) = some w := q
    by_cases hb : b = a
    · rw [if_pos hb] at q'; cases q'
    · rw [if_neg hb] at q'; exact x.oh b w q'
  · have q' : (if b = a then none else m.O b) = some w := q
    by_cases hb : b = a
    · rw [if_pos hb] at q'; cases q'
    · rw [if_neg hb] at q'
      show upd m.P a o b = none
      rw [upd_ne hb]; exact x.op b w q'
  · have q' : (if b = a then none else m.O b) = some w := q
    by_cases hb : b = a
    · rw [if_pos hb] at q'; cases q'
    · rw [if_neg hb] at q'; exact x.ol b w q'
  · show upd m.P a o b = none
    rw [upd_ne fun z => ?_]; exact x.lp b u q
    have q' : m.L b = some u := q
    rw [z, x.ol a _ e2] at q'; cases q'
  · show (s.env.set i _).length = σ.length
    rw [List.length_set]; exact x.len
  · rcases setE_get q with ⟨rfl, rfl⟩ | ⟨hj, q⟩
    · exact ⟨_, e1, ra⟩
    · have y := x.env j z q
      cases z with
      | no => trivial
      | val d => obtain ⟨v, f1, r⟩ := y; exact ⟨v, f1, RepD.mono kn.P kn.n kn.io r⟩
      | own c' =>
        obtain ⟨b, f1, o1, u, hu, r⟩ := y
        exact ⟨b, f1, hO b _ (hne b _ o1 fun z => hj (by injection z)) o1, u, hu, r.mono kn⟩
      | lck c' =>
        obtain ⟨b, f1, ⟨o1, u, hu, r⟩, l⟩ := y
        exact ⟨b, f1, ⟨hO b _ (hne b _ o1 fun z => hj (by injection z)) o1, u, hu, r.mono kn⟩, l⟩
      | pc n => exact y
      | ic k j' => exact y
  · obtain ⟨o1, u, hu, r⟩ := x.cells n c q
    exact ⟨hO _ _ (hne _ _ o1 fun z => nomatch z) o1, u, hu, r.mono kn⟩
  · exact InstOk.mono (m := m) (m' := { m with P := upd m.P a o, O := fun b => if b = a then none else m.O b }) kn rfl rfl rfl (fun _ _ => rfl) (fun b w hw h => hO b w (hne b w h fun z => by subst z; exact hw) h) (fun _ _ _ _ => rfl) (x.ins k I q)
  · show (if b = a then none else m.O b) = none
    by_cases hb : b = a
    · rw [if_pos hb]
    · rw [if_neg hb]; exact q
/-- what is pending stays pending -/
structure Sim (a b : Mp) : Prop where
  kn : a.kn b
  al : b.al = a.al
  nc : ∀ k, k < a.n → a.nc k ≤ b.nc k
  ic : ∀ k j, k < a.n → j < a.nc k → b.ic k j = a.ic k j
  free : ∀ p, a.O p = none → a.P p = none → a.L p = none → b.O p = none ∧ b.P p = none ∧ b.L p = none
theorem RepR.sim {a b : Mp} (h : Sim a b) {v : V} {r : R} (q : RepR K a σ H v r) : RepR K b σ H v r := by
  cases r with
  | val d => exact RepD.mono h.kn.P h.kn.n h.kn.io q
  | tmp c =>
    obtain ⟨p, e, g1, g2, g3, u, hu, ru⟩ := q
    obtain ⟨f1, f2, f3⟩ := h.free p g1 g2 g3
    exact ⟨p, e, f1, f2, f3, u, hu, ru.mono h.kn⟩
  | var i => exact q
  | pc n => show v = .ref (b.al n); rw [h.al]; exact q
  | ic k j =>
    obtain ⟨g1, g2, g3⟩ := q
    exact ⟨by rw [h.ic k j g2 g3]; exact g1, Nat.lt_of_lt_of_le g2 h.kn.n, Nat.lt_of_lt_of_le g3 (h.nc k g2)⟩
theorem Sim.lk {a b : Mp} (h : Sim a b) {v : V} {r : R} (q : RepR K a σ H v r) : Sim (lk a v r H) (lk b v r H) := by
  have qb := q.sim h
  refine ⟨⟨?_, ?_, ?_⟩, ?_, ?_, ?_, ?_⟩
  · rw [lk_P, lk_P]; exact h.kn.P
  · rw [lk_n, lk_n]; exact h.kn.n
  · rw [lk_n, lk_io, lk_io]; exact h.kn.io
  · rw [lk_al, lk_al]; exact h.al
  · rw [lk_n, lk_nc, lk_nc]; exact h.nc
  · rw [lk_n, lk_nc, lk_ic, lk_ic]; exact h.ic
  · rw [lk_O, lk_O, lk_P, lk_P]
    cases r with
    | tmp c =>
      obtain ⟨p, e, g1, g2, g3, u, hu, ru⟩ := qb
      subst e
      intro p' f1 f2 f3
      have f3' : (if p' = p then H p else a.L p') = none := f3
      by_cases hp : p' = p
      · rw [if_pos hp, hu] at f3'; cases f3'
      · rw [if_neg hp] at f3'
        obtain ⟨k1, k2, k3⟩ := h.free p' f1 f2 f3'
        exact ⟨k1, k2, by show (if p' = p then H p else b.L p') = none; rw [if_neg hp]; exact k3⟩
    | val _ => cases v <;> exact h.free
    | var _ => cases v <;> exact h.free
    | pc _ => cases v <;> exact h.free
    | ic _ _ => cases v <;> exact h.free
theorem RepRs.sim {a b : Mp} (h : Sim a b) : ∀ {vs : List V} {rs : List R}, RepRs K σ H a vs rs → RepRs K σ H b vs rs
  | [], [], _ => trivial
  | v :: vs, r :: rs, q => ⟨q.1.sim h, RepRs.sim (h.lk q.1) q.2⟩
  | [], _ :: _, q => q.elim
  | _ :: _, [], q => q.elim
theorem RepR.frz {v : V} {r : R} {d : D} (x : Rel K m σ H s) (p : RepR K m σ H v r) (e : frzR r s = some (d, s')) :
    ∃ m', m.le m' ∧ Rel K m' σ H s' ∧ RD K m' v d ∧ Sim (lk m v r H) m' := by
  cases r with
  | val d' =>
    cases e
    exact ⟨m, Mp.le.refl m, x, p, ⟨⟨fun _ _ h => h, Nat.le_refl _, fun _ _ => rfl⟩, rfl, fun _ _ => Nat.le_refl _, fun _ _ _ _ => rfl, fun _ a b c => ⟨a, b, c⟩⟩⟩
  | tmp c =>
    simp only [frzR] at e
    split at e
    rotate_left
    · cases e
    rename_i hf
    cases e
    obtain ⟨a, rfl, h1, h2, h3, o, ho, rc⟩ := p
    obtain ⟨x2, l2⟩ := x.settle h1 h3 ho h2
    refine ⟨_, l2, x2, toD_rep hf upd_same (rc.mono l2.kn), ⟨⟨l2.P, l2.n, l2.io⟩, rfl, l2.nc, l2.ic, fun p f1 f2 f3 => ?_⟩⟩
    have f3' : (if p = a then H a else m.L p) = none := f3
    have hp : p ≠ a := fun z => by rw [if_pos z, ho] at f3'; cases f3'
    rw [if_neg hp] at f3'
    exact ⟨f1, by show upd m.P a o p = none; rw [upd_ne hp]; exact f2, f3'⟩
  | var i =>
    simp only [frzR] at e
    cases q : s.env[i]? with
    | none => rw [q] at e; cases e
    | some z =>
      rw [q] at e
      cases z with
      | own c =>
        simp only [] at e
        split at e
        rotate_left
        · cases e
        rename_i hf
        cases e
        obtain ⟨a, ha, ho, o, hh, rc⟩ := x.env i _ q
        have p' : σ[i]? = some (some v) := p
        rw [ha] at p'; cases p'
        obtain ⟨m', l, x', r', oo, pp⟩ := x.yield_ q ha ho hh rc hf
        refine ⟨m', l, x', r', ⟨l.kn, l.al, l.nc, l.ic, fun p f1 f2 f3 => ?_⟩⟩
        have f1' : m.O p = none := f1
        have hp : p ≠ a := fun z => by rw [z, ho] at f1'; cases f1'
        exact ⟨oo p f1, by rw [pp p hp]; exact f2, by rw [l.L]; exact f3⟩
      | _ => cases e
  | pc n => cases e
  | ic k j => cases e
theorem frzAll_ok : ∀ {rs : List R} {vs : List V} {ds : List D} {m : Mp} {s s' : FS}, Rel K m σ H s → RepRs K σ H m vs rs → frzAll rs s = some (ds, s') → ∃ m', m.le m' ∧ Rel K m' σ H s' ∧ RDs K m' vs ds
  | [], [], ds, m, s, s', x, _, e => by cases e; exact ⟨m, Mp.le.refl m, x, .nil⟩
  | r :: rs, v :: vs, ds, m, s, s', x, p, e => by
    simp only [frzAll] at e
    cases q : frzR r s with
    | none => rw [q] at e; cases e
    | some z =>
      obtain ⟨d, s1⟩ := z
      rw [q] at e
      simp only [] at e
      cases q2 : frzAll rs s1 with
      | none => rw [q2] at e; cases e
      | some z2 =>
        obtain ⟨ds2, s2⟩ := z2
        rw [q2] at e
        cases e
        obtain ⟨m1, l1, x1, r1, sm⟩ := p.1.frz x q
        obtain ⟨m2, l2, x2, r2⟩ := frzAll_ok x1 (RepRs.sim sm p.2) q2
        exact ⟨m2, l1.trans l2, x2, .cons (RD.mono l2 r1) r2⟩
  | [], _ :: _, _, _, _, _, _, p, _ => p.elim
  | _ :: _, [], _, _, _, _, _, p, _ => p.elim
/-- a place of one's own is written -/
theorem Rel.put0 {v : V} {r : R} {c0 c : C} {o : HO} (x : Rel K m σ H s) (p : RepR K m σ H v r) (e0 : cont s r = some c0) (e : VL.put0 s r c = some s') (rc : RepC K m o c) (hz : ∀ a, v = .ref a → ∀ b u, m.Z b = some u → upd H a o b = some u ∧ ∃ od kvs, u = .frz od (.dK kvs)) :
    ∃ a, v = .ref a ∧ Rel K m σ (upd H a o) s' := by
  have keepP : ∀ {a : Addr} {w : Own}, m.O a = some w → ∀ b u, m.P b = some u → upd H a o b = some u := fun {a w} q b u f => by
    rw [upd_ne fun z => ?_]; exact x.pers b u f
    rw [z, x.op a w q] at f; cases f
  have keepL : ∀ {a : Addr} {w : Own}, m.O a = some w → ∀ b u, m.L b = some u → upd H a o b = some u := fun {a w} q b u f => by
    rw [upd_ne fun z => ?_]; exact x.lock b u f
    rw [z, x.ol a w q] at f; cases f
  have keepO : ∀ {a : Addr} b w, m.O b = some w → upd H a o b ≠ none := fun {a} b w f => by
    by_cases hb : b = a
    · rw [hb, upd_same]; intro z; cases z
    · rw [upd_ne hb]; exact x.oh b w f
  have slotK : ∀ {a : Addr} {w : Own}, m.O a = some w → ∀ i z, (w ≠ .slot i) → SlotOk K m σ H i z → SlotOk K m σ (upd H a o) i z := fun {a w} q i z n y => by
    cases z with
    | own c' =>
      obtain ⟨b, f1, o1, u, hu, r⟩ := y
      exact ⟨b, f1, o1, u, by rw [upd_ne fun z => ?_]; exact hu; rw [z, q] at o1; cases o1; exact n rfl, r⟩
    | lck c' =>
      obtain ⟨b, f1, ⟨o1, u, hu, r⟩, l⟩ := y
      exact ⟨b, f1, ⟨o1, u, by rw [upd_ne fun z => ?_]; exact hu; rw [z, q] at o1; cases o1; exact n rfl, r⟩, l⟩
    | _ => exact y
  have cellK : ∀ {a : Addr} {w w' : Own}, m.O a = some w → ∀ b c', (w ≠ w') → CellOk K m H w' b c' → CellOk K m (upd H a o) w' b c' := fun {a w w'} q b c' n y => by
    obtain ⟨o1, u, hu, r⟩ := y
    exact ⟨o1, u, by rw [upd_ne fun z => ?_]; exact hu; rw [z, q] at o1; cases o1; exact n rfl, r⟩
  have insK : ∀ {a : Addr} {w : Own}, m.O a = some w → ∀ k I, ¬ w.isI k → InstOk K m H k I → InstOk K m (upd H a o) k I := fun {a w} q k I n y =>
    y.mono ⟨fun _ _ h => h, Nat.le_refl _, fun _ _ => rfl⟩ rfl rfl rfl (fun _ _ => rfl) (fun _ _ _ h => h) (fun b w' hw h => upd_ne fun z => by
      rw [z, q] at h; cases h; exact n hw)
  cases r with
  | val d =>
    cases d with
    | ins k =>
      simp only [VL.put0] at e
      simp only [cont] at e0
      cases q : s.g[k]? with
      | none => rw [q] at e; cases e
      | some I =>
        rw [q] at e e0
        simp only [] at e e0
        split at e
        · rename_i hb
          cases e
          rw [if_pos hb] at e0
          obtain ⟨hn, z | ⟨c', z, ho, u, hu, ru⟩⟩ := (x.ins k I q).box hb
          · rw [z] at e0; cases e0
          · rw [z] at e0
            cases e0
            cases p
            have hk : k < s.g.length := (List.getElem?_eq_some_iff.mp q).1
            refine ⟨_, rfl, ⟨keepP ho, keepL ho, keepO, x.op, x.ol, x.lp, x.len, fun j' z f => slotK ho j' z (fun z => nomatch z) (x.env j' z f), fun n' c' f => cellK ho _ _ (fun z => nomatch z) (x.cells n' c' f), ?_, fun k' I' f => ?_, hz _ rfl⟩⟩
            · show m.n = (s.g.set k _).length
              rw [List.length_set]; exact x.cnt
            · have f' : (s.g.set k { I with cells := [c] })[k']? = some I' := f
              by_cases hkk : k = k'
              · subst hkk
                rw [List.getElem?_set_self hk] at f'
                cases f'
                exact .inr ⟨hb, hn, .inr ⟨c, rfl, ho, o, upd_same, rc⟩⟩
              · rw [List.getElem?_set_ne hkk] at f'
                exact insK ho k' I' (fun z => hkk z) (x.ins k' I' f')
        · cases e
    | _ => cases e
  | tmp c' => cases e
  | var i =>
    simp only [cont] at e0
    simp only [VL.put0] at e
    cases q : s.env[i]? with
    | none => rw [q] at e0; cases e0
    | some z =>
      rw [q] at e0 e
      have go : ∀ (z' : S) (a : Addr), σ[i]? = some (some (.ref a)) → m.O a = some (.slot i) → v = .ref a → SlotOk K m σ (upd H a o) i z' → Rel K m σ (upd H a o) (s.setE i z') := fun z' a ha ho ea hzz => by
        refine ⟨keepP ho, keepL ho, keepO, x.op, x.ol, x.lp, ?_, fun j z f => ?_, fun n c' f => cellK ho _ _ (fun z => nomatch z) (x.cells n c' f), x.cnt, fun k I f => insK ho k I (fun z => z) (x.ins k I f), hz _ ea⟩
        · show (s.env.set i _).length = σ.length
          rw [List.length_set]; exact x.len
        · rcases setE_get f with ⟨rfl, rfl⟩ | ⟨hj, f⟩
          · exact hzz
          · exact slotK ho j z (fun z => hj (by injection z with z; exact z.symm)) (x.env j z f)
      have p' : σ[i]? = some (some v) := p
      cases z with
      | own c' =>
        cases e
        obtain ⟨a, ha, ho, u, hu, ru⟩ := x.env i _ q
        rw [ha] at p'; cases p'
        exact ⟨a, rfl, go _ a ha ho rfl ⟨a, ha, ho, o, upd_same, rc⟩⟩
      | lck c' =>
        cases e
        obtain ⟨a, ha, ⟨ho, u, hu, ru⟩, l⟩ := x.env i _ q
        rw [ha] at p'; cases p'
        exact ⟨a, rfl, go _ a ha ho rfl ⟨a, ha, ⟨ho, o, upd_same, rc⟩, l⟩⟩
      | _ => cases e0
  | pc n =>
    cases e
    have p' : v = .ref (m.al n) := p
    obtain ⟨ho, u, hu, ru⟩ := x.cells n c0 e0
    refine ⟨_, p', ⟨keepP ho, keepL ho, keepO, x.op, x.ol, x.lp, x.len, fun j z f => slotK ho j z (fun z => nomatch z) (x.env j z f), fun n' c' f => ?_, x.cnt, fun k I f => insK ho k I (fun z => z) (x.ins k I f), hz _ p'⟩⟩
    have f' : (s.pcs.set n c)[n']? = some c' := f
    by_cases hn : n = n'
    · subst hn
      have hl : n < s.pcs.length := (List.getElem?_eq_some_iff.mp e0).1
      rw [List.getElem?_set_self hl] at f'
      cases f'
      exact ⟨ho, o, upd_same, rc⟩
    · rw [List.getElem?_set_ne hn] at f'
      exact cellK ho _ _ (fun z => hn (by injection z)) (x.cells n' c' f')
  | ic k j =>
    simp only [VL.put0] at e
    simp only [cont] at e0
    obtain ⟨p', pk, pj⟩ := p
    cases q : s.g[k]? with
    | none => rw [q] at e; cases e
    | some I =>
      rw [q] at e e0
      cases e
      rcases x.ins k I q with ⟨hb, g1, g2, ⟨fs, g3, g4⟩, g5, g6, g7⟩ | ⟨_, hn, _⟩
      rotate_left
      · rw [hn] at pj; omega
      obtain ⟨ho, u, hu, ru⟩ := g7 j c0 e0
      have hk : k < s.g.length := (List.getElem?_eq_some_iff.mp q).1
      refine ⟨_, p', ⟨keepP ho, keepL ho, keepO, x.op, x.ol, x.lp, x.len, fun j' z f => slotK ho j' z (fun z => nomatch z) (x.env j' z f), fun n' c' f => cellK ho _ _ (fun z => nomatch z) (x.cells n' c' f), ?_, fun k' I' f => ?_, hz _ p'⟩⟩
      · show m.n = (s.g.set k _).length
        rw [List.length_set]; exact x.cnt
      · have f' : (s.g.set k { I with cells := I.cells.set j c })[k']? = some I' := f
        by_cases hkk : k = k'
        · subst hkk
          rw [List.getElem?_set_self hk] at f'
          cases f'
          refine .inl ⟨hb, g1, g2, ⟨fs, ?_, g4⟩, ?_, ?_, fun j' c' f => ?_⟩
          · rw [upd_ne fun z => ?_]; exact g3
            rw [z, ho] at g1; cases g1
          · rw [upd_ne fun z => ?_]; exact g5
            rw [z, ho] at g2; cases g2
          · show m.nc k = (I.cells.set j c).length
            rw [List.length_set]; exact g6
          · have f' : (I.cells.set j c)[j']? = some c' := f
            by_cases hj : j = j'
            · subst hj
              have hl : j < I.cells.length := (List.getElem?_eq_some_iff.mp e0).1
              rw [List.getElem?_set_self hl] at f'
              cases f'
              exact ⟨ho, o, upd_same, rc⟩
            · rw [List.getElem?_set_ne hj] at f'
              exact cellK ho _ _ (fun z => hj (by injection z)) (g7 j' c' f')
        · rw [List.getElem?_set_ne hkk] at f'
          exact insK ho k' I' (fun z => hkk z) (x.ins k' I' f')
theorem Rel.put {v : V} {r : R} {c0 c : C} {o : HO} (x : Rel K m σ H s) (p : RepR K m σ H v r) (e0 : cont s r = some c0) (e : put s r c = some s') (rc : RepC K m o c) :
    ∃ a, v = .ref a ∧ Rel K m σ (upd H a o) s' := by
  have hfree : c0.free = true := by
    unfold VL.put at e
    rw [e0] at e
    cases c0 with
    | lkd _ => cases e
    | _ => rfl
  have e : VL.put0 s r c = some s' := by
    unfold VL.put at e
    rw [e0] at e
    cases c0 with
    | lkd _ => cases e
    | _ => exact e
  refine Rel.put0 x p e0 e rc fun a ea b u f => ?_
  obtain ⟨a', ou, e1, hu, hr⟩ := cont_ok x p e0
  rw [ea] at e1
  cases e1
  obtain ⟨f1, od, kvs, f2⟩ := x.zz b u f
  refine ⟨?_, od, kvs, f2⟩
  rw [upd_ne fun z => ?_]; exact f1
  rw [z, hu, f2] at f1
  cases f1
  cases c0 with
  | lst _ => obtain ⟨_, z, _⟩ := hr; cases z
  | dct _ => obtain ⟨_, z, _⟩ := hr; cases z
  | lkd _ => cases hfree
end
end VL
set_option maxRecDepth 100000
set_option maxHeartbeats 4000000
namespace VL
open PySem PySem.Spec L2
open PyProof.Rows hiding St
section
variable {κ α : Type} [DecidableEq κ]
def dval (kvs : List (κ × α)) (k : κ) : Option α := (kvs.find? fun kv => decide (kv.1 = k)).map (·.2)
def dput (kvs : List (κ × α)) (k : κ) (v : α) : List (κ × α) :=
  if (kvs.any fun kv => decide (kv.1 = k)) = true then kvs.map (fun kv => if kv.1 = k then (kv.1, v) else kv) else kvs ++ [(k, v)]
def ddrop (kvs : List (κ × α)) (k : κ) : List (κ × α) := kvs.filter fun kv => decide (kv.1 ≠ k)
end
section
variable {K : PySem.W.Frag} {P : Hp} {io : Nat → Addr} {n : Nat}
theorem RepKs.val {k : Key} : ∀ {vs : List (Key × V)} {ds : List (Key × D)}, RepKs K P io n vs ds →
    (dval ds k = none ∧ valV vs k = none) ∨ ∃ d v, dval ds k = some d ∧ valV vs k = some v ∧ RepD K P io n v d
  | _, _, .nil => .inl ⟨rfl, rfl⟩
  | _, _, .cons (k := j) (v := v) (d := d) (vs := vs) (ds := ds) a r => by
    by_cases h : j = k
    · exact .inr ⟨d, v, by simp [dval, List.find?_cons, h], valV_pos h, a⟩
    · have e : dval ((j, d) :: ds) k = dval ds k := by simp [dval, List.find?_cons, h]
      rw [e, valV_neg h]
      exact RepKs.val r
theorem RepKs.any {k : Key} : ∀ {vs : List (Key × V)} {ds : List (Key × D)}, RepKs K P io n vs ds → (vs.any fun kv => decide (kv.1 = k)) = (ds.any fun kv => decide (kv.1 = k))
  | _, _, .nil => rfl
  | _, _, .cons a r => by rw [List.any_cons, List.any_cons, RepKs.any r]
theorem RepKs.repl {k : Key} {v : V} {d : D} (q : RepD K P io n v d) : ∀ {vs : List (Key × V)} {ds : List (Key × D)}, RepKs K P io n vs ds →
    RepKs K P io n (vs.map fun kv => if kv.1 = k then (kv.1, v) else kv) (ds.map fun kv => if kv.1 = k then (kv.1, d) else kv)
  | _, _, .nil => .nil
  | _, _, .cons (k := j) a r => by
    rw [List.map_cons, List.map_cons]
    by_cases h : j = k
    · rw [if_pos h, if_pos h]; exact .cons q (RepKs.repl q r)
    · rw [if_neg h, if_neg h]; exact .cons a (RepKs.repl q r)
theorem RepKs.append : ∀ {vs ws : List (Key × V)} {ds es : List (Key × D)}, RepKs K P io n vs ds → RepKs K P io n ws es → RepKs K P io n (vs ++ ws) (ds ++ es)
  | _, _, _, _, .nil, q => q
  | _, _, _, _, .cons a r, q => .cons a (RepKs.append r q)
theorem RepKs.put {k : Key} {v : V} {d : D} (q : RepD K P io n v d) {vs : List (Key × V)} {ds : List (Key × D)} (r : RepKs K P io n vs ds) : RepKs K P io n (putK vs k v) (dput ds k d) := by
  unfold putK dput
  rw [RepKs.any r]
  split
  · exact RepKs.repl q r
  · exact RepKs.append r (.cons q .nil)
theorem RepKs.drop {k : Key} : ∀ {vs : List (Key × V)} {ds : List (Key × D)}, RepKs K P io n vs ds → RepKs K P io n (dropK vs k) (ddrop ds k)
  | _, _, .nil => .nil
  | _, _, .cons (k := j) a r => by
    unfold dropK ddrop
    rw [List.filter_cons, List.filter_cons]
    by_cases h : j = k
    · simp only [h, ne_eq, not_true_eq_false, decide_false, Bool.false_eq_true, if_false]
      exact RepKs.drop r
    · simp only [ne_eq, h, not_false_eq_true, decide_true, if_true]
      exact .cons a (RepKs.drop r)
end
def asI : R → Option Int
  | .val (.int i) => some i
  | _ => none
def asS : R → Option Str
  | .val (.str x) => some x
  | _ => none
def asBl : R → Option Bool
  | .val (.bl x) => some x
  | _ => none
def asK : R → Option Key
  | .val (.int i) => some (.inl i)
  | .val (.str x) => some (.inr x)
  | _ => none
/-- a list that may be read -/
def seqL (s : FS) (r : R) : Option (List D) := match cont s r with
  | some (.lst xs) => some xs
  | _ => none
def seqT : R → Option (List D)
  | .val (.tup xs) => some xs
  | _ => none
def dctK (s : FS) (r : R) : Option (List (Key × D)) := match cont s r with
  | some (.dct kvs) => some kvs
  | some (.lkd kvs) => some kvs
  | _ => none
/-- a dict that may be written -/
def dctW (s : FS) (r : R) : Option (List (Key × D)) := match cont s r with
  | some (.dct kvs) => some kvs
  | _ => none
section
variable {K : PySem.W.Frag} {m : Mp} {σ : St} {H : Hp} {s : FS} {v : V} {r : R}
theorem asI_ok {i : Int} (p : RepR K m σ H v r) (e : asI r = some i) : v = .int i := by
  unfold asI at e
  split at e
  · cases e; cases p; rfl
  · cases e
theorem asS_ok {x : Str} (p : RepR K m σ H v r) (e : asS r = some x) : v = .str x := by
  unfold asS at e
  split at e
  · cases e; cases p; rfl
  · cases e
theorem asBl_ok {x : Bool} (p : RepR K m σ H v r) (e : asBl r = some x) : v = .bl x := by
  unfold asBl at e
  split at e
  · cases e; cases p; rfl
  · cases e
theorem asK_ok {k : Key} (p : RepR K m σ H v r) (e : asK r = some k) : v = kV k := by
  unfold asK at e
  split at e
  · cases e; cases p; rfl
  · cases e; cases p; rfl
  · cases e
theorem seqL_ok {xs : List D} (x : Rel K m σ H s) (p : RepR K m σ H v r) (e : seqL s r = some xs) : ∃ a vs, v = .ref a ∧ H a = some (.lst vs) ∧ RDs K m vs xs := by
  unfold seqL at e
  cases q : cont s r with
  | none => rw [q] at e; cases e
  | some c =>
    rw [q] at e
    obtain ⟨a, o, e1, e2, e3⟩ := cont_ok x p q
    cases c with
    | lst ds => cases e; obtain ⟨vs, rfl, r⟩ := e3; exact ⟨a, vs, e1, e2, r⟩
    | dct ds => cases e
    | lkd ds => cases e
theorem dctK_ok {xs : List (Key × D)} (x : Rel K m σ H s) (p : RepR K m σ H v r) (e : dctK s r = some xs) : ∃ a vs, v = .ref a ∧ Rd H a (.dK vs) ∧ RKs K m vs xs := by
  unfold dctK at e
  cases q : cont s r with
  | none => rw [q] at e; cases e
  | some c =>
    rw [q] at e
    obtain ⟨a, o, e1, e2, e3⟩ := cont_ok x p q
    cases c with
    | lst ds => cases e
    | dct ds => cases e; obtain ⟨vs, rfl, r⟩ := e3; exact ⟨a, vs, e1, .inl e2, r⟩
    | lkd ds => cases e; obtain ⟨od, vs, rfl, r⟩ := e3; exact ⟨a, vs, e1, .inr ⟨od, e2⟩, r⟩
theorem dctW_ok {xs : List (Key × D)} (x : Rel K m σ H s) (p : RepR K m σ H v r) (e : dctW s r = some xs) : ∃ a vs, v = .ref a ∧ H a = some (.dK vs) ∧ RKs K m vs xs := by
  unfold dctW at e
  cases q : cont s r with
  | none => rw [q] at e; cases e
  | some c =>
    rw [q] at e
    obtain ⟨a, o, e1, e2, e3⟩ := cont_ok x p q
    cases c with
    | lst ds => cases e
    | dct ds => cases e; obtain ⟨vs, rfl, r⟩ := e3; exact ⟨a, vs, e1, e2, r⟩
    | lkd ds => cases e
theorem seqT_ok {xs : List D} (x : Rel K m σ H s) (p : RepR K m σ H v r) (e : seqT r = some xs) : ∃ a vs, v = .ref a ∧ H a = some (.tup vs) ∧ RDs K m vs xs := by
  unfold seqT at e
  split at e
  · cases e
    cases p with
    | tup h r => exact ⟨_, _, rfl, x.pers _ _ h, r⟩
  · cases e
end
/-- from two ints -/
def kII (p : Int → Int → Option D) : R → R → M R := fun a b s => match asI a, asI b with
  | some i, some j => match p i j with
    | some d => .ok (.val d) s
    | none => .stuck
  | _, _ => .stuck
theorem op2_II {K : PySem.W.Frag} {p : Int → Int → Option D} {r : R2} (h : ∀ m i j d H Q, p i j = some d → (∀ v, RD K m v d → Q v H) → r (.int i) (.int j) H Q) : Op2 K r (kII p) := by
  intro W σ m s H v1 v2 r1 r2 Q x ps q
  unfold kII at q
  cases e1 : asI r1 with
  | none => rw [e1] at q; exact q.elim
  | some i =>
    cases e2 : asI r2 with
    | none => rw [e1, e2] at q; exact q.elim
    | some j =>
      rw [e1, e2] at q
      simp only [] at q
      cases e3 : p i j with
      | none => rw [e3] at q; exact q.elim
      | some d =>
        rw [e3] at q
        rw [asI_ok ps.1 e1, asI_ok ps.2.1 e2]
        exact h m i j d H Q e3 fun v rv => post_val x q rv
def pSub : Int → Int → Option D := fun i j => some (.int (i - j))
def pMod : Int → Int → Option D := fun i j => if 0 < j then some (.int (i % j)) else none
def pDiv : Int → Int → Option D := fun i j => if 0 < j ∧ j < 1073741824 then some (.int (i / j)) else none
def pPow : Int → Int → Option D := fun i j => if 0 ≤ j ∧ j ≤ 1000000 ∧ i.natAbs < 2 ^ 64 then some (.int (i ^ j.toNat)) else none
def pLt : Int → Int → Option D := fun i j => some (.bl (decide (i < j)))
def pLe : Int → Int → Option D := fun i j => some (.bl (decide (i ≤ j)))
def pGt : Int → Int → Option D := fun i j => some (.bl (decide (j < i)))
def pGe : Int → Int → Option D := fun i j => some (.bl (decide (j ≤ i)))
section
variable {K : PySem.W.Frag}
theorem o2_sub : Op2 K (rI0 fun i j => .int (i - j)) (kII pSub) := op2_II fun m i j d H Q e q => by cases e; exact ⟨i, j, rfl, rfl, q _ .int⟩
theorem o2_mod : Op2 K (rI (fun _ j => 0 < j) fun i j => .int (i % j)) (kII pMod) := op2_II fun m i j d H Q e q => by
  unfold pMod at e
  split at e
  · cases e; exact ⟨i, j, rfl, rfl, by assumption, q _ .int⟩
  · cases e
theorem o2_div : Op2 K (rI CDiv fun i j => .int (i / j)) (kII pDiv) := op2_II fun m i j d H Q e q => by
  unfold pDiv at e
  split at e
  · cases e; exact ⟨i, j, rfl, rfl, by assumption, q _ .int⟩
  · cases e
theorem o2_pow : Op2 K (rI CPow fun i j => .int (i ^ j.toNat)) (kII pPow) := op2_II fun m i j d H Q e q => by
  unfold pPow at e
  split at e
  · cases e; exact ⟨i, j, rfl, rfl, by assumption, q _ .int⟩
  · cases e
theorem o2_lt : Op2 K (rI0 fun i j => .bl (decide (i < j))) (kII pLt) := op2_II fun m i j d H Q e q => by cases e; exact ⟨i, j, rfl, rfl, q _ .bl⟩
theorem o2_le : Op2 K (rI0 fun i j => .bl (decide (i ≤ j))) (kII pLe) := op2_II fun m i j d H Q e q => by cases e; exact ⟨i, j, rfl, rfl, q _ .bl⟩
theorem o2_gt : Op2 K (rI0 fun i j => .bl (decide (j < i))) (kII pGt) := op2_II fun m i j d H Q e q => by cases e; exact ⟨i, j, rfl, rfl, q _ .bl⟩
theorem o2_ge : Op2 K (rI0 fun i j => .bl (decide (j ≤ i))) (kII pGe) := op2_II fun m i j d H Q e q => by cases e; exact ⟨i, j, rfl, rfl, q _ .bl⟩
end
/-- + of ints, texts, lists -/
def kAdd : R → R → M R := fun a b s => match asI a, asI b with
  | some i, some j => .ok (.val (.int (i + j))) s
  | _, _ => match asS a, asS b with
    | some x, some y => if x.length + y.length ≤ sizeLine then .ok (.val (.str (x ++ y))) s else .stuck
    | _, _ => match seqL s a, seqL s b with
      | some xs, some ys => if xs.length + ys.length ≤ sizeLine then .ok (.tmp (.lst (xs ++ ys))) s else .stuck
      | _, _ => .stuck
def rAdd3 : R2 := fun x y H Q => rI0 (fun i j => .int (i + j)) x y H Q ∨ ((∃ i j, x = .str i ∧ y = .str j ∧ i.length + j.length ≤ sizeLine ∧ Q (.str (i ++ j)) H) ∨ rCat x y H Q)
theorem op_add3 {X : Cx} : OpR X (binaryOp .Add) rAdd3 := OpR.or op_add (OpR.or op_add_str op_cat)
theorem o2_add {K : PySem.W.Frag} : Op2 K rAdd3 kAdd := by
  intro W σ m s H v1 v2 r1 r2 Q x ps q
  unfold kAdd at q
  have str : Post K W m σ (match asS r1, asS r2 with
    | some x, some y => if x.length + y.length ≤ sizeLine then .ok (.val (.str (x ++ y))) s else .stuck
    | _, _ => match seqL s r1, seqL s r2 with
      | some xs, some ys => if xs.length + ys.length ≤ sizeLine then .ok (.tmp (.lst (xs ++ ys))) s else .stuck
      | _, _ => .stuck) (RpE K σ) Q → rAdd3 v1 v2 H Q := fun q => by
    have lst : Post K W m σ (match seqL s r1, seqL s r2 with
      | some xs, some ys => if xs.length + ys.length ≤ sizeLine then .ok (.tmp (.lst (xs ++ ys))) s else .stuck
      | _, _ => .stuck) (RpE K σ) Q → rAdd3 v1 v2 H Q := fun q => by
      cases e1 : seqL s r1 with
      | none => rw [e1] at q; exact q.elim
      | some xs =>
        cases e2 : seqL s r2 with
        | none => rw [e1, e2] at q; exact q.elim
        | some ys =>
          rw [e1, e2] at q
          simp only [] at q
          split at q
          · rename_i hl
            obtain ⟨a, vs, rfl, ha, ra⟩ := seqL_ok x ps.1 e1
            have p2 := ps.2.1
            have x2 := x.lk ps.1
            obtain ⟨b, ws, rfl, hb, rb⟩ := seqL_ok x2 p2 e2
            rw [show RDs K (lk m (.ref a) r1 H) ws ys = RepDs K m.P m.io m.n ws ys by unfold RDs; rw [lk_P, lk_io, lk_n]] at rb
            refine .inr (.inr ⟨a, b, vs, ws, rfl, rfl, ha, hb, by rw [ra.length, rb.length]; exact hl, fun p n => ?_⟩)
            exact post_tmp x q n ⟨_, rfl, ra.append rb⟩
          · exact q.elim
    cases e1 : asS r1 with
    | none => rw [e1] at q; exact lst q
    | some a =>
      cases e2 : asS r2 with
      | none => rw [e1, e2] at q; exact lst q
      | some b =>
        rw [e1, e2] at q
        simp only [] at q
        split at q
        · rename_i hl
          exact .inr (.inl ⟨a, b, asS_ok ps.1 e1, asS_ok ps.2.1 e2, hl, post_val x q .str⟩)
        · exact q.elim
  cases e1 : asI r1 with
  | none => rw [e1] at q; exact str q
  | some i =>
    cases e2 : asI r2 with
    | none => rw [e1, e2] at q; exact str q
    | some j =>
      rw [e1, e2] at q
      exact .inl ⟨i, j, asI_ok ps.1 e1, asI_ok ps.2.1 e2, post_val x q .int⟩
/-- * of ints (one of them below 2 ^ 64), a list times an int -/
def kMul : R → R → M R := fun a b s => match asI a, asI b with
  | some i, some j => if (-(2 ^ 64) < i ∧ i < 2 ^ 64) ∨ (-(2 ^ 64) < j ∧ j < 2 ^ 64) then .ok (.val (.int (i * j))) s else .stuck
  | _, _ => match seqL s a, asI b with
    | some xs, some j => if -(2 ^ 63) ≤ j ∧ j < 2 ^ 63 ∧ xs.length * j.toNat ≤ sizeLine then .ok (.tmp (.lst (List.replicate j.toNat xs).flatten)) s else .stuck
    | _, _ => .stuck
def rMul2 : R2 := fun x y H Q => rI CMul (fun i j => .int (i * j)) x y H Q ∨ rRep x y H Q
theorem op_mul2 {X : Cx} : OpR X (binaryOp .Mult) rMul2 := OpR.or op_mul op_rep
theorem RepDs.rep {K : PySem.W.Frag} {P : Hp} {io : Nat → Addr} {n : Nat} {vs : List V} {ds : List D} (r : RepDs K P io n vs ds) : ∀ k : Nat, RepDs K P io n (List.replicate k vs).flatten (List.replicate k ds).flatten
  | 0 => .nil
  | k + 1 => by
    rw [List.replicate_succ, List.replicate_succ, List.flatten_cons, List.flatten_cons]
    exact r.append (r.rep k)
theorem o2_mul {K : PySem.W.Frag} : Op2 K rMul2 kMul := by
  intro W σ m s H v1 v2 r1 r2 Q x ps q
  unfold kMul at q
  have lst : Post K W m σ (match seqL s r1, asI r2 with
    | some xs, some j => if -(2 ^ 63) ≤ j ∧ j < 2 ^ 63 ∧ xs.length * j.toNat ≤ sizeLine then .ok (.tmp (.lst (List.replicate j.toNat xs).flatten)) s else .stuck
    | _, _ => .stuck) (RpE K σ) Q → rMul2 v1 v2 H Q := fun q => by
    cases e1 : seqL s r1 with
    | none => rw [e1] at q; exact q.elim
    | some xs =>
      cases e2 : asI r2 with
      | none => rw [e1, e2] at q; exact q.elim
      | some j =>
        rw [e1, e2] at q
        simp only [] at q
        split at q
        · rename_i hl
          obtain ⟨a, vs, rfl, ha, ra⟩ := seqL_ok x ps.1 e1
          refine .inr ⟨a, j, vs, rfl, asI_ok ps.2.1 e2, ha, hl.1, hl.2.1, by rw [ra.length]; exact hl.2.2, fun p n => ?_⟩
          exact post_tmp x q n ⟨_, rfl, RepDs.rep ra _⟩
        · exact q.elim
  cases e1 : asI r1 with
  | none => rw [e1] at q; exact lst q
  | some i =>
    cases e2 : asI r2 with
    | none =>
      rw [e1, e2] at q
      cases z : seqL s r1 with
      | none => rw [z] at q; exact q.elim
      | some xs => rw [z] at q; exact q.elim
    | some j =>
      rw [e1, e2] at q
      simp only [] at q
      split at q
      · rename_i hl
        exact .inl ⟨i, j, asI_ok ps.1 e1, asI_ok ps.2.1 e2, hl, post_val x q .int⟩
      · exact q.elim
def kNeg : R → M R := fun a s => match asI a with
  | some i => .ok (.val (.int (-i))) s
  | none => .stuck
mutual
def D.pd : D → Option PyData
  | .non => some .none
  | .bl b => some (.bool b)
  | .int i => some (.int i)
  | .str x => some (.str x)
  | .ins _ => none
  | .frz _ => none
  | .dct _ => none
  | .lst xs => (D.pds xs).map .list
  | .tup xs => (D.pds xs).map .tuple
def D.pds : List D → Option (List PyData)
  | [] => some []
  | x :: xs => match D.pd x, D.pds xs with
    | some a, some b => some (a :: b)
    | _, _ => none
end
def rPd (s : FS) (r : R) : Option PyData := match r with
  | .val d => d.pd
  | r => match seqL s r with
    | some xs => (D.pds xs).map .list
    | none => none
section
variable {K : PySem.W.Frag} {m : Mp} {H : Hp}
mutual
theorem RepD.dp (hp : ∀ a o, m.P a = some o → H a = some o) : ∀ {v : V} {d : D} {p : PyData}, RD K m v d → D.pd d = some p → Dp K H v p
  | _, _, _, .non, e => by cases e; exact .non
  | _, _, _, .bl, e => by cases e; exact .bl _
  | _, _, _, .int, e => by cases e; exact .int _
  | _, _, _, .str, e => by cases e; exact .str _
  | _, _, _, .ins _, e => by cases e
  | _, _, _, .frz _ _, e => by cases e
  | _, _, _, .dct _ _, e => by cases e
  | _, .lst xs, _, .lst ha r, e => by
    unfold D.pd at e
    cases q : D.pds xs with
    | none => rw [q] at e; cases e
    | some ps => rw [q] at e; cases e; exact .lst (SqL.of (hp _ _ ha)) (RepDs.dp hp r q)
  | _, .tup xs, _, .tup ha r, e => by
    unfold D.pd at e
    cases q : D.pds xs with
    | none => rw [q] at e; cases e
    | some ps => rw [q] at e; cases e; exact .tup (SqT.of (hp _ _ ha)) (RepDs.dp hp r q)
theorem RepDs.dp (hp : ∀ a o, m.P a = some o → H a = some o) : ∀ {vs : List V} {ds : List D} {ps : List PyData}, RDs K m vs ds → D.pds ds = some ps → DpAll K H vs ps
  | _, _, _, .nil, e => by cases e; exact .nil
  | _, d :: ds, _, .cons a r, e => by
    unfold D.pds at e
    cases q1 : D.pd d with
    | none => rw [q1] at e; cases e
    | some p =>
      cases q2 : D.pds ds with
      | none => rw [q1, q2] at e; cases e
      | some ps => rw [q1, q2] at e; cases e; exact .cons (RepD.dp hp a q1) (RepDs.dp hp r q2)
end
end
theorem rPd_ok {K : PySem.W.Frag} {m : Mp} {σ : St} {H : Hp} {s : FS} {v : V} {r : R} {p : PyData} (x : Rel K m σ H s) (q : RepR K m σ H v r) (e : rPd s r = some p) : Dp K H v p := by
  have go : ∀ {r : R}, RepR K m σ H v r → (match seqL s r with | some xs => (D.pds xs).map PyData.list | none => none) = some p → Dp K H v p := fun {r} q e => by
    cases z : seqL s r with
    | none => rw [z] at e; cases e
    | some xs =>
      rw [z] at e
      simp only [] at e
      cases z2 : D.pds xs with
      | none => rw [z2] at e; cases e
      | some ps =>
        rw [z2] at e
        cases e
        obtain ⟨a, vs, rfl, ha, ra⟩ := seqL_ok x q z
        exact .lst (SqL.of ha) (RepDs.dp x.pers ra z2)
  cases r with
  | val d => exact RepD.dp x.pers q e
  | tmp c => exact go q e
  | var i => exact go q e
  | pc n => exact go q e
  | ic k j => exact go q e
/-- the scalars that == tells apart -/
def scalD : D → D → Bool
  | .non, .non => true | .non, .int _ => true | .int _, .non => true | .non, .bl _ => true | .bl _, .non => true | .non, .str _ => true | .str _, .non => true
  | .int _, .int _ => true | .bl _, .bl _ => true | .str _, .str _ => true | .int _, .str _ => true | .str _, .int _ => true | .bl _, .str _ => true | .str _, .bl _ => true
  | _, _ => false
def eqS : D → D → Bool
  | .non, .non => true
  | .int i, .int j => decide (i = j)
  | .bl i, .bl j => decide (i = j)
  | .str i, .str j => decide (i = j)
  | _, _ => false
def eqSc : R → R → Option Bool
  | .val a, .val b => if scalD a b = true then some (eqS a b) else none
  | _, _ => none
theorem eqSc_ok {K : PySem.W.Frag} {m m' : Mp} {σ : St} {H : Hp} {v1 v2 : V} {r1 r2 : R} {b : Bool} (p1 : RepR K m σ H v1 r1) (p2 : RepR K m' σ H v2 r2) (e : eqSc r1 r2 = some b) : scal v1 v2 = true ∧ decide (v1 = v2) = b := by
  unfold eqSc at e
  split at e
  · rename_i a b'
    split at e
    · rename_i hs
      cases e
      cases a <;> cases b' <;> first
        | (cases hs; done)
        | (cases p1; cases p2; refine ⟨rfl, ?_⟩; simp only [eqS, V.int.injEq, V.bl.injEq, V.str.injEq, reduceCtorEq, decide_false, decide_true])
    · cases e
  · cases e
/-- ==, != of data: scalars, lists and tuples at any depth -/
def kEqN (neg : Bool) : R → R → M R := fun a b s => match eqSc a b with
  | some k => .ok (.val (.bl (k ^^ neg))) s
  | none => match rPd s a, rPd s b with
    | some p, some q => if SeqAt.shaped p = true ∧ SeqAt.shaped q = true then .ok (.val (.bl (PyData.eqv p q ^^ neg))) s else .stuck
    | _, _ => .stuck
def rEq3 (K : PySem.W.Frag) : R2 := fun x y H Q => rEq x y H Q ∨ rEqD K x y H Q
def rNe3 (K : PySem.W.Frag) : R2 := fun x y H Q => rNe x y H Q ∨ rNeD K x y H Q
theorem op_eq3 {X : Cx} (hu : X.A.units + 64 < cLine) : OpR X (compareOp .Eq) (rEq3 X.K) := OpR.or op_eq (op_eqD hu)
theorem op_ne3 {X : Cx} (hu : X.A.units + 64 < cLine) : OpR X (compareOp .NotEq) (rNe3 X.K) := OpR.or op_ne (op_neD hu)
theorem dp_lk {K : PySem.W.Frag} {σ : St} {m : Mp} {H : Hp} {s : FS} {v1 v2 : V} {r1 r2 : R} {p q : PyData} (x : Rel K m σ H s) (ps : RepRs K σ H m [v1, v2] [r1, r2]) (e1 : rPd s r1 = some p) (e2 : rPd s r2 = some q) : Dp K H v1 p ∧ Dp K H v2 q :=
  ⟨rPd_ok x ps.1 e1, rPd_ok (x.lk ps.1) ps.2.1 e2⟩
theorem o2_eq {K : PySem.W.Frag} : Op2 K (rEq3 K) (kEqN false) := by
  intro W σ m s H v1 v2 r1 r2 Q x ps q
  unfold kEqN at q
  cases e : eqSc r1 r2 with
  | some k =>
    rw [e] at q
    obtain ⟨h1, h2⟩ := eqSc_ok ps.1 ps.2.1 e
    refine .inl ⟨h1, ?_⟩
    rw [h2]
    simpa using post_val x q .bl
  | none =>
    rw [e] at q
    simp only [] at q
    cases e1 : rPd s r1 with
    | none => rw [e1] at q; exact q.elim
    | some p1 =>
      cases e2 : rPd s r2 with
      | none => rw [e1, e2] at q; exact q.elim
      | some p2 =>
        rw [e1, e2] at q
        simp only [] at q
        split at q
        · rename_i hs
          obtain ⟨d1, d2⟩ := dp_lk x ps e1 e2
          exact .inr ⟨p1, p2, d1, d2, hs.1, hs.2, by simpa using post_val x q .bl⟩
        · exact q.elim
theorem o2_ne {K : PySem.W.Frag} : Op2 K (rNe3 K) (kEqN true) := by
  intro W σ m s H v1 v2 r1 r2 Q x ps q
  unfold kEqN at q
  cases e : eqSc r1 r2 with
  | some k =>
    rw [e] at q
    obtain ⟨h1, h2⟩ := eqSc_ok ps.1 ps.2.1 e
    refine .inl ⟨h1, ?_⟩
    rw [h2]
    simpa using post_val x q .bl
  | none =>
    rw [e] at q
    simp only [] at q
    cases e1 : rPd s r1 with
    | none => rw [e1] at q; exact q.elim
    | some p1 =>
      cases e2 : rPd s r2 with
      | none => rw [e1, e2] at q; exact q.elim
      | some p2 =>
        rw [e1, e2] at q
        simp only [] at q
        split at q
        · rename_i hs
          obtain ⟨d1, d2⟩ := dp_lk x ps e1 e2
          exact .inr ⟨p1, p2, d1, d2, hs.1, hs.2, by simpa using post_val x q .bl⟩
        · exact q.elim
def isNonR : R → Bool
  | .val .non => true
  | _ => false
def isBlR (b : Bool) : R → Bool
  | .val (.bl c) => b == c
  | _ => false
theorem isNonR_ok {K : PySem.W.Frag} {m : Mp} {σ : St} {H : Hp} {v : V} {r : R} {s : FS} (x : Rel K m σ H s) (p : RepR K m σ H v r) (he : ∀ i, r = .var i → (cont s r).isSome = true) : decide (v = .non) = isNonR r := by
  cases r with
  | val d => cases p <;> rfl
  | tmp c => obtain ⟨a, rfl, _⟩ := p; rfl
  | var i =>
    cases e : cont s (.var i) with
    | none => have := he i rfl; rw [e] at this; cases this
    | some c => obtain ⟨a, o, rfl, _⟩ := cont_ok x p e; rfl
  | pc n => have p' : v = .ref (m.al n) := p; rw [p']; rfl
  | ic k j => obtain ⟨rfl, _⟩ := p; rfl
def placeOk (s : FS) (r : R) : Bool := match r with
  | .var _ => (cont s r).isSome
  | _ => true
/-- x is y, x is not y: y None or a truth value -/
def kIsN (neg : Bool) : R → R → M R := fun a b s => if placeOk s a = true then (match b with
  | .val .non => .ok (.val (.bl (isNonR a ^^ neg))) s
  | .val (.bl c) => .ok (.val (.bl (isBlR c a ^^ neg))) s
  | _ => .stuck) else .stuck
/-- x is y where y is None or a truth value, x anything but a built-in class -/
def rIs (neg : Bool) : R2 := fun x y H Q => (y = .non ∧ Q (.bl (decide (x = .non) ^^ neg)) H) ∨ ∃ b, y = .bl b ∧ Q (.bl (decide (x = .bl b) ^^ neg)) H
theorem is_bool_gen {M : Model} {A : Around} {E : Value → Shared → Prop} {s : Shared} {Q : Value → Shared → Prop} {v : Value} {b : Bool} (hv : ∀ i, v ≠ .builtin i) (h : Q (.bool (v == .bool b)) s) : wpAny M A (compareOp .Is v (.bool b)) Q E s := by
  cases v with
  | builtin i => exact absurd rfl (hv i)
  | _ => exact wpAny_pure h
theorem isnot_bool_gen {M : Model} {A : Around} {E : Value → Shared → Prop} {s : Shared} {Q : Value → Shared → Prop} {v : Value} {b : Bool} (hv : ∀ i, v ≠ .builtin i) (h : Q (.bool (!(v == .bool b))) s) : wpAny M A (compareOp .IsNot v (.bool b)) Q E s := by
  cases v with
  | builtin i => exact absurd rfl (hv i)
  | _ => exact wpAny_pure h
theorem RelV.nb {x : V} {v : Value} (r : RelV x v) : ∀ i, v ≠ .builtin i := by
  intro i z
  subst z
  cases x <;> first
    | (cases r; done)
    | (obtain ⟨t, h⟩ := r; cases h)
theorem RelV.bl_iff {x : V} {v : Value} {b : Bool} (r : RelV x v) : (v == Value.bool b) = decide (x = .bl b) := by
  rw [Bool.eq_iff_iff]
  simp only [beq_iff_eq, decide_eq_true_eq]
  cases x with
  | bl c =>
    cases (show v = Value.bool c from r)
    simp
  | non => cases (show v = Value.none from r); simp
  | int i => obtain ⟨t, h⟩ := (show ∃ t, v = Value.int i t from r); subst h; simp
  | str i => obtain ⟨t, h⟩ := (show ∃ t, v = Value.str i t from r); subst h; simp
  | byt i => obtain ⟨t, h⟩ := (show ∃ t, v = Value.bytes i t from r); subst h; simp
  | flt i => obtain ⟨t, h⟩ := (show ∃ t, v = Value.float i t from r); subst h; simp
  | ref a => cases (show v = Value.ref a from r); simp
  | ty n => cases (show v = Value.type n from r); simp
theorem op_is3 {X : Cx} : OpR X (compareOp .Is) (rIs false) := by
  intro pins s σ H x y v u Q I rx ry h
  rcases h with ⟨rfl, q⟩ | ⟨b, rfl, q⟩
  · exact op_isN pins s σ H x .non v u Q I rx ry ⟨rfl, by simpa using q⟩
  · cases (show u = Value.bool b from ry)
    exact is_bool_gen (RelV.nb rx) (fin_bl I q (by rw [RelV.bl_iff rx]; simp))
theorem op_isnot3 {X : Cx} : OpR X (compareOp .IsNot) (rIs true) := by
  intro pins s σ H x y v u Q I rx ry h
  rcases h with ⟨rfl, q⟩ | ⟨b, rfl, q⟩
  · exact op_notN pins s σ H x .non v u Q I rx ry ⟨rfl, by simpa using q⟩
  · cases (show u = Value.bool b from ry)
    exact isnot_bool_gen (RelV.nb rx) (fin_bl I q (by rw [RelV.bl_iff rx]; simp))
theorem isBlR_ok {K : PySem.W.Frag} {m : Mp} {σ : St} {H : Hp} {v : V} {r : R} {s : FS} {b : Bool} (x : Rel K m σ H s) (p : RepR K m σ H v r) (he : ∀ i, r = .var i → (cont s r).isSome = true) : decide (v = .bl b) = isBlR b r := by
  cases r with
  | val d => cases p <;> first | rfl | (rename_i c; cases b <;> cases c <;> rfl)
  | tmp c => obtain ⟨a, rfl, _⟩ := p; rfl
  | var i =>
    cases e : cont s (.var i) with
    | none => have := he i rfl; rw [e] at this; cases this
    | some c => obtain ⟨a, o, rfl, _⟩ := cont_ok x p e; rfl
  | pc n => have p' : v = .ref (m.al n) := p; rw [p']; rfl
  | ic k j => obtain ⟨rfl, _⟩ := p; rfl
theorem o2_is {K : PySem.W.Frag} {neg : Bool} : Op2 K (rIs neg) (kIsN neg) := by
  intro W σ m s H v1 v2 r1 r2 Q x ps q
  unfold kIsN at q
  split at q
  · rename_i hp
    have he : ∀ i, r1 = .var i → (cont s r1).isSome = true := fun i e => by subst e; exact hp
    split at q
    · have p2 := ps.2.1
      cases p2
      refine .inl ⟨rfl, ?_⟩
      rw [isNonR_ok x ps.1 he]
      exact post_val x q .bl
    · rename_i c
      have p2 := ps.2.1
      cases p2
      refine .inr ⟨c, rfl, ?_⟩
      rw [isBlR_ok x ps.1 he]
      exact post_val x q .bl
    · exact q.elim
  · exact q.elim
end VL
set_option maxRecDepth 100000
set_option maxHeartbeats 4000000
namespace VL
open PySem PySem.Spec L2
open PyProof.Rows hiding St
def Res.bindS {α : Type} (x : Res α) (k : α → SM) : SRes := match x with
  | .stuck => .stuck
  | .ok a s => k a s
  | .exc e s => .exc e s
def sNil : SM := fun s => .next s
def sSeq (f g : SM) : SM := fun s => match f s with
  | .next s1 => g s1
  | z => z
def sE (f : M R) : SM := fun s => (f s).bindS fun _ s1 => .next s1
def sRet (f : M R) : SM := fun s => (f s).bindS fun r s1 => .ret r s1
def sRetN : SM := fun s => .ret (.val .non) s
def sIf (t : M Bool) (f g : SM) : SM := fun s => (t s).bindS fun b s1 => if b = true then f s1 else g s1
def sBrk : SM := fun s => .brk s
def sCont : SM := fun s => .cont s
def sNever : SM := fun _ => .stuck
/-- the i-th name takes an operand -/
def setSlot (i : Nat) (r : R) : SM := fun s => match r with
  | .val d => .next (s.setE i (.val d))
  | .tmp c => if i < s.env.length then .next (s.setE i (.own c)) else .stuck
  | .pc n => .next (s.setE i (.pc n))
  | .ic k j => .next (s.setE i (.ic k j))
  | .var j => match frzR (.var j) s with
    | some (d, s1) => .next (s1.setE i (.val d))
    | none => .stuck
def sSet (i : Nat) (f : M R) : SM := fun s => (f s).bindS (setSlot i)
section
variable {K : PySem.W.Frag} {W : WX} {m m' : Mp} {σ : St} {H : Hp} {s : FS}
theorem oneS {f : M R} {k : R → SM} {D : Ends} {R' : V → Hp → Prop} (h : ∃ m s, Rel K m σ H s ∧ PostS K W m ((f s).bindS k) D)
    (hk : ∀ m s H v r, Rel K m σ H s → RepR K m σ H v r → PostS K W m (k r s) D → R' v H) : toE K W f σ H R' := by
  obtain ⟨m, s, x, p⟩ := h
  refine ⟨m, s, x, ?_⟩
  cases e : f s with
  | stuck => rw [e] at p; exact p.elim
  | ok r s1 =>
    rw [e] at p
    intro v H1 m1 l1 x1 r1
    exact hk m1 s1 H1 v r x1 r1 (PostS_mono l1 p)
  | exc ex s1 => rw [e] at p; exact fun c d H' m' l x => p c d σ H' m' l x
theorem oneTS {f : M Bool} {k : Bool → SM} {D : Ends} {R' : Bool → Hp → Prop} (h : ∃ m s, Rel K m σ H s ∧ PostS K W m ((f s).bindS k) D)
    (hk : ∀ m s H b, Rel K m σ H s → PostS K W m (k b s) D → R' b H) : toT K W f σ H R' := by
  obtain ⟨m, s, x, p⟩ := h
  refine ⟨m, s, x, ?_⟩
  cases e : f s with
  | stuck => rw [e] at p; exact p.elim
  | ok r s1 =>
    rw [e] at p
    intro v H1 m1 l1 x1 r1
    have r1' : v = r := r1
    subst r1'
    exact hk m1 s1 H1 v x1 (PostS_mono l1 p)
  | exc ex s1 => rw [e] at p; exact fun c d H' m' l x => p c d σ H' m' l x
theorem manyS {f : M (List R)} {k : List R → SM} {D : Ends} {R' : List V → Hp → Prop} (h : ∃ m s, Rel K m σ H s ∧ PostS K W m ((f s).bindS k) D)
    (hk : ∀ m s H vs rs, Rel K m σ H s → RepRs K σ H m vs rs → PostS K W m (k rs s) D → R' vs H) : toA K W f σ H R' := by
  obtain ⟨m, s, x, p⟩ := h
  refine ⟨m, s, x, ?_⟩
  cases e : f s with
  | stuck => rw [e] at p; exact p.elim
  | ok r s1 =>
    rw [e] at p
    intro v H1 m1 l1 x1 r1
    exact hk m1 s1 H1 v r x1 r1 (PostS_mono l1 p)
  | exc ex s1 => rw [e] at p; exact fun c d H' m' l x => p c d σ H' m' l x
theorem setSlot_ok {i : Nat} {v : V} {r : R} {D : Ends} (x : Rel K m σ H s) (p : RepR K m σ H v r) (q : PostS K W m (setSlot i r s) D) : D.nx (σ.set i (some v)) H := by
  have inb : ∀ {s' : FS} {z : S}, Rel K m σ H s → (i < σ.length → SlotOk K m (σ.set i (some v)) H i z) → Rel K m (σ.set i (some v)) H (s.setE i z) := fun {s' z} x h => by
    by_cases hi : i < σ.length
    · exact x.fill (h hi)
    · have e1 : s.env.set i z = s.env := List.set_eq_of_length_le (by rw [x.len]; omega)
      have e2 : σ.set i (some v) = σ := List.set_eq_of_length_le (by omega)
      have e3 : s.setE i z = s := by unfold FS.setE; rw [e1]
      rw [e2, e3]; exact x
  cases r with
  | val d => exact q _ _ m (Mp.le.refl m) (inb (s' := s) x fun hi => ⟨v, set_self hi, p⟩)
  | tmp c =>
    simp only [setSlot] at q
    split at q
    · rename_i hi
      obtain ⟨a, rfl, h1, h2, h3, o, ho, rc⟩ := p
      obtain ⟨m', l, x'⟩ := x.take h1 h2 h3 ho rc (by rw [← x.len]; exact hi)
      exact q _ _ m' l x'
    · exact q.elim
  | pc n =>
    have p' : v = .ref (m.al n) := p
    subst p'
    exact q _ _ m (Mp.le.refl m) (inb (s' := s) x fun hi => set_self hi)
  | ic k j =>
    obtain ⟨rfl, p2⟩ := p
    exact q _ _ m (Mp.le.refl m) (inb (s' := s) x fun hi => ⟨set_self hi, p2⟩)
  | var j =>
    simp only [setSlot] at q
    cases e : frzR (.var j) s with
    | none => rw [e] at q; exact q.elim
    | some z =>
      obtain ⟨d, s1⟩ := z
      rw [e] at q
      obtain ⟨m1, l1, x1, r1, _⟩ := p.frz x e
      refine q _ _ m1 l1 ?_
      by_cases hi : i < σ.length
      · exact x1.fill ⟨v, set_self hi, r1⟩
      · have e1 : s1.env.set i (.val d) = s1.env := List.set_eq_of_length_le (by rw [x1.len]; omega)
        have e2 : σ.set i (some v) = σ := List.set_eq_of_length_le (by omega)
        have e3 : s1.setE i (.val d) = s1 := by unfold FS.setE; rw [e1]
        rw [e2, e3]; exact x1
end
section
variable {X : Cx} {W : WX} {pos : Pos} {e : Expr} {f : M R}
theorem ss_nil : PSs X [] (toS X.K W sNil) := PSs_imp pss_nil fun D σ H ⟨m, s, x, p⟩ => p σ H m (Mp.le.refl m) x
theorem ss_cons {st : Stmt} {rest : List Stmt} {f g : SM} (h1 : PS X st (toS X.K W f)) (h2 : PSs X rest (toS X.K W g)) : PSs X (st :: rest) (toS X.K W (sSeq f g)) :=
  PSs_imp (pss_cons h1 h2) fun D σ H ⟨m, s, x, p⟩ => by
    refine ⟨m, s, x, ?_⟩
    unfold sSeq at p
    cases e : f s with
    | stuck => rw [e] at p; exact p
    | next s1 => rw [e] at p; exact fun σ' H' m' l x' => ⟨m', s1, x', PostS_mono l p⟩
    | brk s1 => rw [e] at p; exact p
    | cont s1 => rw [e] at p; exact p
    | ret r s1 => rw [e] at p; exact p
    | exc ex s1 => rw [e] at p; exact p
theorem ss_one {st : Stmt} {f : SM} (h : PS X st (toS X.K W f)) : PSs X [st] (toS X.K W f) := pss_one h
theorem ss_expr (he : PE X e (toE X.K W f)) (hs : swapsWith e none pos.line X.env = pure false := by rfl) : PS X (.Expr e pos) (toS X.K W (sE f)) :=
  PS_imp (ps_expr he hs) fun D σ H h => oneS h fun m s H v r x p q => q σ H m (Mp.le.refl m) x
theorem ss_ret (he : PE X e (toE X.K W f)) : PS X (.Return (some e) pos) (toS X.K W (sRet f)) :=
  PS_imp (ps_ret he) fun D σ H h => oneS h fun m s H v r x p q => q v σ H m (Mp.le.refl m) x p
theorem ss_break : PS X (.Break pos) (toS X.K W sBrk) := PS_imp ps_break fun D σ H ⟨m, s, x, p⟩ => p σ H m (Mp.le.refl m) x
theorem ss_never {st : Stmt} : PS X st (toS X.K W sNever) := PS_imp ps_never fun D σ H ⟨m, s, x, p⟩ => p.elim
theorem ss_if {c : Expr} {a b : List Stmt} {t : M Bool} {f g : SM} (hc : PT X c (toT X.K W t)) (ha : PSs X a (toS X.K W f)) (hb : PSs X b (toS X.K W g)) : PS X (.If c a b pos) (toS X.K W (sIf t f g)) :=
  PS_imp (ps_if hc ha hb) fun D σ H h => oneTS h fun m s H k x q => by
    cases k with
    | true => rw [if_pos rfl] at q ⊢; exact ⟨m, s, x, q⟩
    | false => rw [if_neg (by decide)] at q ⊢; exact ⟨m, s, x, q⟩
theorem ss_set {i : Nat} {x : Str} {pos' : Pos} (hN : X.N.Nodup) (hi : X.N[i]? = some x) (hx : Loc X.env.scope x) (he : PE X e (toE X.K W f)) (hs : swapsWith e (some (.Name x pos')) pos.line X.env = pure false := by rfl)
    (hf : X.fn x = true ∨ X.env.scope.names.lookup x = some .local := by first | exact .inl rfl | exact .inr rfl | assumption) : PS X (.Assign [.Name x pos'] e pos) (toS X.K W (sSet i f)) :=
  PS_imp (ps_set hN hi hx he hs hf) fun D σ H h => oneS h fun m s H v r x p q => setSlot_ok x p q
end
/-- x op= e -/
def sAug (i : Nat) (k : R → R → M R) (f : M R) : SM := fun s => (eB k (eVar i) f s).bindS (setSlot i)
section
variable {X : Cx} {W : WX} {pos : Pos} {e : Expr} {f : M R}
theorem ss_aug {i : Nat} {x : Str} {pos' : Pos} {op : Operator} {ti : TIp} {k : R → R → M R} (hN : X.N.Nodup) (hi : X.N[i]? = some x) (hx : Loc X.env.scope x) (he : PE X e (toE X.K W f)) (ho : PIp X op ti) (hk : Op2 X.K ti k)
    (hf : X.fn x = true ∨ X.env.scope.names.lookup x = some .local := by first | exact .inl rfl | exact .inr rfl | assumption) : PS X (.AugAssign (.Name x pos') op e pos) (toS X.K W (sAug i k f)) :=
  PS_imp (ps_aug hN hi hx he ho hf) fun D σ H h => by
    have h' : ∃ m s, Rel X.K m σ H s ∧ PostS X.K W m ((eVar i s).bindS fun a s1 => (f s1).bindS fun b s2 => (k a b s2).bindS (setSlot i)) D := by
      obtain ⟨m, s, x, p⟩ := h
      refine ⟨m, s, x, ?_⟩
      have e : sAug i k f s = (eVar i s).bindS fun a s1 => (f s1).bindS fun b s2 => (k a b s2).bindS (setSlot i) := by
        unfold sAug eB
        cases eVar i s with
        | stuck => rfl
        | exc e s1 => rfl
        | ok r1 s1 =>
          show ((f s1).bind fun b => k r1 b).bindS _ = (f s1).bindS _
          cases f s1 <;> rfl
      rw [e] at p; exact p
    have z : toE X.K W (eVar i) σ H fun v H1 => toE X.K W f σ H1 fun y H2 => ti v y H2 fun z H3 => D.nx (σ.set i (some z)) H3 := by
      refine oneS h' fun m s H v r x p q => ?_
      -- the operand at the name is kept: an int, or an object of the frame's own
      have q' : PostS X.K W m ((eCons f eNil s).bindS fun rs s2 => (k r (rs.headD r) s2).bindS (setSlot i)) D := by
        show PostS X.K W m (((f s).bind fun b s2 => Res.bind (.ok [] s2) fun rs s3 => .ok (b :: rs) s3).bindS fun rs s2 => (k r (rs.headD r) s2).bindS (setSlot i)) D
        cases e : f s with
        | stuck => rw [e] at q; exact q
        | ok b s1 => rw [e] at q; exact q
        | exc ex s1 => rw [e] at q; exact q
      refine ⟨lk m v r H, s, x.lk p, ?_⟩
      cases e : f s with
      | stuck => rw [e] at q; exact q.elim
      | exc ex s1 =>
        rw [e] at q
        intro c d H2 m2 l2 x2 rx
        have l0 := lk_le (Mp.le.refl m) l2
        refine q c d σ H2 (m2.setL m.L) l0 (x2.setL fun a o ea => ?_) (RepX.mono (m := m2) (m' := m2.setL m.L) ⟨fun _ _ h => h, Nat.le_refl _, fun _ _ => rfl⟩ rx)
        have : (lk m v r H).L a = some o := by
          cases r with
          | tmp c =>
            obtain ⟨b, rfl, h1, h2, h3, u, hu, rc⟩ := p
            show (if a = b then H b else m.L a) = some o
            by_cases hab : a = b
            · rw [hab, h3] at ea; cases ea
            · rw [if_neg hab]; exact ea
          | _ => cases v <;> exact ea
        rw [← l2.L] at this
        exact this
      | ok b s1 =>
        rw [e] at q
        intro y H2 m2 l2 x2 r2
        have l0 := lk_le (Mp.le.refl m) l2
        have qq := lk_rep (L := m.L) rfl p l2 x2
        have x3 : Rel X.K (m2.setL m.L) σ H2 s1 := x2.setL fun a o ea => by
          have : (lk m v r H).L a = some o := by
            cases r with
            | tmp c =>
              obtain ⟨b, rfl, h1, h2, h3, u, hu, rc⟩ := p
              show (if a = b then H b else m.L a) = some o
              by_cases hab : a = b
              · rw [hab, h3] at ea; cases ea
              · rw [if_neg hab]; exact ea
            | _ => cases v <;> exact ea
          rw [← l2.L] at this
          exact this
        have q3 := PostS_mono l0 q
        refine hk W σ (m2.setL m.L) s1 H2 v y r b _ x3 ⟨qq.1, by rw [qq.2]; exact ⟨r2, trivial⟩⟩ ?_
        cases e3 : k r b s1 with
        | stuck => simp only [Res.bindS, e3] at q3; exact q3
        | exc ex s4 => simp only [Res.bindS, e3] at q3; exact fun c d H' m' l x => q3 c d σ H' m' l x
        | ok r3 s4 =>
          simp only [Res.bindS, e3] at q3
          intro v3 H3 m3 l3 x3 p3
          exact setSlot_ok x3 p3 (PostS_mono l3 q3)
    obtain ⟨v, hv, hz⟩ := toE_var z
    exact ⟨v, hv, hz⟩
end
end VL
set_option maxRecDepth 100000
set_option maxHeartbeats 4000000
namespace VL
open PySem PySem.Spec L2
open PyProof.Rows hiding St
open Classical in
noncomputable def forL (chk : FS → Prop) (g : D → FS → Option FS) (body : SM) : List D → SM
  | [], s => if chk s then .next s else .stuck
  | d :: ds, s => if chk s then (match g d s with
    | none => .stuck
    | some s1 => match body s1 with
      | .next s2 => forL chk g body ds s2
      | .cont s2 => forL chk g body ds s2
      | .brk s2 => .next s2
      | .ret r s2 => .ret r s2
      | .exc e s2 => .exc e s2
      | .stuck => .stuck) else .stuck
/-- the thing walked stays as it is -/
def keepL (r : R) (xs : List D) (s : FS) : Prop := match r with
  | .tmp _ => True
  | .val (.ins k) => seqL s (.val (.ins k)) = some xs
  | .val _ => True
  | .var i => s.env[i]? = some (.lck (.lst xs))
  | r => seqL s r = some xs
def lockV (r : R) (s : FS) : FS := match r with
  | .var i => match s.env[i]? with
    | some (.own c) => s.setE i (.lck c)
    | _ => s
  | _ => s
def unlockV (r : R) (s0 s : FS) : FS := match r with
  | .var i => match s0.env[i]? with
    | some (.own _) => match s.env[i]? with
      | some (.lck c) => s.setE i (.own c)
      | _ => s
    | _ => s
  | _ => s
def SRes.map (f fx : FS → FS) : SRes → SRes
  | .stuck => .stuck
  | .next s => .next (f s)
  | .brk s => .brk (f s)
  | .cont s => .cont (f s)
  | .ret r s => .ret r (f s)
  | .exc e s => .exc e (fx s)
/-- what a loop walks: the items, what must stay, how the state is entered and left -/
structure Lp where
  xs : List D
  chk : FS → Prop := fun _ => True
  en : FS → FS := fun s => s
  ex : FS → FS := fun s => s
  exx : FS → FS := ex
noncomputable def sFor (f : M Lp) (g : D → FS → Option FS) (body : SM) : SM := fun s => (f s).bindS fun lp s1 => (forL lp.chk g body lp.xs (lp.en s1)).map lp.ex lp.exx
def lkF (m : Mp) (a : Addr) (r : R) (H : Hp) (s : FS) : Mp := match r with
  | .tmp _ => { m with L := fun b => if b = a then H a else m.L b }
  | .var i => match s.env[i]? with
    | some (.own _) => { m with lks := fun j => if j = i then some a else m.lks j }
    | _ => m
  | _ => m
/-- m' is behind m, with perhaps more locked -/
structure Mp.lew (m m' : Mp) : Prop where
  P : ∀ a o, m.P a = some o → m'.P a = some o
  L : ∀ a o, m.L a = some o → m'.L a = some o
  al : m'.al = m.al
  n : m.n ≤ m'.n
  io : ∀ k, k < m.n → m'.io k = m.io k
  nc : ∀ k, k < m.n → m.nc k ≤ m'.nc k
  ic : ∀ k j, k < m.n → j < m.nc k → m'.ic k j = m.ic k j
  lks : m'.lks = m.lks
  Z : m'.Z = m.Z
theorem Mp.le.lew {m m' : Mp} (l : m.le m') : m.lew m' := ⟨l.P, fun a o h => by rw [l.L]; exact h, l.al, l.n, l.io, l.nc, l.ic, l.lks, l.Z⟩
/-- back from a lock -/
def mb (m' m : Mp) : Mp := { m' with L := m.L, lks := m.lks }
section
variable {K : PySem.W.Frag} {W : WX} {m m' : Mp} {σ : St} {H : Hp} {s : FS} {a : Addr} {r : R}
theorem lkF_eq (m : Mp) (a : Addr) (r : R) (H : Hp) (s : FS) : (lkF m a r H s).P = m.P ∧ (lkF m a r H s).O = m.O ∧ (lkF m a r H s).al = m.al ∧ (lkF m a r H s).n = m.n ∧ (lkF m a r H s).io = m.io ∧ (lkF m a r H s).dx = m.dx ∧ (lkF m a r H s).nc = m.nc ∧ (lkF m a r H s).ic = m.ic := by
  cases r with
  | var i =>
    simp only [lkF]
    cases s.env[i]? with
    | none => exact ⟨rfl, rfl, rfl, rfl, rfl, rfl, rfl, rfl⟩
    | some z => cases z <;> exact ⟨rfl, rfl, rfl, rfl, rfl, rfl, rfl, rfl⟩
  | _ => exact ⟨rfl, rfl, rfl, rfl, rfl, rfl, rfl, rfl⟩
theorem lkF_Z (m : Mp) (a : Addr) (r : R) (H : Hp) (s : FS) : (lkF m a r H s).Z = m.Z := by
  cases r with
  | var i =>
    simp only [lkF]
    cases s.env[i]? with
    | none => rfl
    | some z => cases z <;> rfl
  | _ => rfl
theorem mb_le (l : (lkF m a r H s).lew m') : m.le (mb m' m) := by
  obtain ⟨e1, e2, e3, e4, e5, e6, e7, e8⟩ := lkF_eq m a r H s
  refine ⟨fun a o h => l.P a o (by rw [e1]; exact h), rfl, ?_, ?_, fun k hk => ?_, fun k hk => ?_, fun k j hk hj => ?_, rfl, by show m'.Z = m.Z; rw [l.Z, lkF_Z]⟩
  · show m'.al = m.al
    rw [l.al, e3]
  · have := l.n; rw [e4] at this; exact this
  · show m'.io k = m.io k
    rw [l.io k (by rw [e4]; exact hk), e5]
  · have := l.nc k (by rw [e4]; exact hk); rw [e7] at this; exact this
  · show m'.ic k j = m.ic k j
    rw [l.ic k j (by rw [e4]; exact hk) (by rw [e7]; exact hj), e8]
theorem lkF_L (p : RepR K m σ H (.ref a) r) (l : (lkF m a r H s).lew m') : ∀ b o, m.L b = some o → m'.L b = some o := by
  intro b o e
  refine l.L b o ?_
  cases r with
  | tmp c =>
    obtain ⟨a', ea, h1, h2, h3, u, hu, rc⟩ := p
    cases ea
    show (if b = a then H a else m.L b) = some o
    by_cases hab : b = a
    · rw [hab, h3] at e; cases e
    · rw [if_neg hab]; exact e
  | var i =>
    simp only [lkF]
    cases s.env[i]? with
    | none => exact e
    | some z => cases z <;> exact e
  | _ => exact e
theorem insLks (x : Rel K m σ H s) (l : Nat → Option Addr) (k : Nat) (I : Inst) (e : s.g[k]? = some I) (L : Hp) : InstOk K { m with lks := l, L := L } H k I :=
  InstOk.mono (m := m) (m' := { m with lks := l, L := L }) ⟨fun _ _ h => h, Nat.le_refl _, fun _ _ => rfl⟩ rfl rfl rfl (fun _ _ => rfl) (fun _ _ _ h => h) (fun _ _ _ _ => rfl) (x.ins k I e)
theorem Rel.lkF (x : Rel K m σ H s) (p : RepR K m σ H (.ref a) r) : Rel K (lkF m a r H s) σ H (lockV r s) := by
  cases r with
  | tmp c => exact x.lk (v := .ref a) p
  | var i =>
    have p' : σ[i]? = some (some (.ref a)) := p
    cases q : s.env[i]? with
    | none => simp only [VL.lkF, lockV, q]; exact x
    | some z =>
      cases z with
      | own c =>
        simp only [VL.lkF, lockV, q]
        obtain ⟨a', ha, hc⟩ := x.env i _ q
        rw [ha] at p'; cases p'
        refine ⟨x.pers, x.lock, x.oh, x.op, x.ol, x.lp, ?_, fun j z e => ?_, x.cells, x.cnt, fun k I e => insLks x _ k I e _, x.zz⟩
        · show (s.env.set i _).length = σ.length
          rw [List.length_set]; exact x.len
        · rcases setE_get e with ⟨rfl, rfl⟩ | ⟨hj, e⟩
          · exact ⟨a, ha, hc, by show (if j = j then some a else m.lks j) = some a; rw [if_pos rfl]⟩
          · have y := x.env j z e
            cases z with
            | lck c' =>
              obtain ⟨b, e1, e2, e3⟩ := y
              exact ⟨b, e1, e2, by show (if j = i then some a else m.lks j) = some b; rw [if_neg hj]; exact e3⟩
            | _ => exact y
      | no => simp only [VL.lkF, lockV, q]; exact x
      | val d => simp only [VL.lkF, lockV, q]; exact x
      | lck d => simp only [VL.lkF, lockV, q]; exact x
      | pc d => simp only [VL.lkF, lockV, q]; exact x
      | ic d j => simp only [VL.lkF, lockV, q]; exact x
  | val d => exact x
  | pc n => exact x
  | ic k j => exact x
theorem Rel.unlock {σ' : St} {H' : Hp} {s' : FS} (p : RepR K m σ H (.ref a) r) (l : (VL.lkF m a r H s).lew m') (x : Rel K m' σ' H' s') : Rel K (mb m' m) σ' H' (unlockV r s s') := by
  have insM : ∀ k I, s'.g[k]? = some I → InstOk K (mb m' m) H' k I := fun k I e => insLks x _ k I e _
  have lL := lkF_L p l
  have ol' : ∀ a w, (mb m' m).O a = some w → (mb m' m).L a = none := fun a w e => by
    show m.L a = none
    cases q : m.L a with
    | none => rfl
    | some o =>
      have := x.ol a w e
      rw [lL a o q] at this; cases this
  have base : ∀ (env' : List S), env'.length = σ'.length → (∀ i z, env'[i]? = some z → SlotOk K (mb m' m) σ' H' i z) → Rel K (mb m' m) σ' H' { s' with env := env' } := fun env' hl he =>
    ⟨x.pers, fun a o e => x.lock a o (lL a o e), x.oh, x.op, ol', fun a o e => x.lp a o (lL a o e), hl, he, x.cells, x.cnt, insM, x.zz⟩
  have same : m'.lks = m.lks → Rel K (mb m' m) σ' H' s' := fun e => base s'.env x.len fun i z q => by
    have y := x.env i z q
    cases z with
    | lck c => obtain ⟨b, e1, e2, e3⟩ := y; exact ⟨b, e1, e2, by show m.lks i = some b; rw [← e]; exact e3⟩
    | _ => exact y
  cases r with
  | tmp c => exact same l.lks
  | val d => exact same l.lks
  | pc n => exact same l.lks
  | ic k j => exact same l.lks
  | var i =>
    have hl := l.lks
    cases q : s.env[i]? with
    | none =>
      simp only [VL.lkF, q] at hl
      simp only [unlockV, q]
      exact same hl
    | some z =>
      cases z with
      | own c =>
        simp only [VL.lkF, q] at hl
        simp only [unlockV, q]
        have other : ∀ j z, j ≠ i → s'.env[j]? = some z → SlotOk K (mb m' m) σ' H' j z := fun j z hj e => by
          have y := x.env j z e
          cases z with
          | lck c => obtain ⟨b, e1, e2, e3⟩ := y; exact ⟨b, e1, e2, by show m.lks j = some b; rw [hl] at e3; exact (show (if j = i then some a else m.lks j) = some b from e3).symm.trans (if_neg hj) |>.symm⟩
          | _ => exact y
        have keep : ∀ z2, s'.env[i]? = some z2 → SlotOk K (mb m' m) σ' H' i z2 → Rel K (mb m' m) σ' H' s' := fun z2 q2 hz => base s'.env x.len fun j z e => by
          by_cases hj : j = i
          · subst hj; rw [q2] at e; cases e; exact hz
          · exact other j z hj e
        cases q2 : s'.env[i]? with
        | none =>
          refine base s'.env x.len fun j z e => ?_
          by_cases hj : j = i
          · subst hj; rw [q2] at e; cases e
          · exact other j z hj e
        | some z2 =>
          cases z2 with
          | lck c2 =>
            refine base (s'.env.set i (.own c2)) (by rw [List.length_set]; exact x.len) fun j z e => ?_
            rcases setE_get (s := s') e with ⟨rfl, rfl⟩ | ⟨hj, e⟩
            · obtain ⟨b, e1, e2, _⟩ := x.env j _ q2
              exact ⟨b, e1, e2⟩
            · exact other j z hj e
          | no => exact keep _ q2 (x.env i _ q2)
          | val d => exact keep _ q2 (x.env i _ q2)
          | own c2 => exact keep _ q2 (x.env i _ q2)
          | pc n => exact keep _ q2 (x.env i _ q2)
          | ic k j' => exact keep _ q2 (x.env i _ q2)
      | no => simp only [VL.lkF, q] at hl; simp only [unlockV, q]; exact same hl
      | val d => simp only [VL.lkF, q] at hl; simp only [unlockV, q]; exact same hl
      | lck c => simp only [VL.lkF, q] at hl; simp only [unlockV, q]; exact same hl
      | pc n => simp only [VL.lkF, q] at hl; simp only [unlockV, q]; exact same hl
      | ic k j => simp only [VL.lkF, q] at hl; simp only [unlockV, q]; exact same hl
theorem RepR.mbk {v' : V} {r' : R} {σ' : St} {H' : Hp} (hL : ∀ b o, m.L b = some o → m'.L b = some o) (p : RepR K m' σ' H' v' r') : RepR K (mb m' m) σ' H' v' r' := by
  cases r' with
  | tmp c =>
    obtain ⟨b, e, h1, h2, h3, u, hu, rc⟩ := p
    refine ⟨b, e, h1, h2, ?_, u, hu, RepC.mono (m := m') (m' := mb m' m) ⟨fun _ _ h => h, Nat.le_refl _, fun _ _ => rfl⟩ rc⟩
    show m.L b = none
    cases q : m.L b with
    | none => rfl
    | some o => rw [hL b o q] at h3; cases h3
  | _ => exact p
/-- the walked list as it stands at a turn -/
theorem keepL_ok {xs : List D} {σ' : St} {H' : Hp} {s' : FS} (x : Rel K m σ H s) (p : RepR K m σ H (.ref a) r) (e : seqL s r = some xs) (l : (VL.lkF m a r H s).lew m') (x' : Rel K m' σ' H' s') (k : keepL r xs s') : ∃ vs, H' a = some (.lst vs) ∧ RDs K m' vs xs := by
  have ll0 : m.le (mb m' m) := mb_le l
  have kn : m.kn m' := ⟨ll0.P, ll0.n, ll0.io⟩
  cases r with
  | tmp c =>
    obtain ⟨a', vs, e1, e2, e3⟩ := seqL_ok x p e
    cases e1
    refine ⟨vs, x'.lock a _ (l.L _ _ ?_), RepDs.mono kn.P kn.n kn.io e3⟩
    show (if a = a then H a else m.L a) = some (.lst vs)
    rw [if_pos rfl]; exact e2
  | val d =>
    cases d with
    | lst ys =>
      have e' : some ys = some xs := e
      cases e'
      cases p with
      | lst ha r => exact ⟨_, x'.pers _ _ (kn.P _ _ ha), RepDs.mono kn.P kn.n kn.io r⟩
    | ins k2 =>
      have k' : seqL s' (.val (.ins k2)) = some xs := k
      obtain ⟨b, vs, e1, e2, e3⟩ := seqL_ok (v := .ref a) (r := .val (.ins k2)) x' (RepD.mono kn.P kn.n kn.io p) k'
      cases e1
      exact ⟨vs, e2, e3⟩
    | _ => cases e
  | var i =>
    have k' : s'.env[i]? = some (.lck (.lst xs)) := k
    obtain ⟨b, e1, ⟨o1, o, ho, rc⟩, e3⟩ := x'.env i _ k'
    obtain ⟨vs, rfl, rv⟩ := rc
    have hl := l.lks
    have hb : b = a := by
      have p' : σ[i]? = some (some (.ref a)) := p
      unfold seqL cont at e
      cases q : s.env[i]? with
      | none => simp only [q] at e; cases e
      | some z =>
        cases z with
        | own c =>
          simp only [VL.lkF, q] at hl
          rw [hl] at e3
          have e3' : (if i = i then some a else m.lks i) = some b := e3
          rw [if_pos rfl] at e3'
          exact (Option.some.inj e3').symm
        | lck c =>
          simp only [VL.lkF, q] at hl
          obtain ⟨a', f1, f2, f3⟩ := x.env i _ q
          rw [f1] at p'; cases p'
          rw [hl, f3] at e3
          exact (Option.some.inj e3).symm
        | _ => simp only [q] at e; cases e
    subst hb
    exact ⟨vs, ho, rv⟩
  | pc n =>
    have k' : seqL s' (.pc n) = some xs := k
    have p' : V.ref a = .ref (m.al n) := p
    have hal : m'.al = m.al := (show m.le (mb m' m) from mb_le l).al
    obtain ⟨b, vs, e1, e2, e3⟩ := seqL_ok (v := .ref a) (r := .pc n) x' (show RepR K m' σ' H' (.ref a) (.pc n) from (by show V.ref a = .ref (m'.al n); rw [hal]; exact p')) k'
    cases e1
    exact ⟨vs, e2, e3⟩
  | ic k2 j =>
    have k' : seqL s' (.ic k2 j) = some xs := k
    obtain ⟨p1, p2, p3⟩ := p
    have ll : m.le (mb m' m) := mb_le l
    have hic : m'.ic k2 j = m.ic k2 j := ll.ic k2 j p2 p3
    obtain ⟨b, vs, e1, e2, e3⟩ := seqL_ok (v := .ref a) (r := .ic k2 j) x' (show RepR K m' σ' H' (.ref a) (.ic k2 j) from ⟨by rw [hic]; exact p1, Nat.lt_of_lt_of_le p2 ll.n, Nat.lt_of_lt_of_le p3 (ll.nc k2 p2)⟩) k'
    cases e1
    exact ⟨vs, e2, e3⟩
end
/-- a target of an assignment takes data -/
def TgOk (K : PySem.W.Frag) (gT : TG) (g : D → FS → Option FS) : Prop := ∀ (m : Mp) (σ : St) (H : Hp) (s s1 : FS) (v : V) (d : D) (Q : St → Hp → Prop), Rel K m σ H s → RD K m v d → g d s = some s1 →
  (∀ σ' m', m.le m' → Rel K m' σ' H s1 → Q σ' H) → gT v σ H Q
def gSet (i : Nat) (d : D) (s : FS) : Option FS := some (s.setE i (.val d))
theorem tg_name {K : PySem.W.Frag} {i : Nat} : TgOk K (gName i) (gSet i) := by
  intro m σ H s s1 v d Q x r e h
  cases e
  refine h _ m (Mp.le.refl m) ?_
  by_cases hi : i < σ.length
  · exact x.fill ⟨v, set_self hi, r⟩
  · have e1 : s.env.set i (.val d) = s.env := List.set_eq_of_length_le (by rw [x.len]; omega)
    have e2 : σ.set i (some v) = σ := List.set_eq_of_length_le (by omega)
    have e3 : s.setE i (.val d) = s := by unfold FS.setE; rw [e1]
    rw [e2, e3]; exact x
/-- where nothing was frozen as the def began -/
def NFz (X : Cx) (d : Addr) : Prop := ∀ o u, X.H_0 d ≠ some (.frz o u)
/-- H2 is H, or H with one thing unlocked -/
def Un (NF : Addr → Prop) (H H2 : Hp) : Prop := H2 = H ∨ ∃ d od u, NF d ∧ H d = some (.frz od u) ∧ H2 = upd H d u
def unQ (NF : Addr → Prop) (Q : Hp → Prop) : Hp → Prop := fun H => ∃ H2, Un NF H H2 ∧ Q H2
def unD (NF : Addr → Prop) (D : Ends) : Ends := ⟨fun σ => unQ NF (D.nx σ), fun v => unQ NF (D.rt v), fun σ => unQ NF (D.bk σ), fun σ => unQ NF (D.ct σ)⟩
def tUn (NF : Addr → Prop) (t : TS) : TS := fun D σ H => t (unD NF D) σ H
def tUnE (NF : Addr → Prop) (t : TE) : TE := fun σ H Q => t σ H fun v => unQ NF (Q v)
theorem Inv.un {X : Cx} {pins : List (Addr × Obj)} {σ : St} {H H2 : Hp} {s : Shared} (I : Inv X pins σ H s) (h : Un (NFz X) H H2) : Inv X pins σ H2 s := by
  rcases h with rfl | ⟨d, od, u, n, e, rfl⟩
  · exact I
  · exact I.unlock e n
theorem ps_un {X : Cx} {st : Stmt} {t : TS} (h : PS X st t) : PS X st (tUn (NFz X) t) := by
  refine ⟨fun pins s σ H D I hw => ?_⟩
  refine thn (h.run pins s σ H _ I hw) fun f s1 q => ?_
  cases f with
  | next => obtain ⟨σ', H', I2, H2, e, q⟩ := q; exact ⟨σ', H2, Inv.un I2 e, q⟩
  | brk => obtain ⟨σ', H', I2, H2, e, q⟩ := q; exact ⟨σ', H2, Inv.un I2 e, q⟩
  | cont => obtain ⟨σ', H', I2, H2, e, q⟩ := q; exact ⟨σ', H2, Inv.un I2 e, q⟩
  | ret v => obtain ⟨x, σ', H', I2, r, H2, e, q⟩ := q; exact ⟨x, σ', H2, Inv.un I2 e, r, q⟩
theorem pe_un {X : Cx} {e : Expr} {t : TE} (h : PE X e t) : PE X e (tUnE (NFz X) t) := by
  refine ⟨fun pins s σ H Q I hw => ?_⟩
  refine thn (h.run pins s σ H _ I hw) fun v s1 ⟨x, H1, I2, r, H2, e2, q⟩ => ?_
  exact ⟨x, H2, Inv.un I2 e2, r, q⟩
structure Back (K : PySem.W.Frag) (NF : Addr → Prop) (m0 m1 : Mp) (ex exx : FS → FS) (bk : Mp → Mp) : Prop where
  le : ∀ m', m1.le m' → m0.le (bk m')
  rel : ∀ m', m1.le m' → ∀ σ H s, Rel K m' σ H s → ∃ H2, Un NF H H2 ∧ Rel K (bk m') σ H2 (ex s) ∧ ∀ v r, RepR K m' σ H v r → RepR K (bk m') σ H2 v r
  relx : ∀ m', m1.le m' → ∀ σ H s, Rel K m' σ H s → Rel K (bk m') σ H (exx s)
  kn : ∀ m', m1.le m' → m'.kn (bk m')
theorem Back.same {K : PySem.W.Frag} {NF : Addr → Prop} {m0 m1 : Mp} {ex : FS → FS} {bk : Mp → Mp} (le : ∀ m', m1.le m' → m0.le (bk m')) (rel : ∀ m', m1.le m' → ∀ σ H s, Rel K m' σ H s → Rel K (bk m') σ H (ex s))
    (rep : ∀ m', m1.le m' → ∀ σ H v r, RepR K m' σ H v r → RepR K (bk m') σ H v r) (kn : ∀ m', m1.le m' → m'.kn (bk m')) : Back K NF m0 m1 ex ex bk :=
  ⟨le, fun m' l σ H s x => ⟨H, .inl rfl, rel m' l σ H s x, fun v r q => rep m' l σ H v r q⟩, rel, kn⟩
theorem Back.id {K : PySem.W.Frag} {NF : Addr → Prop} (m : Mp) : Back K NF m m (fun s => s) (fun s => s) (fun m => m) := Back.same (fun _ l => l) (fun _ _ _ _ _ x => x) (fun _ _ _ _ _ _ p => p) fun _ _ => ⟨fun _ _ h => h, Nat.le_refl _, fun _ _ => rfl⟩
theorem PostS_back {K : PySem.W.Frag} {W : WX} {NF : Addr → Prop} {m0 m1 : Mp} {ex exx : FS → FS} {bk : Mp → Mp} (b : Back K NF m0 m1 ex exx bk) {D : Ends} {y : SRes} (h : PostS K W m0 (y.map ex exx) D) : PostS K W m1 y (unD NF D) := by
  cases y with
  | stuck => exact h
  | next s1 => exact fun σ' H' m' l x => let ⟨H2, u, x2, _⟩ := b.rel _ l _ _ _ x; ⟨H2, u, h σ' H2 _ (b.le _ l) x2⟩
  | brk s1 => exact fun σ' H' m' l x => let ⟨H2, u, x2, _⟩ := b.rel _ l _ _ _ x; ⟨H2, u, h σ' H2 _ (b.le _ l) x2⟩
  | cont s1 => exact fun σ' H' m' l x => let ⟨H2, u, x2, _⟩ := b.rel _ l _ _ _ x; ⟨H2, u, h σ' H2 _ (b.le _ l) x2⟩
  | ret r1 s1 => exact fun v σ' H' m' l x q => let ⟨H2, u, x2, r2⟩ := b.rel _ l _ _ _ x; ⟨H2, u, h v σ' H2 _ (b.le _ l) x2 (r2 _ _ q)⟩
  | exc e s1 => exact fun c d σ' H' m' l x q => h c d σ' H' _ (b.le _ l) (b.relx _ l _ _ _ x) (q.mono (b.kn _ l))
/-- the iterator J yields xs -/
def Walks (K : PySem.W.Frag) (J : It) (m1 : Mp) (lp : Lp) : Prop := ∀ m' σ' H' s', m1.lew m' → Rel K m' σ' H' s' → lp.chk s' →
  (∀ i d, lp.xs[i]? = some d → J.go i H' ∧ ∀ y H2, J.yld i H' y H2 → ∃ m2, m'.le m2 ∧ Rel K m2 σ' H2 s' ∧ RD K m2 y d) ∧ ∀ i, lp.xs.length ≤ i → J.stop i H'
def PostI {α : Type} (K : PySem.W.Frag) (W : WX) (m : Mp) (σ : St) (x : Res α) (k : α → FS → Mp → Hp → Prop) : Prop := match x with
  | .stuck => False
  | .ok lp s1 => ∀ H1 m0, m.le m0 → Rel K m0 σ H1 s1 → k lp s1 m0 H1
  | .exc e s => ∀ c d H' m', m.le m' → Rel K m' σ H' s → RepX K m' H' c d e → W c d σ H'
/-- f says what the source wi walks -/
def SrcOk (K : PySem.W.Frag) (NF : Addr → Prop) (W : WX) (wi : TI) (f : M Lp) : Prop := ∀ (σ : St) (H : Hp) (RJ : It → Hp → Prop),
  (∃ m s, Rel K m σ H s ∧ PostI K W m σ (f s) fun lp s1 m0 H1 => ∀ J m1 bk H2, Back K NF m0 m1 lp.ex lp.exx bk → Rel K m1 σ H2 (lp.en s1) → Walks K J m1 lp → RJ J H2) → wi σ H RJ
/-- the turns of a loop -/
theorem forL_ok {K : PySem.W.Frag} {W : WX} {D0 : Ends} {J : It} {lp : Lp} {gT : TG} {g : D → FS → Option FS} {body : SM} {m1 : Mp} (hg : TgOk K gT g) (hk : Walks K J m1 lp)
    {σ : St} {H : Hp} {s : FS} (x : Rel K m1 σ H s) (q : PostS K W m1 (forL lp.chk g body lp.xs s) D0) :
    ∃ Wv : Nat → Nat → St → Hp → Prop, (∃ m, Wv 0 m σ H) ∧ ∀ i m σ H, Wv i m σ H →
      (J.stop i H ∧ D0.nx σ H) ∨ (J.go i H ∧ ∃ N : St → Hp → Prop, (∀ σ' H', N σ' H' → ∃ m', m' < m ∧ Wv (i + 1) m' σ' H') ∧ ∀ y H', J.yld i H y H' → gT y σ H' fun σ2 H2 => toS K W body { D0 with nx := N, ct := N, bk := D0.nx } σ2 H2) := by
  refine ⟨fun i n σ H => n = lp.xs.length - i ∧ i ≤ lp.xs.length ∧ ∃ m' s', m1.le m' ∧ Rel K m' σ H s' ∧ PostS K W m' (forL lp.chk g body (lp.xs.drop i) s') D0, ⟨_, rfl, Nat.zero_le _, m1, s, Mp.le.refl _, x, q⟩, ?_⟩
  rintro i n σ H ⟨rfl, hi, m', s', l, x, q⟩
  cases hd : lp.xs.drop i with
  | nil =>
    rw [hd] at q
    unfold forL at q
    split at q
    · rename_i hc
      have hlen : lp.xs.length ≤ i := by
        have := congrArg List.length hd
        rw [List.length_drop, List.length_nil] at this
        omega
      exact .inl ⟨(hk m' σ H s' l.lew x hc).2 i hlen, q σ H m' (Mp.le.refl _) x⟩
    · exact q.elim
  | cons d ds =>
    rw [hd] at q
    unfold forL at q
    split at q
    · rename_i hc
      have hlt : i < lp.xs.length := by
        have := congrArg List.length hd
        rw [List.length_drop, List.length_cons] at this
        omega
      have hdi : lp.xs[i]? = some d := by
        have : (lp.xs.drop i)[0]? = some d := by rw [hd]; rfl
        rw [List.getElem?_drop] at this
        simpa using this
      have hds : lp.xs.drop (i + 1) = ds := by
        rw [← List.drop_drop, hd]; rfl
      obtain ⟨hgo, hyl⟩ := (hk m' σ H s' l.lew x hc).1 i d hdi
      refine .inr ⟨hgo, fun σ' H' => ∃ m'' s'', m1.le m'' ∧ Rel K m'' σ' H' s'' ∧ PostS K W m'' (forL lp.chk g body ds s'') D0, fun σ' H' ⟨m'', s'', l2, x2, q2⟩ => ⟨lp.xs.length - (i + 1), by omega, rfl, hlt, m'', s'', l2, x2, by rw [hds]; exact q2⟩, fun y H' hy => ?_⟩
      obtain ⟨m3, l3, x3, rv⟩ := hyl y H' hy
      have q := PostS_mono l3 q
      cases e3 : g d s' with
      | none => rw [e3] at q; exact q.elim
      | some s1 =>
        rw [e3] at q
        simp only [] at q
        refine hg m3 σ _ s' s1 y d _ x3 rv e3 fun σ2 m2 l2 x2 => ⟨m2, s1, x2, ?_⟩
        have q := PostS_mono l2 q
        have ll := (l.trans l3).trans l2
        cases e4 : body s1 with
        | stuck => rw [e4] at q; exact q
        | next s2 => rw [e4] at q; exact fun σ3 H3 m3 l3 x3 => ⟨m3, s2, ll.trans l3, x3, PostS_mono l3 q⟩
        | cont s2 => rw [e4] at q; exact fun σ3 H3 m3 l3 x3 => ⟨m3, s2, ll.trans l3, x3, PostS_mono l3 q⟩
        | brk s2 => rw [e4] at q; exact q
        | ret r s2 => rw [e4] at q; exact q
        | exc ex s2 => rw [e4] at q; exact q
    · exact q.elim
section
variable {X : Cx} {W : WX} {pos : Pos}
theorem ss_for {tg iter : Expr} {body : List Stmt} {wi : TI} {f : M Lp} {gT : TG} {g : D → FS → Option FS} {b : SM} (hp : PassesOwn (model X.prog X.w) X.A X.env X.xe) (hc : X.calm = true) (hi : PI X tg iter wi) (hf : SrcOk X.K (NFz X) W wi f) (hg : PG X tg gT) (hgk : TgOk X.K gT g) (hb : PSs X body (toS X.K W b))
    (hs : ∀ x, foldedSetIterable iter X.env x = pure x := by intro _; rfl) : PS X (.For tg iter body [] pos) (toS X.K W (sFor f g b)) :=
  PS_imp (ps_un (ps_for hp hc hi hg hb hs)) fun D σ H h => by
    obtain ⟨m, s, x, q⟩ := h
    refine hf σ H _ ⟨m, s, x, ?_⟩
    unfold sFor at q
    cases e : f s with
    | stuck => rw [e] at q; exact q.elim
    | exc ex s1 => rw [e] at q; exact fun c d H' m' l x => q c d σ H' m' l x
    | ok lp s1 =>
      rw [e] at q
      exact fun H1 m0 l0 x0 J m1 bk H2 b x1 hk => forL_ok hgk hk x1 (PostS_back b (PostS_mono l0 q))
end
/-- a list -/
def iL (f : M R) : M Lp := fun s => (f s).bind fun r s1 => match seqL s1 r with
  | some xs => .ok { xs := xs, chk := keepL r xs, en := lockV r, ex := unlockV r s1 } s1
  | none => .stuck
theorem Itl_walks {K : PySem.W.Frag} {a : Addr} {vs : List V} {xs : List D} {m' : Mp} {σ' : St} {H' : Hp} {s' : FS} (x' : Rel K m' σ' H' s') (e1 : H' a = some (.lst vs)) (e2 : RDs K m' vs xs) :
    (∀ i d, xs[i]? = some d → (Itl K a).go i H' ∧ ∀ y H2, (Itl K a).yld i H' y H2 → ∃ m2, m'.le m2 ∧ Rel K m2 σ' H2 s' ∧ RD K m2 y d) ∧ ∀ i, xs.length ≤ i → (Itl K a).stop i H' := by
  refine ⟨fun i d hd => ?_, fun i hi => ⟨vs, SqL.of e1, by rw [e2.length]; exact hi⟩⟩
  obtain ⟨v, hv, rv⟩ := e2.get hd
  refine ⟨⟨vs, v, SqL.of e1, hv⟩, fun y H2 hy => ?_⟩
  obtain ⟨rfl, hy⟩ := hy
  have ey : y = v := Option.some.inj ((hy vs (SqL.of e1)).symm.trans hv)
  subst ey
  exact ⟨m', Mp.le.refl _, x', rv⟩
theorem one_src {K : PySem.W.Frag} {W : WX} {σ : St} {H : Hp} {f : M R} {k : R → M Lp} {kk : Lp → FS → Mp → Hp → Prop} {R' : V → Hp → Prop} (h : ∃ m s, Rel K m σ H s ∧ PostI K W m σ ((f s).bind k) kk)
    (hk : ∀ m s H v r, Rel K m σ H s → RepR K m σ H v r → PostI K W m σ (k r s) kk → R' v H) : toE K W f σ H R' := by
  obtain ⟨m, s, x, p⟩ := h
  refine ⟨m, s, x, ?_⟩
  cases e : f s with
  | stuck => rw [e] at p; exact p.elim
  | ok r s1 =>
    rw [e] at p
    intro v H1 m1 l1 x1 r1
    refine hk m1 s1 H1 v r x1 r1 ?_
    have p' : PostI K W m σ (k r s1) kk := p
    cases e2 : k r s1 with
    | stuck => rw [e2] at p'; exact p'
    | ok lp s2 => rw [e2] at p'; exact fun H1 m0 l0 => p' H1 m0 (l1.trans l0)
    | exc ex s2 => rw [e2] at p'; exact fun c d H' m' l => p' c d H' m' (l1.trans l)
  | exc ex s1 => rw [e] at p; exact p
theorem src_list {K : PySem.W.Frag} {NF : Addr → Prop} {W : WX} {f : M R} : SrcOk K NF W (iList K (toE K W f)) (iL f) := by
  intro σ H RJ h
  refine one_src h fun m s H v r x p q => ?_
  cases e : seqL s r with
  | none => rw [e] at q; exact q.elim
  | some xs =>
    rw [e] at q
    obtain ⟨a, vs, rfl, ha, ra⟩ := seqL_ok x p e
    refine ⟨a, rfl, ⟨vs, SqL.of ha⟩, q H m (Mp.le.refl m) x (Itl K a) (lkF m a r H s) (fun m' => mb m' m) H (Back.same (fun m' l => mb_le l.lew) (fun m' l σ H s x => x.unlock p l.lew) (fun m' l σ H v r q => q.mbk (lkF_L p l.lew)) fun m' l => ⟨fun _ _ h => h, Nat.le_refl _, fun _ _ => rfl⟩) (x.lkF p) fun m' σ' H' s' l x' k => ?_⟩
    obtain ⟨ws, e1, e2⟩ := keepL_ok x p e l x' k
    exact Itl_walks x' e1 e2
/-- a tuple -/
def iT (f : M R) : M Lp := fun s => (f s).bind fun r s1 => match seqT r with
  | some xs => .ok { xs := xs } s1
  | none => .stuck
theorem src_tup {K : PySem.W.Frag} {NF : Addr → Prop} {W : WX} {f : M R} : SrcOk K NF W (iTup K (toE K W f)) (iT f) := by
  intro σ H RJ h
  refine one_src h fun m s H v r x p q => ?_
  cases e : seqT r with
  | none => rw [e] at q; exact q.elim
  | some xs =>
    rw [e] at q
    cases r with
    | val d =>
      cases d with
      | tup ys =>
        cases e
        cases p with
        | tup ha ra =>
          rename_i a vs
          refine ⟨a, rfl, ⟨vs, SqT.of (x.pers _ _ ha)⟩, q H m (Mp.le.refl m) x (Itt K a) m _ H (Back.id m) x fun m' σ' H' s' l x' _ => ?_⟩
          have e1 : H' a = some (.tup vs) := x'.pers _ _ (l.P _ _ ha)
          have e2 : RDs K m' vs xs := RepDs.mono l.P l.n l.io ra
          refine ⟨fun i d hd => ?_, fun i hi => ⟨vs, SqT.of e1, by rw [e2.length]; exact hi⟩⟩
          obtain ⟨v, hv, rv⟩ := e2.get hd
          refine ⟨⟨vs, v, SqT.of e1, hv⟩, fun y H2 hy => ?_⟩
          obtain ⟨rfl, hy⟩ := hy
          have ey : y = v := Option.some.inj ((hy vs (SqT.of e1)).symm.trans hv)
          subst ey
          exact ⟨m', Mp.le.refl _, x', rv⟩
      | _ => cases e
    | _ => cases e
/-- the script: a list that is locked for good -/
def iZ (f : M R) : M Lp := fun s => (f s).bind fun r s1 => match r with
  | .val (.frz xs) => .ok { xs := xs } s1
  | _ => .stuck
theorem src_frz {K : PySem.W.Frag} {NF : Addr → Prop} {W : WX} {f : M R} : SrcOk K NF W (iList K (toE K W f)) (iZ f) := by
  intro σ H RJ h
  refine one_src h fun m s H v r x p q => ?_
  cases r with
  | val d =>
    cases d with
    | frz ys =>
      cases p with
      | frz ha ra =>
        rename_i a vs
        refine ⟨a, rfl, ⟨vs, sqL_mono x.pers ha⟩, q H m (Mp.le.refl m) x (Itl K a) m _ H (Back.id m) x fun m' σ' H' s' l x' _ => ?_⟩
        have e1 : SqL K H' a vs := sqL_mono (fun b o h => x'.pers _ _ (l.P _ _ h)) ha
        have e2 : RDs K m' vs ys := RepDs.mono l.P l.n l.io ra
        refine ⟨fun i d hd => ?_, fun i hi => ⟨vs, e1, by rw [e2.length]; exact hi⟩⟩
        obtain ⟨v, hv, rv⟩ := e2.get hd
        refine ⟨⟨vs, v, e1, hv⟩, fun y H2 hy => ?_⟩
        obtain ⟨rfl, hy⟩ := hy
        have ey : y = v := Option.some.inj ((hy vs e1).symm.trans hv)
        subst ey
        exact ⟨m', Mp.le.refl _, x', rv⟩
    | _ => exact q.elim
  | _ => exact q.elim
/-- lo, lo + 1, .. -/
def rgD (lo : Int) (n : Nat) : List D := (List.range n).map fun i => D.int (lo + (i : Nat))
def iR1 (f : M (List R)) : M Lp := fun s => (f s).bind fun rs s1 => match rs with
  | [r] => match asI r with
    | some j => if -(2 ^ 62) ≤ j ∧ j < 2 ^ 62 then .ok { xs := rgD 0 j.toNat } s1 else .stuck
    | none => .stuck
  | _ => .stuck
theorem many_src {K : PySem.W.Frag} {W : WX} {σ : St} {H : Hp} {f : M (List R)} {k : List R → M Lp} {kk : Lp → FS → Mp → Hp → Prop} {R' : List V → Hp → Prop} (h : ∃ m s, Rel K m σ H s ∧ PostI K W m σ ((f s).bind k) kk)
    (hk : ∀ m s H v r, Rel K m σ H s → RepRs K σ H m v r → PostI K W m σ (k r s) kk → R' v H) : toA K W f σ H R' := by
  obtain ⟨m, s, x, p⟩ := h
  refine ⟨m, s, x, ?_⟩
  cases e : f s with
  | stuck => rw [e] at p; exact p.elim
  | ok r s1 =>
    rw [e] at p
    intro v H1 m1 l1 x1 r1
    refine hk m1 s1 H1 v r x1 r1 ?_
    have p' : PostI K W m σ (k r s1) kk := p
    cases e2 : k r s1 with
    | stuck => rw [e2] at p'; exact p'
    | ok lp s2 => rw [e2] at p'; exact fun H1 m0 l0 => p' H1 m0 (l1.trans l0)
    | exc ex s2 => rw [e2] at p'; exact fun c d H' m' l => p' c d H' m' (l1.trans l)
  | exc ex s1 => rw [e] at p; exact p
theorem Itr_walks {K : PySem.W.Frag} {lo : Int} {n : Nat} {m : Mp} : Walks K (Itr lo n) m { xs := rgD lo n } := by
  intro m' σ' H' s' l x' _
  have hl : (rgD lo n).length = n := by unfold rgD; rw [List.length_map, List.length_range]
  refine ⟨fun i d hd => ?_, fun i hi => by rw [hl] at hi; exact hi⟩
  have hi : i < n := by
    have := (List.getElem?_eq_some_iff.mp hd).1
    rw [hl] at this; exact this
  refine ⟨hi, fun y H2 hy => ?_⟩
  obtain ⟨rfl, rfl⟩ := hy
  have hd' : (rgD lo n)[i]? = some d := hd
  unfold rgD at hd'
  rw [List.getElem?_map, List.getElem?_range hi] at hd'
  cases hd'
  exact ⟨m', Mp.le.refl _, x', .int⟩
theorem src_r1 {K : PySem.W.Frag} {NF : Addr → Prop} {W : WX} {f : M (List R)} : SrcOk K NF W (iRng1 (toA K W f)) (iR1 f) := by
  intro σ H RJ h
  refine many_src h fun m s H vs rs x p q => ?_
  match rs, vs, p, q with
  | [r], [v], p, q =>
    simp only [] at q
    cases e : asI r with
    | none => rw [e] at q; exact q.elim
    | some j =>
      rw [e] at q
      simp only [] at q
      split at q
      · rename_i hb
        exact ⟨j, by rw [asI_ok p.1 e], hb.1, hb.2, q H m (Mp.le.refl m) x (Itr 0 j.toNat) m _ H (Back.id m) x Itr_walks⟩
      · exact q.elim
  | [], _, p, q => exact q.elim
  | _ :: _ :: _, _, p, q => exact q.elim
  | [_], [], p, q => exact p.elim
  | [_], _ :: _ :: _, p, q => exact p.2.elim
def whileN (t : M Bool) (b : SM) : Nat → SM
  | 0, _ => .stuck
  | n + 1, s => (t s).bindS fun k s1 => if k = true then (match b s1 with
    | .next s2 => whileN t b n s2
    | .cont s2 => whileN t b n s2
    | .brk s2 => .next s2
    | .ret r s2 => .ret r s2
    | .exc e s2 => .exc e s2
    | .stuck => .stuck) else .next s1
open Classical in
noncomputable def sWhile (t : M Bool) (b : SM) : SM := fun s => if h : ∃ n, whileN t b n s ≠ .stuck then whileN t b h.choose s else .stuck
theorem whileN_up {t : M Bool} {b : SM} : ∀ {n : Nat} {s : FS}, whileN t b n s ≠ .stuck → whileN t b (n + 1) s = whileN t b n s
  | 0, s, h => absurd rfl h
  | n + 1, s, h => by
    unfold whileN at h ⊢
    cases e : t s with
    | stuck => rfl
    | exc ex s1 => rfl
    | ok k s1 =>
      rw [e] at h
      simp only [Res.bindS] at h ⊢
      cases k with
      | false => rfl
      | true =>
        rw [if_pos rfl] at h ⊢
        rw [if_pos rfl]
        cases e2 : b s1 with
        | next s2 => simp only [e2] at h ⊢; exact whileN_up h
        | cont s2 => simp only [e2] at h ⊢; exact whileN_up h
        | _ => rfl
theorem whileN_add {t : M Bool} {b : SM} {n : Nat} {s : FS} (h : whileN t b n s ≠ .stuck) : ∀ k, whileN t b (n + k) s = whileN t b n s
  | 0 => rfl
  | k + 1 => by
    have ih := whileN_add h k
    rw [← Nat.add_assoc, whileN_up (by rw [ih]; exact h), ih]
theorem sWhile_eq {t : M Bool} {b : SM} {n : Nat} {s : FS} {r : SRes} (h : whileN t b n s = r) (hr : r ≠ .stuck) : sWhile t b s = r := by
  have hn : whileN t b n s ≠ .stuck := by rw [h]; exact hr
  have ex : ∃ n, whileN t b n s ≠ .stuck := ⟨n, hn⟩
  unfold sWhile
  rw [dif_pos ex]
  have h1 := whileN_add ex.choose_spec n
  have h2 := whileN_add hn ex.choose
  rw [Nat.add_comm] at h2
  rw [← h1, h2, h]
section
variable {X : Cx} {W : WX} {pos : Pos}
theorem ss_while {c : Expr} {body : List Stmt} {t : M Bool} {b : SM} (hp : PassesOwn (model X.prog X.w) X.A X.env X.xe) (hc : PT X c (toT X.K W t)) (hb : PSs X body (toS X.K W b)) : PS X (.While c body [] pos) (toS X.K W (sWhile t b)) :=
  PS_imp (ps_while hp hc hb) fun D σ H h => by
    obtain ⟨m, s, x, q⟩ := h
    unfold sWhile at q
    split at q
    · rename_i ex
      refine ⟨fun n σ' H' => ∃ m' s', Rel X.K m' σ' H' s' ∧ PostS X.K W m' (whileN t b n s') D, ⟨_, m, s, x, q⟩, ?_⟩
      rintro n σ' H' ⟨m', s', x, q⟩
      cases n with
      | zero => exact q.elim
      | succ n =>
        refine oneTS (k := fun k s1 => if k = true then (match b s1 with
          | .next s2 => whileN t b n s2
          | .cont s2 => whileN t b n s2
          | .brk s2 => .next s2
          | .ret r s2 => .ret r s2
          | .exc e s2 => .exc e s2
          | .stuck => .stuck) else .next s1) (D := D) ⟨m', s', x, q⟩ fun m2 s2 H2 k x2 q2 => ?_
        cases k with
        | false => exact q2 _ _ m2 (Mp.le.refl m2) x2
        | true =>
          rw [if_pos rfl] at q2 ⊢
          refine ⟨fun σ3 H3 => ∃ m' s', Rel X.K m' σ3 H3 s' ∧ PostS X.K W m' (whileN t b n s') D, fun σ3 H3 h3 => ⟨n, Nat.lt_succ_self n, h3⟩, m2, s2, x2, ?_⟩
          cases e4 : b s2 with
          | stuck => rw [e4] at q2; exact q2
          | next s3 => rw [e4] at q2; exact fun σ3 H3 m3 l3 x3 => ⟨m3, s3, x3, PostS_mono l3 q2⟩
          | cont s3 => rw [e4] at q2; exact fun σ3 H3 m3 l3 x3 => ⟨m3, s3, x3, PostS_mono l3 q2⟩
          | brk s3 => rw [e4] at q2; exact q2
          | ret r s3 => rw [e4] at q2; exact q2
          | exc ex s3 => rw [e4] at q2; exact q2
    · exact q.elim
end
end VL
set_option maxRecDepth 100000
set_option maxHeartbeats 4000000
namespace VL
open PySem PySem.Spec L2
open PyProof.Rows hiding St
def wipeE : List Nat → FS → FS
  | [], s => s
  | v :: vs, s => (wipeE vs s).setE v .no
/-- the slots of the block's own names as they were -/
def restE : List Nat → FS → FS → FS
  | [], _, s => s
  | v :: vs, s0, s => (restE vs s0 s).setE v (s0.env.getD v .no)
def plainS : S → Bool
  | .own _ => false
  | .lck _ => false
  | _ => true
def ownOk (own : List Nat) (s : FS) : Bool := own.all fun i => plainS (s.env.getD i .no)
open Classical in
noncomputable def compL (chk : FS → Prop) (own : List Nat) (g : D → FS → Option FS) (t : M Bool) (e : M R) : List D → List D → FS → Res (List D)
  | [], acc, s => if chk s then .ok acc s else .stuck
  | d :: ds, acc, s => if chk s ∧ ownOk own s = true then (match g d (wipeE own s) with
    | none => .stuck
    | some s1 => match t s1 with
      | .ok b s2 => if b = true then (match e s2 with
        | .ok r s3 => (match frzR r s3 with
          | some (dd, s4) => if acc.length < sizeLine then compL chk own g t e ds (acc ++ [dd]) (restE own s s4) else .stuck
          | none => .stuck)
        | _ => .stuck) else compL chk own g t e ds acc (restE own s s2)
      | _ => .stuck) else .stuck
noncomputable def eLc (f : M Lp) (own : List Nat) (g : D → FS → Option FS) (t : M Bool) (e : M R) : M R := fun s => (f s).bind fun lp s1 =>
  match compL lp.chk own g t e lp.xs [] (lp.en s1) with
  | .ok acc s2 => .ok (.tmp (.lst acc)) (lp.ex s2)
  | _ => .stuck
def mYes : M Bool := fun s => .ok true s
section
variable {K : PySem.W.Frag} {W : WX} {m m' : Mp} {σ σ2 : St} {H : Hp} {s s0 : FS}
theorem Rel.wipe (x : Rel K m σ H s) : ∀ own : List Nat, Rel K m (L2.wipe σ own) H (wipeE own s)
  | [] => x
  | v :: vs => (Rel.wipe x vs).fill (z := .no) trivial
theorem restE_get : ∀ {own : List Nat} {j : Nat} {z : S}, (restE own s0 s).env[j]? = some z → (j ∈ own ∧ z = s0.env.getD j .no) ∨ (j ∉ own ∧ s.env[j]? = some z)
  | [], j, z, e => .inr ⟨by simp, e⟩
  | v :: vs, j, z, e => by
    rcases setE_get (s := restE vs s0 s) e with ⟨rfl, rfl⟩ | ⟨hj, e⟩
    · exact .inl ⟨List.mem_cons_self, rfl⟩
    · rcases restE_get e with ⟨h1, h2⟩ | ⟨h1, h2⟩
      · exact .inl ⟨List.mem_cons_of_mem _ h1, h2⟩
      · exact .inr ⟨by simp only [List.mem_cons, not_or]; exact ⟨hj, h1⟩, h2⟩
theorem restE_len : ∀ own : List Nat, (restE own s0 s).env.length = s.env.length
  | [] => rfl
  | v :: vs => by
    show ((restE vs s0 s).env.set v _).length = _
    rw [List.length_set, restE_len vs]
theorem restE_g : ∀ own : List Nat, (restE own s0 s).g = s.g ∧ (restE own s0 s).pcs = s.pcs
  | [] => ⟨rfl, rfl⟩
  | v :: vs => restE_g vs
theorem SlotOk.plain {i : Nat} {z : S} {H' : Hp} (h : plainS z = true) (l : m.lew m') (x : SlotOk K m σ H i z) : SlotOk K m' σ H' i z := by
  cases z with
  | no => trivial
  | val d => obtain ⟨v, e, r⟩ := x; exact ⟨v, e, RepD.mono l.P l.n l.io r⟩
  | own c => cases h
  | lck c => cases h
  | pc n => show σ[i]? = some (some (V.ref (m'.al n))); rw [l.al]; exact x
  | ic k j =>
    obtain ⟨e, h1, h2⟩ := x
    exact ⟨by rw [l.ic k j h1 h2]; exact e, Nat.lt_of_lt_of_le h1 l.n, Nat.lt_of_lt_of_le h2 (l.nc k h1)⟩
theorem Rel.restore {own : List Nat} {m0 : Mp} {H0 : Hp} {s2 : FS} (x0 : Rel K m0 σ H0 s0) (ok : ownOk own s0 = true) (l : m0.lew m) (x : Rel K m σ2 H s2) (w : L2.wipe σ2 own = L2.wipe σ own) : Rel K m σ H (restE own s0 s2) := by
  have hl : σ2.length = σ.length := by rw [← wipe_length σ2 own, w, wipe_length]
  have hc : (restE own s0 s2).pcs = s2.pcs := (restE_g own).2
  have hgg : (restE own s0 s2).g = s2.g := (restE_g own).1
  refine ⟨x.pers, x.lock, x.oh, x.op, x.ol, x.lp, by rw [restE_len, x.len, hl], fun j z e => ?_, fun n c e => x.cells n c (by rw [← hc]; exact e), by rw [hgg]; exact x.cnt, fun k I e => x.ins k I (by rw [← hgg]; exact e), x.zz⟩
  rcases restE_get e with ⟨h1, rfl⟩ | ⟨h1, h2⟩
  · have hp : plainS (s0.env.getD j .no) = true := List.all_eq_true.mp ok j h1
    refine SlotOk.plain hp l (H := H0) ?_
    rw [List.getD_eq_getElem?_getD]
    cases q : s0.env[j]? with
    | none => trivial
    | some z => exact x0.env j z q
  · have y := x.env j z h2
    have es : σ2[j]? = σ[j]? := by rw [← wipe_out h1, w, wipe_out h1]
    cases z with
    | no => trivial
    | val d => obtain ⟨v, e, r⟩ := y; exact ⟨v, es.symm.trans e, r⟩
    | own c => obtain ⟨a, e, r⟩ := y; exact ⟨a, es.symm.trans e, r⟩
    | lck c => obtain ⟨a, e, r⟩ := y; exact ⟨a, es.symm.trans e, r⟩
    | pc n => exact es.symm.trans y
    | ic k j' => exact ⟨es.symm.trans y.1, y.2⟩
theorem wipe_set {i : Nat} {w : Option V} : ∀ {vs : List Nat} {σ : St}, i ∈ vs → L2.wipe (σ.set i w) vs = L2.wipe σ vs
  | [], σ, h => by cases h
  | v :: vs, σ, h => by
    unfold L2.wipe
    by_cases hv : i ∈ vs
    · rw [wipe_set hv]
    · have e : i = v := by
        rcases List.mem_cons.mp h with e | e
        · exact e
        · exact absurd e hv
      subst e
      have : ∀ (us : List Nat), i ∉ us → L2.wipe (σ.set i w) us = (L2.wipe σ us).set i w := by
        intro us
        induction us with
        | nil => intro _; rfl
        | cons u us ih =>
          intro hu
          unfold L2.wipe
          rw [ih (fun z => hu (List.mem_cons_of_mem _ z)), List.set_comm]
          exact fun z => hu (by rw [z]; exact List.mem_cons_self)
      rw [this vs hv, List.set_set]
theorem wipe_idem : ∀ (vs : List Nat) (σ : St), L2.wipe (L2.wipe σ vs) vs = L2.wipe σ vs
  | [], σ => rfl
  | v :: vs, σ => by
    have h1 : L2.wipe (L2.wipe σ (v :: vs)) (v :: vs) = (L2.wipe ((L2.wipe σ vs).set v none) vs).set v none := rfl
    rw [h1]
    by_cases hv : v ∈ vs
    · rw [wipe_set hv, wipe_idem vs]; rfl
    · have : ∀ (us : List Nat) (τ : St), v ∉ us → L2.wipe (τ.set v none) us = (L2.wipe τ us).set v none := by
        intro us τ
        induction us with
        | nil => intro _; rfl
        | cons u us ih =>
          intro hu
          unfold L2.wipe
          rw [ih (fun z => hu (List.mem_cons_of_mem _ z)), List.set_comm]
          exact fun z => hu (by rw [z]; exact List.mem_cons_self)
      rw [this vs _ hv, wipe_idem vs, List.set_set]; rfl
end
/-- a comprehension's target -/
def TgOkC (K : PySem.W.Frag) (gT : TG) (g : D → FS → Option FS) (own : List Nat) : Prop := ∀ (m : Mp) (σ : St) (H : Hp) (s s1 : FS) (v : V) (d : D) (Q : St → Hp → Prop), Rel K m σ H s → RD K m v d → g d s = some s1 →
  (∀ σ' m', m.le m' → L2.wipe σ' own = L2.wipe σ own → Rel K m' σ' H s1 → Q σ' H) → gT v σ H Q
theorem tgc_name {K : PySem.W.Frag} {i : Nat} {own : List Nat} (h : i ∈ own) : TgOkC K (gName i) (gSet i) own := by
  intro m σ H s s1 v d Q x r e k
  cases e
  refine k _ m (Mp.le.refl m) (wipe_set h) ?_
  by_cases hi : i < σ.length
  · exact x.fill ⟨v, set_self hi, r⟩
  · have e1 : s.env.set i (.val d) = s.env := List.set_eq_of_length_le (by rw [x.len]; omega)
    have e2 : σ.set i (some v) = σ := List.set_eq_of_length_le (by omega)
    have e3 : s.setE i (.val d) = s := by unfold FS.setE; rw [e1]
    rw [e2, e3]; exact x
abbrev W0 : WX := fun _ _ _ _ => False
section
variable {X : Cx} {W : WX} {pos : Pos}
theorem PTs_imp {ifs : List Expr} {t t' : TT} (h : PTs X ifs t) (i : ∀ σ H Q, t' σ H Q → t σ H Q) : PTs X ifs t' := ⟨fun pins s σ H Q I q => h.run pins s σ H Q I (i _ _ _ q)⟩
theorem sts_nil : PTs X [] (toT X.K W mYes) := PTs_imp pts_nil fun σ H Q ⟨m, s, x, p⟩ => p true H m (Mp.le.refl m) x rfl
theorem sts_one {c : Expr} {t : M Bool} (h : PT X c (toT X.K W t)) : PTs X [c] (toT X.K W t) := pts_one h
theorem lc_ok {K : PySem.W.Frag} {W : WX} {wi : TI} {f : M Lp} {gT : TG} {g : D → FS → Option FS} {t : M Bool} {e : M R} {ow : List Nat} {NF : Addr → Prop} (hf : SrcOk K NF W wi f) (hgk : TgOkC K gT g ow) {σ : St} {H : Hp} {Q : VK} (h : toE K W (eLc f ow g t e) σ H Q) :
    tLc wi gT (toT K W0 t) (toE K W0 e) ow σ H (fun v => unQ NF (Q v)) := by
    obtain ⟨m, s, x, q⟩ := h
    refine hf σ H _ ⟨m, s, x, ?_⟩
    unfold eLc at q
    cases e0 : f s with
    | stuck => rw [e0] at q; exact q.elim
    | exc ex s1 => rw [e0] at q; exact q
    | ok lp s1 =>
      rw [e0] at q
      intro H1 m0 l0 x0 J m1 bk HH b x1 hk Da nD
      -- what is wanted at the end
      have fin : ∀ acc s2, compL lp.chk ow g t e lp.xs [] (lp.en s1) = .ok acc s2 → ∀ H' m', m1.le m' → Rel K m' σ H' s2 → RepR K m' σ H' (.ref Da) (.tmp (.lst acc)) → unQ NF (Q (.ref Da)) H' := fun acc s2 ec H' m' l x' r' => by
        have q' : Post K W m σ (match compL lp.chk ow g t e lp.xs [] (lp.en s1) with
          | .ok acc s2 => .ok (.tmp (.lst acc)) (lp.ex s2)
          | _ => .stuck) (RpE K σ) Q := q
        rw [ec] at q'
        obtain ⟨H2, u, x2, r2⟩ := b.rel _ l _ _ _ x'
        exact ⟨H2, u, q' _ H2 _ (l0.trans (b.le _ l)) x2 (r2 _ _ r')⟩
      have nst : ∃ acc s2, compL lp.chk ow g t e lp.xs [] (lp.en s1) = .ok acc s2 := by
        have q' : Post K W m σ (match compL lp.chk ow g t e lp.xs [] (lp.en s1) with
          | .ok acc s2 => .ok (.tmp (.lst acc)) (lp.ex s2)
          | _ => .stuck) (RpE K σ) Q := q
        cases ec : compL lp.chk ow g t e lp.xs [] (lp.en s1) with
        | ok acc s2 => exact ⟨acc, s2, rfl⟩
        | stuck => rw [ec] at q'; exact q'.elim
        | exc ex s2 => rw [ec] at q'; exact q'.elim
      obtain ⟨accF, sF, eF⟩ := nst
      have fin := fin accF sF eF
      refine ⟨fun i n H => n = lp.xs.length - i ∧ i ≤ lp.xs.length ∧ ∃ m' s' acc, m1.le m' ∧ Rel K m' σ H s' ∧ RepR K m' σ H (.ref Da) (.tmp (.lst acc)) ∧ compL lp.chk ow g t e (lp.xs.drop i) acc s' = .ok accF sF, ⟨_, rfl, Nat.zero_le _, m1, lp.en s1, [], Mp.le.refl m1, x1.fresh nD, ?_, eF⟩, ?_⟩
      · obtain ⟨n1, n2, n3⟩ := x1.none3 nD
        exact ⟨Da, rfl, n1, n2, n3, _, upd_same, _, rfl, .nil⟩
      rintro i n H ⟨rfl, hi, m', s', acc, l, x', rD, q⟩
      cases hd : lp.xs.drop i with
      | nil =>
        rw [hd] at q
        unfold compL at q
        split at q
        · rename_i hc
          cases q
          have hlen : lp.xs.length ≤ i := by
            have := congrArg List.length hd
            rw [List.length_drop, List.length_nil] at this
            omega
          exact .inl ⟨(hk m' σ H _ l.lew x' hc).2 i hlen, fin H m' l x' rD⟩
        · cases q
      | cons d ds =>
        rw [hd] at q
        unfold compL at q
        split at q
        · rename_i hc
          obtain ⟨hchk, hown⟩ := hc
          have hlt : i < lp.xs.length := by
            have := congrArg List.length hd
            rw [List.length_drop, List.length_cons] at this
            omega
          have hdi : lp.xs[i]? = some d := by
            have : (lp.xs.drop i)[0]? = some d := by rw [hd]; rfl
            rw [List.getElem?_drop] at this
            simpa using this
          have hds : lp.xs.drop (i + 1) = ds := by
            rw [← List.drop_drop, hd]; rfl
          have xL := x'.lk rD
          have lL : m'.lew (lk m' (.ref Da) (.tmp (.lst acc)) H) := ⟨fun _ _ h => h, fun a o h => by
            show (if a = Da then H Da else m'.L a) = some o
            obtain ⟨a', e1, h1, h2, h3, _⟩ := rD
            cases e1
            by_cases ha : a = Da
            · rw [ha, h3] at h; cases h
            · rw [if_neg ha]; exact h, rfl, Nat.le_refl _, fun _ _ => rfl, fun _ _ => Nat.le_refl _, fun _ _ _ _ => rfl, rfl, rfl⟩
          have lew : m1.lew (lk m' (.ref Da) (.tmp (.lst acc)) H) := ⟨l.P, fun a o h => lL.L a o (by rw [l.L]; exact h), l.al, l.n, l.io, l.nc, l.ic, l.lks, l.Z⟩
          obtain ⟨hgo, hyl⟩ := (hk _ σ H s' lew xL hchk).1 i d hdi
          -- back from the lock, at the block's end
          have back : ∀ {m6 : Mp} {σ6 : St} {H6 : Hp} {s6 : FS}, (lk m' (.ref Da) (.tmp (.lst acc)) H).le m6 → Rel K m6 σ6 H6 s6 → L2.wipe σ6 ow = L2.wipe σ ow →
              Rel K (m6.setL m'.L) σ H6 (restE ow s' s6) ∧ RepR K (m6.setL m'.L) σ H6 (.ref Da) (.tmp (.lst acc)) ∧ m1.le (m6.setL m'.L) := fun {m6 σ6 H6 s6} l6 x6 w6 => by
            have l6w : m'.lew m6 := ⟨fun a o h => l6.P a o h, fun a o h => by rw [l6.L]; exact lL.L a o h, l6.al, l6.n, l6.io, l6.nc, l6.ic, l6.lks, l6.Z⟩
            have xr : Rel K m6 σ H6 (restE ow s' s6) := Rel.restore x' hown l6w x6 w6
            have hr := lk_rep (L := m'.L) rfl rD l6 xr
            refine ⟨xr.setL fun a o h => ?_, hr.1, ?_⟩
            · rw [l6.L]; exact lL.L a o h
            · have z := lk_le (Mp.le.refl m') l6
              exact l.trans z
          refine .inr ⟨hgo, fun H' => ∃ m'' s'' acc', m1.le m'' ∧ Rel K m'' σ H' s'' ∧ RepR K m'' σ H' (.ref Da) (.tmp (.lst acc')) ∧ compL lp.chk ow g t e ds acc' s'' = .ok accF sF, fun H' ⟨m'', s'', acc', l2, x2, r2, q2⟩ => ⟨lp.xs.length - (i + 1), by omega, rfl, hlt, m'', s'', acc', l2, x2, r2, by rw [hds]; exact q2⟩, fun y H2 hy => ?_⟩
          obtain ⟨m2, l2, x2, ry⟩ := hyl y H2 hy
          cases eg : g d (wipeE ow s') with
          | none => rw [eg] at q; cases q
          | some sg =>
            rw [eg] at q
            simp only [] at q
            refine hgk m2 (L2.wipe σ ow) H2 (wipeE ow s') sg y d _ (x2.wipe ow) ry eg fun σ3 m3 l3 w3 x3 => ⟨w3.trans (wipe_idem ow σ), m3, sg, x3, ?_⟩
            cases et : t sg with
            | stuck => rw [et] at q; cases q
            | exc ex st => rw [et] at q; cases q
            | ok bb st =>
              rw [et] at q
              simp only [] at q
              intro kk H3 m4 l4 x4 ek
              have ek' : kk = bb := ek
              subst ek'
              cases kk with
              | false =>
                rw [if_neg (by decide)] at q ⊢
                obtain ⟨b1, b2, b3⟩ := back ((l2.trans l3).trans l4) x4 (w3.trans (wipe_idem ow σ))
                exact ⟨_, _, acc, b3, b1, b2, q⟩
              | true =>
                rw [if_pos rfl] at q ⊢
                refine ⟨m4, st, x4, ?_⟩
                cases ee : e st with
                | stuck => rw [ee] at q; cases q
                | exc ex se => rw [ee] at q; cases q
                | ok r se =>
                  rw [ee] at q
                  simp only [] at q
                  intro z H4 m5 l5 x5 rz
                  cases ef : frzR r se with
                  | none => rw [ef] at q; cases q
                  | some pr =>
                    obtain ⟨dd, s4⟩ := pr
                    rw [ef] at q
                    simp only [] at q
                    split at q
                    · rename_i hlen
                      obtain ⟨m6, l6, x6, rdd, _⟩ := rz.frz x5 ef
                      obtain ⟨b1, b2, b3⟩ := back ((((l2.trans l3).trans l4).trans l5).trans l6) x6 (w3.trans (wipe_idem ow σ))
                      obtain ⟨a', e1, h1, h2, h3, o, ho, vs, rfl, rv⟩ := id b2
                      cases e1
                      refine ⟨vs, ho, by rw [rv.length]; exact hlen, _, _, acc ++ [dd], b3, b1.keep (fun a w hw => upd_ne fun z => ?_) (fun a u hu => ?_) (fun a u hu => ?_) (fun a u hu => ⟨by rw [upd_ne fun z => ?_]; exact (b1.zz a u hu).1; exact (by obtain ⟨q1, od, kvs, q2⟩ := b1.zz _ u hu; rw [z, ho, q2] at q1; cases q1), (b1.zz a u hu).2⟩), ⟨Da, rfl, h1, h2, h3, _, upd_same, _, rfl, rv.append (.cons rdd .nil)⟩, q⟩
                      · rw [z, h1] at hw; cases hw
                      · rw [upd_ne fun z => ?_]; exact b1.pers a u hu
                        rw [z, h2] at hu; cases hu
                      · rw [upd_ne fun z => ?_]; exact b1.lock a u hu
                        rw [z, h3] at hu; cases hu
                    · cases q
        · cases q
theorem se_lc {elt tg iter : Expr} {ifs : List Expr} {scope : Scope} {own : List (Str × Nat)} {wi : TI} {f : M Lp} {gT : TG} {g : D → FS → Option FS} {t : M Bool} {e : M R} (hc : X.calm = true) (hN : X.N.Nodup) (hi : PI X tg iter wi) (hf : SrcOk X.K (NFz X) W wi f)
    (ok : BlkOk X.N X.env.scope scope own)
    (hg : ∀ (s : Shared) (H : Hp) (C : Addr) (cl : List (Str × Addr)) (fp : List Addr), PG (X.blk s H scope (compEnvC scope cl C X.env) fp) tg gT) (hgk : TgOkC X.K gT g (own.map (·.2)))
    (ht : ∀ (s : Shared) (H : Hp) (C : Addr) (cl : List (Str × Addr)) (fp : List Addr), PTs (X.blk s H scope (compEnvC scope cl C X.env) fp) ifs (toT X.K W0 t))
    (he : ∀ (s : Shared) (H : Hp) (C : Addr) (cl : List (Str × Addr)) (fp : List Addr), PE (X.blk s H scope (compEnvC scope cl C X.env) fp) elt (toE X.K W0 e)) (hs : ∀ x, foldedSetIterable iter X.env x = pure x := by intro _; rfl) :
    PE X (.ListComp elt [⟨tg, iter, ifs, 0⟩] scope pos) (toE X.K W (eLc f (own.map (·.2)) g t e)) :=
  PE_imp (pe_un (pe_lc hc hN hi ok hg ht he hs)) fun σ H Q h => lc_ok hf hgk h
/-- name = [..], the name a local -/
theorem ss_setLc {i : Nat} {y : Str} {py spos : Pos} {elt tg iter : Expr} {ifs : List Expr} {scope : Scope} {own : List (Str × Nat)} {wi : TI} {f : M Lp} {gT : TG} {g : D → FS → Option FS} {t : M Bool} {e : M R} (hc : X.calm = true) (hN : X.N.Nodup) (hy : X.N[i]? = some y) (hyl : X.env.scope.names.lookup y = some .local)
    (hsw : swapsWith (.ListComp elt [⟨tg, iter, ifs, 0⟩] scope pos) (some (.Name y py)) spos.line X.env = pure true) (hi : PI X tg iter wi) (hf : SrcOk X.K (NFz X) W wi f)
    (ok : BlkOk X.N X.env.scope scope own)
    (hg : ∀ (s : Shared) (H : Hp) (C : Addr) (cl : List (Str × Addr)) (fp : List Addr), PG (X.blk s H scope (compEnvC scope cl C X.env) fp) tg gT) (hgk : TgOkC X.K gT g (own.map (·.2)))
    (ht : ∀ (s : Shared) (H : Hp) (C : Addr) (cl : List (Str × Addr)) (fp : List Addr), PTs (X.blk s H scope (compEnvC scope cl C X.env) fp) ifs (toT X.K W0 t))
    (he : ∀ (s : Shared) (H : Hp) (C : Addr) (cl : List (Str × Addr)) (fp : List Addr), PE (X.blk s H scope (compEnvC scope cl C X.env) fp) elt (toE X.K W0 e)) (hs : ∀ x, foldedSetIterable iter X.env x = pure x := by intro _; rfl) :
    PS X (.Assign [.Name y py] (.ListComp elt [⟨tg, iter, ifs, 0⟩] scope pos) spos) (toS X.K W (sSet i (eLc f (own.map (·.2)) g t e))) :=
  PS_imp (ps_un (ps_setLc hc hN hy hyl hsw hi ok hg ht he hs)) fun D σ H h => by
    show tLc wi gT (toT X.K W0 t) (toE X.K W0 e) (own.map (·.2)) σ H fun x => unQ (NFz X) (D.nx (σ.set i (some x)))
    exact lc_ok hf hgk (oneS h fun m s H v r x p q => setSlot_ok x p q)
end
end VL
set_option maxRecDepth 100000
set_option maxHeartbeats 4000000
namespace VL
open PySem PySem.Spec L2
open PyProof.Rows hiding St
def sameP : R → R → Bool
  | .var i, .var j => i == j
  | .pc i, .pc j => i == j
  | _, _ => false
def locP (r : R) : List R → Nat → Option Nat
  | [], _ => none
  | q :: og, t => if sameP r q = true then some t else locP r og (t + 1)
/-- the operands as the callee sees them: the objects that it may change are its cells 0, 1, .. -/
def canon (s : FS) : List R → List R → List C → Option (List R × List R × List C)
  | [], og, cs => some ([], og, cs)
  | .val d :: rs, og, cs => match canon s rs og cs with
    | some (as, z) => some (.val d :: as, z)
    | none => none
  | .ic k j :: rs, og, cs => match canon s rs og cs with
    | some (as, z) => some (.ic k j :: as, z)
    | none => none
  | r :: rs, og, cs => match locP r og 0 with
    | some t => match canon s rs og cs with
      | some (as, z) => some (.pc t :: as, z)
      | none => none
    | none => match cont s r with
      | some c => match canon s rs (og ++ [r]) (cs ++ [c]) with
        | some (as, z) => some (.pc og.length :: as, z)
        | none => none
      | none => none
def backW : List R → List C → FS → Option FS
  | [], _, s => some s
  | .tmp _ :: og, _ :: cs, s => backW og cs s
  | r :: og, c :: cs, s => match put0 s r c with
    | some s1 => backW og cs s1
    | none => none
  | _ :: _, [], _ => none
def resR (og : List R) (cs : List C) : R → Option R
  | .val d => some (.val d)
  | .tmp c => some (.tmp c)
  | .ic k j => some (.ic k j)
  | .var _ => none
  | .pc t => match og[t]? with
    | some (.tmp _) => match cs[t]? with
      | some c => some (.tmp c)
      | none => none
    | some r => some r
    | none => none
def callR (d : Den) (rs : List R) : M R := fun s => match canon s rs [] [] with
  | none => .stuck
  | some (as, og, cs) => match d as cs s.g with
    | .stuck => .stuck
    | .ok r cs' g' => match backW og cs' { s with g := g' } with
      | some s' => match resR og cs' r with
        | some r' => .ok r' s'
        | none => .stuck
      | none => .stuck
    | .exc e cs' g' => match backW og cs' { s with g := g' } with
      | some s' => .exc e s'
      | none => .stuck
def eCall (d : Den) (f : M (List R)) : M R := fun s => (f s).bind (callR d)
/-- the callee's arguments -/
def RepAs (K : PySem.W.Frag) (m : Mp) : List V → List R → Prop
  | [], [] => True
  | v :: vs, r :: rs => (match r with
    | .val d => RD K m v d
    | .pc n => v = .ref (m.al n)
    | .ic k j => v = .ref (m.ic k j) ∧ k < m.n ∧ j < m.nc k
    | _ => False) ∧ RepAs K m vs rs
  | _, _ => False
theorem RepAs.length {K : PySem.W.Frag} {m : Mp} : ∀ {vs : List V} {rs : List R}, RepAs K m vs rs → vs.length = rs.length
  | [], [], _ => rfl
  | _ :: vs, _ :: rs, h => by simp only [List.length_cons, RepAs.length h.2]
  | [], _ :: _, h => h.elim
  | _ :: _, [], h => h.elim
def PostD (K : PySem.W.Frag) (m : Mp) (x : DRes) (Q : VK) (E : XK) : Prop := match x with
  | .stuck => False
  | .ok r cs g => ∀ v H' m', m.le m' → Rel K m' [] H' ⟨[], cs, g⟩ → RepR K m' [] H' v r → Q v H'
  | .exc e cs g => ∀ c d H' m', m.le m' → Rel K m' [] H' ⟨[], cs, g⟩ → RepX K m' H' c d e → E c d H'
/-- THE PROMISE of a def that does d -/
def spOf (K : PySem.W.Frag) (d : Den) : Sp := fun vs H Q E => ∃ m as cs g, Rel K m [] H ⟨[], cs, g⟩ ∧ RepAs K m vs as ∧ PostD K m (d as cs g) Q E
structure AI (K : PySem.W.Frag) (m : Mp) (σ : St) (H : Hp) (s : FS) (og : List R) (cs : List C) (adr : List Addr) : Prop where
  l1 : og.length = adr.length
  l2 : cs.length = adr.length
  nd : adr.Nodup
  ct : ∀ (t : Nat) c a, cs[t]? = some c → adr[t]? = some a → ∃ o, H a = some o ∧ RepC K m o c
  vr : ∀ (t : Nat) i a, og[t]? = some (.var i) → adr[t]? = some a → σ[i]? = some (some (.ref a)) ∧ m.O a = some (.slot i)
  pc : ∀ (t : Nat) n a, og[t]? = some (.pc n) → adr[t]? = some a → a = m.al n ∧ m.O a = some (.pc n)
  tm : ∀ (t : Nat) c a, og[t]? = some (.tmp c) → adr[t]? = some a → m.O a = none ∧ m.P a = none ∧ m.L a = none
  no : ∀ (t : Nat), (∀ d, og[t]? ≠ some (.val d)) ∧ ∀ k j, og[t]? ≠ some (.ic k j)
theorem locP_some {r : R} : ∀ {og : List R} {b t : Nat}, locP r og b = some t → b ≤ t ∧ ∃ q, og[t - b]? = some q ∧ sameP r q = true
  | [], _, _, e => by cases e
  | q :: og, b, t, e => by
    unfold locP at e
    split at e
    · rename_i h
      cases e
      exact ⟨Nat.le_refl _, q, by simp, h⟩
    · obtain ⟨h1, q', h2, h3⟩ := locP_some e
      refine ⟨by omega, q', ?_, h3⟩
      rw [show t - b = (t - (b + 1)) + 1 by omega, List.getElem?_cons_succ]
      exact h2
theorem locP_none {r : R} : ∀ {og : List R} {b : Nat}, locP r og b = none → ∀ (t : Nat) q, og[t]? = some q → sameP r q = false
  | [], _, _, t, q, h => by simp at h
  | p :: og, b, e, t, q, h => by
    unfold locP at e
    split at e
    · cases e
    · rename_i hs
      cases t with
      | zero => simp at h; subst h; simpa using hs
      | succ t => exact locP_none e t q (by simpa using h)
theorem snoc_get {α : Type} {l : List α} {x y : α} {t : Nat} (h : (l ++ [x])[t]? = some y) : l[t]? = some y ∨ (t = l.length ∧ y = x) := by
  by_cases ht : t < l.length
  · rw [List.getElem?_append_left ht] at h; exact .inl h
  · by_cases he : t = l.length
    · subst he
      rw [List.getElem?_append_right (Nat.le_refl _)] at h
      simp at h
      exact .inr ⟨rfl, h.symm⟩
    · rw [List.getElem?_eq_none (by rw [List.length_append, List.length_singleton]; omega)] at h
      cases h
theorem get_lt {α : Type} {l : List α} {t : Nat} {x : α} (h : l[t]? = some x) : t < l.length := (List.getElem?_eq_some_iff.mp h).1
section
variable {K : PySem.W.Frag} {W : WX} {m : Mp} {σ : St} {H : Hp} {s : FS}
/-- one more cell -/
theorem AI.snoc {og : List R} {cs : List C} {adr : List Addr} (A : AI K m σ H s og cs adr) {r : R} {c : C} {a : Addr} {o : HO} (ha : a ∉ adr) (ho : H a = some o) (rc : RepC K m o c)
    (hv : ∀ i, r = .var i → σ[i]? = some (some (.ref a)) ∧ m.O a = some (.slot i)) (hp : ∀ n, r = .pc n → a = m.al n ∧ m.O a = some (.pc n)) (ht : ∀ c, r = .tmp c → m.O a = none ∧ m.P a = none ∧ m.L a = none)
    (hn : (∀ d, r ≠ .val d) ∧ ∀ k j, r ≠ .ic k j) : AI K m σ H s (og ++ [r]) (cs ++ [c]) (adr ++ [a]) := by
  have key : ∀ {t : Nat} {q : R} {b : Addr}, (og ++ [r])[t]? = some q → (adr ++ [a])[t]? = some b → (og[t]? = some q ∧ adr[t]? = some b) ∨ (q = r ∧ b = a) := fun {t q b} h1 h2 => by
    rcases snoc_get h1 with h1 | ⟨h1, h1'⟩
    · rcases snoc_get h2 with h2 | ⟨h2, h2'⟩
      · exact .inl ⟨h1, h2⟩
      · have := get_lt h1
        rw [A.l1] at this; omega
    · rcases snoc_get h2 with h2 | ⟨h2, h2'⟩
      · have := get_lt h2
        rw [← A.l1] at this; omega
      · exact .inr ⟨h1', h2'⟩
  refine ⟨by simp [A.l1], by simp [A.l2], ?_, fun t c' b h1 h2 => ?_, fun t i b h1 h2 => ?_, fun t n b h1 h2 => ?_, fun t c' b h1 h2 => ?_, fun t => ⟨fun d h => ?_, fun k j h => ?_⟩⟩
  · rw [List.nodup_append]
    refine ⟨A.nd, by simp, fun x hx y hy => ?_⟩
    simp at hy
    subst hy
    exact fun z => ha (z ▸ hx)
  · rcases snoc_get h1 with h1 | ⟨h1, h1'⟩
    · rcases snoc_get h2 with h2 | ⟨h2, h2'⟩
      · exact A.ct t c' b h1 h2
      · have := get_lt h1
        rw [A.l2] at this; omega
    · rcases snoc_get h2 with h2 | ⟨h2, h2'⟩
      · have := get_lt h2
        rw [← A.l2] at this; omega
      · rw [h1', h2']; exact ⟨o, ho, rc⟩
  · rcases key h1 h2 with ⟨h1, h2⟩ | ⟨h1, h2⟩
    · exact A.vr t i b h1 h2
    · rw [h2]; exact hv i h1.symm
  · rcases key h1 h2 with ⟨h1, h2⟩ | ⟨h1, h2⟩
    · exact A.pc t n b h1 h2
    · rw [h2]; exact hp n h1.symm
  · rcases key h1 h2 with ⟨h1, h2⟩ | ⟨h1, h2⟩
    · exact A.tm t c' b h1 h2
    · rw [h2]; exact ht c' h1.symm
  · rcases snoc_get h with h | ⟨_, h⟩
    · exact (A.no t).1 d h
    · exact hn.1 d h.symm
  · rcases snoc_get h with h | ⟨_, h⟩
    · exact (A.no t).2 k j h
    · exact hn.2 k j h.symm
/-- the callee's arguments by the cells' addresses -/
def RepAs' (K : PySem.W.Frag) (m : Mp) (adr : List Addr) : List V → List R → Prop
  | [], [] => True
  | v :: vs, r :: rs => (match r with
    | .val d => RD K m v d
    | .pc t => ∃ a, adr[t]? = some a ∧ v = .ref a
    | .ic k j => v = .ref (m.ic k j) ∧ k < m.n ∧ j < m.nc k
    | _ => False) ∧ RepAs' K m adr vs rs
  | _, _ => False
theorem own_of (x : Rel K m σ H s) {v : V} {i : Nat} {c : C} (p : σ[i]? = some (some v)) (e : cont s (.var i) = some c) : ∃ a, v = .ref a ∧ m.O a = some (.slot i) ∧ ∃ o, H a = some o ∧ RepC K m o c := by
  simp only [cont] at e
  cases q : s.env[i]? with
  | none => rw [q] at e; cases e
  | some z =>
    rw [q] at e
    cases z with
    | own c' => cases e; obtain ⟨a, e1, e2, o, e3, e4⟩ := x.env i _ q; rw [e1] at p; cases p; exact ⟨a, rfl, e2, o, e3, e4⟩
    | lck c' => cases e; obtain ⟨a, e1, ⟨e2, o, e3, e4⟩, _⟩ := x.env i _ q; rw [e1] at p; cases p; exact ⟨a, rfl, e2, o, e3, e4⟩
    | _ => cases e
theorem canon_ok (x : Rel K m σ H s) : ∀ {rs : List R} {vs : List V} {og og' : List R} {cs cs' : List C} {as : List R} {adr : List Addr} {mc : Mp}, AI K m σ H s og cs adr →
    mc.P = m.P → mc.O = m.O → mc.al = m.al → mc.n = m.n → mc.io = m.io → mc.nc = m.nc → mc.ic = m.ic → (∀ a o, m.L a = some o → mc.L a = some o) → (∀ a, a ∈ adr → m.O a = none → mc.L a ≠ none) →
    RepRs K σ H mc vs rs → canon s rs og cs = some (as, og', cs') →
    ∃ adr', AI K m σ H s og' cs' adr' ∧ (∀ (t : Nat) a, adr[t]? = some a → adr'[t]? = some a) ∧ RepAs' K m adr' vs as := by
  intro rs
  induction rs with
  | nil =>
    intro vs og og' cs cs' as adr mc A _ _ _ _ _ _ _ _ _ p e
    cases vs with
    | nil => cases e; exact ⟨adr, A, fun _ _ h => h, trivial⟩
    | cons v vs => exact p.elim
  | cons r rs ih =>
    intro vs og og' cs cs' as adr mc A eP eO ea en ei enc eic hL hT p e
    cases vs with
    | nil => exact p.elim
    | cons v vs =>
      obtain ⟨p1, p2⟩ := p
      have lkL : ∀ a o, m.L a = some o → (lk mc v r H).L a = some o := fun a o h => by
        have h1 := hL a o h
        cases r with
        | tmp c =>
          obtain ⟨b, rfl, h2, h3, h4, u, hu, _⟩ := p1
          show (if a = b then H b else mc.L a) = some o
          by_cases hab : a = b
          · rw [hab, h4] at h1; cases h1
          · rw [if_neg hab]; exact h1
        | _ => cases v <;> exact h1
      have lkT : ∀ a, mc.L a ≠ none → (lk mc v r H).L a ≠ none := fun a h => by
        cases r with
        | tmp c =>
          obtain ⟨b, rfl, h2, h3, h4, u, hu, _⟩ := p1
          show (if a = b then H b else mc.L a) ≠ none
          by_cases hab : a = b
          · rw [if_pos hab, hu]; intro z; cases z
          · rw [if_neg hab]; exact h
        | _ => cases v <;> exact h
      have go := fun {og og' : List R} {cs cs' : List C} {as : List R} {adr : List Addr} (A : AI K m σ H s og cs adr) (hT : ∀ a, a ∈ adr → m.O a = none → (lk mc v r H).L a ≠ none) (e : canon s rs og cs = some (as, og', cs')) =>
        ih (mc := lk mc v r H) A (by rw [lk_P]; exact eP) (by rw [lk_O]; exact eO) (by rw [lk_al]; exact ea) (by rw [lk_n]; exact en) (by rw [lk_io]; exact ei) (by rw [lk_nc]; exact enc) (by rw [lk_ic]; exact eic) lkL hT p2 e
      have hT' : ∀ a, a ∈ adr → m.O a = none → (lk mc v r H).L a ≠ none := fun a h h' => lkT a (hT a h h')
      -- a place or a new object
      have place : (∀ d, r ≠ .val d) → (∀ k j, r ≠ .ic k j) → (match locP r og 0 with
        | some t => match canon s rs og cs with
          | some (as, z) => some (R.pc t :: as, z)
          | none => none
        | none => match cont s r with
          | some c => match canon s rs (og ++ [r]) (cs ++ [c]) with
            | some (as, z) => some (R.pc og.length :: as, z)
            | none => none
          | none => none) = some (as, og', cs') → ∃ adr', AI K m σ H s og' cs' adr' ∧ (∀ (t : Nat) a, adr[t]? = some a → adr'[t]? = some a) ∧ RepAs' K m adr' (v :: vs) as := fun nv ni e => by
        cases e1 : locP r og 0 with
        | some t =>
          rw [e1] at e
          simp only [] at e
          cases e2 : canon s rs og cs with
          | none => rw [e2] at e; cases e
          | some z =>
            obtain ⟨as2, og2, cs2⟩ := z
            rw [e2] at e
            cases e
            obtain ⟨adr', A', h1, h2⟩ := go A hT' e2
            refine ⟨adr', A', h1, ?_, h2⟩
            obtain ⟨_, q, hq, hs⟩ := locP_some e1
            rw [Nat.sub_zero] at hq
            have hlt : t < adr.length := by rw [← A.l1]; exact get_lt hq
            have hg := List.getElem?_eq_getElem hlt
            refine ⟨adr[t], h1 t _ hg, ?_⟩
            cases r with
            | var i =>
              cases q with
              | var j =>
                have hij : i = j := by simpa [sameP] using hs
                subst hij
                have := (A.vr t i _ hq hg).1
                have p1' : σ[i]? = some (some v) := p1
                rw [p1'] at this
                cases this; rfl
              | _ => cases hs
            | pc n =>
              cases q with
              | pc j =>
                have hij : n = j := by simpa [sameP] using hs
                subst hij
                have p1' : v = .ref (mc.al n) := p1
                rw [p1', ea, ← (A.pc t n _ hq hg).1]
              | _ => cases hs
            | _ => cases q <;> cases hs
        | none =>
          rw [e1] at e
          simp only [] at e
          cases ec : cont s r with
          | none => rw [ec] at e; cases e
          | some c =>
            rw [ec] at e
            simp only [] at e
            cases e2 : canon s rs (og ++ [r]) (cs ++ [c]) with
            | none => rw [e2] at e; cases e
            | some z =>
              obtain ⟨as2, og2, cs2⟩ := z
              rw [e2] at e
              cases e
              have fin : ∀ a o, v = .ref a → a ∉ adr → H a = some o → RepC K m o c → (∀ i, r = .var i → σ[i]? = some (some (.ref a)) ∧ m.O a = some (.slot i)) → (∀ n, r = .pc n → a = m.al n ∧ m.O a = some (.pc n)) → (∀ c, r = .tmp c → m.O a = none ∧ m.P a = none ∧ m.L a = none) →
                  ∃ adr', AI K m σ H s og' cs' adr' ∧ (∀ (t : Nat) a, adr[t]? = some a → adr'[t]? = some a) ∧ RepAs' K m adr' (v :: vs) (.pc og.length :: as2) := fun a o ev hn ho rc hv hp ht => by
                have A2 := A.snoc hn ho rc hv hp ht ⟨nv, ni⟩
                obtain ⟨adr', A', h1, h2⟩ := go A2 (fun b hb hb' => by
                  rcases List.mem_append.mp hb with hb | hb
                  · exact hT' b hb hb'
                  · simp at hb
                    subst hb
                    cases r with
                    | tmp c' =>
                      subst ev
                      show (if b = b then H b else mc.L b) ≠ none
                      rw [if_pos rfl, ho]; intro z; cases z
                    | var i => rw [(hv i rfl).2] at hb'; cases hb'
                    | pc n => rw [(hp n rfl).2] at hb'; cases hb'
                    | val d => exact absurd rfl (nv d)
                    | ic k j => exact absurd rfl (ni k j)) e2
                refine ⟨adr', A', fun t b hb => h1 t b (by rw [List.getElem?_append_left (get_lt hb)]; exact hb), ⟨a, h1 _ _ ?_, ev⟩, h2⟩
                rw [A.l1, List.getElem?_append_right (Nat.le_refl _)]
                simp
              have notin : ∀ a, (∀ (t : Nat), adr[t]? = some a → False) → a ∉ adr := fun a h hm => by
                obtain ⟨t, ht⟩ := List.getElem?_of_mem hm
                exact h t ht
              have ogt : ∀ {t : Nat} {a}, adr[t]? = some a → ∃ q, og[t]? = some q := fun {t a} h => ⟨og[t]'(by rw [A.l1]; exact get_lt h), List.getElem?_eq_getElem _⟩
              cases r with
              | val d => exact absurd rfl (nv d)
              | ic k j => exact absurd rfl (ni k j)
              | var i =>
                obtain ⟨a, ev, ha, o, ho, rc⟩ := own_of x (show σ[i]? = some (some v) from p1) ec
                refine fin a o ev (notin a fun t ht => ?_) ho rc (fun j ej => ?_) (fun n en => nomatch en) (fun c ec => nomatch ec)
                · obtain ⟨q, hq⟩ := ogt ht
                  have hs := locP_none e1 t q hq
                  cases q with
                  | var j =>
                    have h2 := (A.vr t j a hq ht).2
                    rw [ha] at h2
                    have : i = j := by injection h2 with h2; injection h2
                    subst this
                    simp [sameP] at hs
                  | pc n => have h2 := (A.pc t n a hq ht).2; rw [ha] at h2; cases h2
                  | tmp c' => have h2 := (A.tm t c' a hq ht).1; rw [ha] at h2; cases h2
                  | val d => exact (A.no t).1 d hq
                  | ic k j => exact (A.no t).2 k j hq
                · cases ej
                  have p1' : σ[i]? = some (some v) := p1
                  rw [ev] at p1'
                  exact ⟨p1', ha⟩
              | pc n =>
                have ec' : s.pcs[n]? = some c := ec
                obtain ⟨ha, o, ho, rc⟩ := x.cells n c ec'
                have p1' : v = .ref (mc.al n) := p1
                rw [ea] at p1'
                refine fin _ o p1' (notin _ fun t ht => ?_) ho rc (fun j ej => nomatch ej) (fun n en => ?_) (fun c ec => nomatch ec)
                · obtain ⟨q, hq⟩ := ogt ht
                  have hs := locP_none e1 t q hq
                  cases q with
                  | var j => have h2 := (A.vr t j _ hq ht).2; rw [ha] at h2; cases h2
                  | pc n' =>
                    have h2 := (A.pc t n' _ hq ht).2
                    rw [ha] at h2
                    have : n = n' := by injection h2 with h2; injection h2
                    subst this
                    simp [sameP] at hs
                  | tmp c' => have h2 := (A.tm t c' _ hq ht).1; rw [ha] at h2; cases h2
                  | val d => exact (A.no t).1 d hq
                  | ic k j => exact (A.no t).2 k j hq
                · cases en
                  exact ⟨rfl, ha⟩
              | tmp c' =>
                cases ec
                obtain ⟨a, ev, h1, h2, h3, o, ho, rc⟩ := p1
                rw [eO] at h1
                rw [eP] at h2
                have rc' : RepC K m o c := RepC.mono (m := mc) (m' := m) ⟨fun a o h => by rw [← eP]; exact h, Nat.le_of_eq en, fun k _ => by rw [ei]⟩ rc
                refine fin a o ev (notin a fun t ht => ?_) ho rc' (fun j ej => nomatch ej) (fun n en => nomatch en) (fun c ec => ⟨h1, h2, ?_⟩)
                · exact hT a (List.mem_of_getElem? ht) h1 h3
                · cases q : m.L a with
                  | none => rfl
                  | some u => rw [hL a u q] at h3; cases h3
      cases r with
      | val d =>
        unfold canon at e
        cases e2 : canon s rs og cs with
        | none => rw [e2] at e; cases e
        | some z =>
          obtain ⟨as2, og2, cs2⟩ := z
          rw [e2] at e
          cases e
          obtain ⟨adr', A', h1, h2⟩ := go A hT' e2
          refine ⟨adr', A', h1, ?_, h2⟩
          exact RepD.mono (fun a o h => by rw [← eP]; exact h) (Nat.le_of_eq en) (fun k _ => by rw [ei]) p1
      | ic k j =>
        unfold canon at e
        cases e2 : canon s rs og cs with
        | none => rw [e2] at e; cases e
        | some z =>
          obtain ⟨as2, og2, cs2⟩ := z
          rw [e2] at e
          cases e
          obtain ⟨adr', A', h1, h2⟩ := go A hT' e2
          refine ⟨adr', A', h1, ?_, h2⟩
          obtain ⟨q1, q2, q3⟩ := p1
          exact ⟨by rw [← eic]; exact q1, by rw [← en]; exact q2, by rw [← enc]; exact q3⟩
      | var i => exact place (fun _ z => nomatch z) (fun _ _ z => nomatch z) e
      | pc n => exact place (fun _ z => nomatch z) (fun _ _ z => nomatch z) e
      | tmp c => exact place (fun _ z => nomatch z) (fun _ _ z => nomatch z) e
end
end VL
set_option maxRecDepth 100000
set_option maxHeartbeats 4000000
namespace VL
open PySem PySem.Spec L2
open PyProof.Rows hiding St
theorem idxOf_get {l : List Addr} (nd : l.Nodup) {t : Nat} {a : Addr} (h : l[t]? = some a) : l.idxOf a = t := by
  induction l generalizing t with
  | nil => simp at h
  | cons b l ih =>
    cases t with
    | zero => simp at h; subst h; simp [List.idxOf_cons]
    | succ t =>
      rw [List.getElem?_cons_succ] at h
      have hne : ¬ b = a := fun z => by
        subst z
        exact (List.nodup_cons.mp nd).1 (List.mem_of_getElem? h)
      have : (b == a) = false := by simpa using hne
      rw [List.idxOf_cons, this]
      simp only [Bool.false_eq_true, if_false, cond_false]
      rw [ih (List.nodup_cons.mp nd).2 h]
def mfO (m : Mp) (adr : List Addr) (a : Addr) : Option Own := if a ∈ adr then some (.pc (adr.idxOf a)) else match m.O a with
  | some (.ins k) => some (.ins k)
  | some (.idc k) => some (.idc k)
  | some (.ic k j) => some (.ic k j)
  | _ => none
def mfL (m : Mp) (adr : List Addr) (H : Hp) (a : Addr) : Option HO := if a ∈ adr then none else match m.O a with
  | some (.slot _) => H a
  | some (.pc _) => H a
  | _ => m.L a
/-- what the callee sees -/
def mf (m : Mp) (adr : List Addr) (H : Hp) : Mp := { m with O := mfO m adr, L := mfL m adr H, al := fun t => adr.getD t 0, lks := fun _ => none }
def m2O (m m' : Mp) (adr : List Addr) (og : List R) (a : Addr) : Option Own := match m'.O a with
  | some (.pc t) => if adr[t]? = some a then (match og[t]? with
    | some (.var i) => some (.slot i)
    | some (.pc n) => some (.pc n)
    | _ => none) else none
  | some (.slot _) => none
  | some w => some w
  | none => if a ∈ adr then none else match m.O a with
    | some (.slot i) => some (.slot i)
    | some (.pc n) => some (.pc n)
    | _ => none
/-- what the caller knows afterwards -/
def m2 (m m' : Mp) (adr : List Addr) (og : List R) : Mp := { m' with L := m.L, O := m2O m m' adr og, al := m.al, lks := m.lks }
section
variable {K : PySem.W.Frag} {W : WX} {m m' : Mp} {σ : St} {H : Hp} {s : FS} {og : List R} {cs : List C} {adr : List Addr}
theorem AI.cell (A : AI K m σ H s og cs adr) {a : Addr} (h : a ∈ adr) : ∃ (t : Nat) (q : R), adr[t]? = some a ∧ og[t]? = some q ∧ ∃ c, cs[t]? = some c := by
  obtain ⟨t, ht⟩ := List.getElem?_of_mem h
  have hl := get_lt ht
  exact ⟨t, og[t]'(by rw [A.l1]; exact hl), ht, List.getElem?_eq_getElem _, cs[t]'(by rw [A.l2]; exact hl), List.getElem?_eq_getElem _⟩
theorem AI.ownK (A : AI K m σ H s og cs adr) {a : Addr} (h : a ∈ adr) : ∀ w, m.O a = some w → (∃ i, w = .slot i) ∨ ∃ n, w = .pc n := fun w hw => by
  obtain ⟨t, q, h1, h2, _⟩ := A.cell h
  cases q with
  | var i => have := (A.vr t i a h2 h1).2; rw [hw] at this; cases this; exact .inl ⟨i, rfl⟩
  | pc n => have := (A.pc t n a h2 h1).2; rw [hw] at this; cases this; exact .inr ⟨n, rfl⟩
  | tmp c => have := (A.tm t c a h2 h1).1; rw [hw] at this; cases this
  | val d => exact absurd h2 ((A.no t).1 d)
  | ic k j => exact absurd h2 ((A.no t).2 k j)
theorem AI.noPL (A : AI K m σ H s og cs adr) (x : Rel K m σ H s) {a : Addr} (h : a ∈ adr) : m.P a = none ∧ m.L a = none := by
  obtain ⟨t, q, h1, h2, _⟩ := A.cell h
  cases q with
  | var i => have := (A.vr t i a h2 h1).2; exact ⟨x.op _ _ this, x.ol _ _ this⟩
  | pc n => have := (A.pc t n a h2 h1).2; exact ⟨x.op _ _ this, x.ol _ _ this⟩
  | tmp c => exact (A.tm t c a h2 h1).2
  | val d => exact absurd h2 ((A.no t).1 d)
  | ic k j => exact absurd h2 ((A.no t).2 k j)
/-- into the callee -/
theorem mf_rel (A : AI K m σ H s og cs adr) (x : Rel K m σ H s) : Rel K (mf m adr H) [] H ⟨[], cs, s.g⟩ := by
  have hin : ∀ {a w}, m.O a = some w → (∀ i, w ≠ .slot i) → (∀ n, w ≠ .pc n) → a ∉ adr ∧ mfO m adr a = (match w with | .ins k => some (.ins k) | .idc k => some (.idc k) | .ic k j => some (.ic k j) | _ => none) := fun {a w} h h1 h2 => by
    have hn : a ∉ adr := fun hm => by
      rcases A.ownK hm w h with ⟨i, e⟩ | ⟨n, e⟩
      · exact h1 i e
      · exact h2 n e
    refine ⟨hn, ?_⟩
    unfold mfO
    rw [if_neg hn, h]
    cases w <;> rfl
  refine ⟨x.pers, fun a o e => ?_, fun a w e => ?_, fun a w e => ?_, fun a w e => ?_, fun a o e => ?_, rfl, fun i z e => by simp at e, fun t c e => ?_, x.cnt, fun k I e => ?_, x.zz⟩
  · have e' : mfL m adr H a = some o := e
    unfold mfL at e'
    split at e'
    · cases e'
    · split at e'
      · exact e'
      · exact e'
      · exact x.lock a o e'
  · have e' : mfO m adr a = some w := e
    unfold mfO at e'
    split at e'
    · rename_i hm
      obtain ⟨t, q, h1, h2, c, h3⟩ := A.cell hm
      obtain ⟨o, ho, _⟩ := A.ct t c a h3 h1
      rw [ho]; intro z; cases z
    · split at e' <;> first
        | (rename_i hO; exact x.oh a _ hO)
        | cases e'
  · have e' : mfO m adr a = some w := e
    unfold mfO at e'
    split at e'
    · rename_i hm; exact (A.noPL x hm).1
    · split at e' <;> first
        | (rename_i hO; exact x.op a _ hO)
        | cases e'
  · have e' : mfO m adr a = some w := e
    show mfL m adr H a = none
    unfold mfO at e'
    unfold mfL
    split at e'
    · rename_i hm; rw [if_pos hm]
    · rename_i hm
      rw [if_neg hm]
      split at e' <;> first
        | (rename_i hO; rw [hO]; exact x.ol a _ hO)
        | cases e'
  · have e' : mfL m adr H a = some o := e
    show m.P a = none
    unfold mfL at e'
    split at e'
    · cases e'
    · split at e'
      · rename_i hO; exact x.op a _ hO
      · rename_i hO; exact x.op a _ hO
      · exact x.lp a o e'
  · have hl : t < adr.length := by rw [← A.l2]; exact get_lt e
    have hg := List.getElem?_eq_getElem hl
    have hal : (mf m adr H).al t = adr[t] := by
      show adr.getD t 0 = adr[t]
      rw [List.getD_eq_getElem?_getD, hg]; rfl
    rw [hal]
    refine ⟨?_, A.ct t c _ e hg⟩
    show mfO m adr adr[t] = some (.pc t)
    unfold mfO
    rw [if_pos (List.getElem_mem hl), idxOf_get A.nd hg]
  · have y := x.ins k I e
    refine InstOk.mono (m := m) (m' := mf m adr H) ⟨fun _ _ h => h, Nat.le_refl _, fun _ _ => rfl⟩ rfl rfl rfl (fun _ _ => rfl) (fun a w hw h => ?_) (fun _ _ _ _ => rfl) y
    have z := (hin h (fun i z => by subst z; exact hw) (fun i z => by subst z; exact hw)).2
    refine Eq.trans (b := _) z ?_
    cases w with
    | slot i => exact hw.elim
    | pc i => exact hw.elim
    | _ => rfl
theorem RepAs_of (A : AI K m σ H s og cs adr) : ∀ {vs : List V} {as : List R}, RepAs' K m adr vs as → RepAs K (mf m adr H) vs as
  | [], [], _ => trivial
  | v :: vs, r :: rs, h => by
    refine ⟨?_, RepAs_of A h.2⟩
    have h1 := h.1
    cases r with
    | val d => exact h1
    | pc t =>
      obtain ⟨a, ha, e⟩ := h1
      show v = .ref (adr.getD t 0)
      rw [List.getD_eq_getElem?_getD, ha, e]; rfl
    | ic k j => exact h1
    | _ => exact h1.elim
  | [], _ :: _, h => h.elim
  | _ :: _, [], h => h.elim
theorem m2_le (x : (mf m adr H).le m') : m.le (m2 m m' adr og) := ⟨x.P, rfl, rfl, x.n, x.io, x.nc, x.ic, rfl, x.Z⟩
/-- what the writing back does -/
def BW (og : List R) (cs : List C) (s s2 : FS) : Prop := s2.g = s.g ∧ s2.env.length = s.env.length ∧
    (∀ (i : Nat) (z : S), s2.env[i]? = some z → (∃ (t : Nat) (c : C), og[t]? = some (R.var i) ∧ cs[t]? = some c ∧ (z = S.own c ∨ (z = S.lck c ∧ ∃ c0, s.env[i]? = some (S.lck c0)))) ∨ ((∀ (t : Nat), og[t]? = some (R.var i) → cs[t]? = none) ∧ s.env[i]? = some z)) ∧
    (∀ (n : Nat) (c : C), s2.pcs[n]? = some c → (∃ t : Nat, og[t]? = some (R.pc n) ∧ cs[t]? = some c) ∨ ((∀ t : Nat, og[t]? = some (R.pc n) → cs[t]? = none) ∧ s.pcs[n]? = some c)) ∧ (∀ (t : Nat) (q : R), og[t]? = some q → ∃ c, cs[t]? = some c)
theorem backW_ok : ∀ {og : List R} {cs : List C} {s s2 : FS}, backW og cs s = some s2 → (∀ (t : Nat), (∀ d, og[t]? ≠ some (R.val d)) ∧ ∀ k j, og[t]? ≠ some (R.ic k j)) → BW og cs s s2
  | [], cs, s, s2, e, hn => by
    cases e
    exact ⟨rfl, rfl, fun i z h => .inr ⟨fun t h => by simp at h, h⟩, fun n c h => .inr ⟨fun t h => by simp at h, h⟩, fun t q h => by simp at h⟩
  | r :: og, [], s, s2, e, hn => by
    cases r <;> cases e
  | r :: og, c :: cs, s, s2, e, hn => by
    have hn' : ∀ (t : Nat), (∀ d, og[t]? ≠ some (R.val d)) ∧ ∀ k j, og[t]? ≠ some (R.ic k j) := fun t => by
      have := hn (t + 1)
      simpa using this
    have step : ∀ s1 : FS, backW og cs s1 = some s2 → s1.g = s.g → s1.env.length = s.env.length →
        (∀ (i : Nat) (z : S), s1.env[i]? = some z → (r = R.var i ∧ (z = S.own c ∨ (z = S.lck c ∧ ∃ c0, s.env[i]? = some (S.lck c0)))) ∨ (r ≠ R.var i ∧ s.env[i]? = some z)) →
        (∀ (n : Nat) (c' : C), s1.pcs[n]? = some c' → (r = R.pc n ∧ c' = c) ∨ (r ≠ R.pc n ∧ s.pcs[n]? = some c')) → BW (r :: og) (c :: cs) s s2 := fun s1 e1 hg hl h1 h2 => by
      obtain ⟨g1, g2, g3, g4, g5⟩ := backW_ok e1 hn'
      refine ⟨g1.trans hg, g2.trans hl, fun i z h => ?_, fun n c' h => ?_, fun t q h => ?_⟩
      · rcases g3 i z h with ⟨t, c', k1, k2, k3⟩ | ⟨k1, k2⟩
        · refine .inl ⟨t + 1, c', by simpa using k1, by simpa using k2, ?_⟩
          rcases k3 with k3 | ⟨k3, c0, k4⟩
          · exact .inl k3
          · refine .inr ⟨k3, ?_⟩
            rcases h1 i _ k4 with ⟨_, k5 | ⟨_, k5⟩⟩ | ⟨_, k5⟩
            · cases k5
            · exact k5
            · exact ⟨c0, k5⟩
        · rcases h1 i z k2 with ⟨k3, k4⟩ | ⟨k3, k4⟩
          · exact .inl ⟨0, c, by simp [k3], by simp, k4⟩
          · refine .inr ⟨fun t ht => ?_, k4⟩
            cases t with
            | zero => simp at ht; exact absurd ht k3
            | succ t => simpa using k1 t (by simpa using ht)
      · rcases g4 n c' h with ⟨t, k1, k2⟩ | ⟨k1, k2⟩
        · exact .inl ⟨t + 1, by simpa using k1, by simpa using k2⟩
        · rcases h2 n c' k2 with ⟨k3, k4⟩ | ⟨k3, k4⟩
          · exact .inl ⟨0, by simp [k3], by simp [k4]⟩
          · refine .inr ⟨fun t ht => ?_, k4⟩
            cases t with
            | zero => simp at ht; exact absurd ht k3
            | succ t => simpa using k1 t (by simpa using ht)
      · cases t with
        | zero => exact ⟨c, by simp⟩
        | succ t => simpa using g5 t q (by simpa using h)
    cases r with
    | tmp c' => exact step s e rfl rfl (fun i z h => .inr ⟨(fun z => nomatch z), h⟩) (fun n c h => .inr ⟨(fun z => nomatch z), h⟩)
    | val d => exact absurd rfl ((hn 0).1 d)
    | ic k j => exact absurd rfl ((hn 0).2 k j)
    | var i =>
      have e' : (match put0 s (.var i) c with | some s1 => backW og cs s1 | none => none) = some s2 := e
      simp only [put0] at e'
      cases q : s.env[i]? with
      | none =>
        rw [q] at e'
        refine step _ e' rfl (by show (s.env.set i _).length = _; rw [List.length_set]) (fun j z h => ?_) (fun n c h => .inr ⟨(fun z => nomatch z), h⟩)
        rcases setE_get h with ⟨rfl, rfl⟩ | ⟨hj, h⟩
        · exact .inl ⟨rfl, .inl rfl⟩
        · exact .inr ⟨fun z => hj (by injection z with z; exact z.symm), h⟩
      | some w =>
        rw [q] at e'
        cases w with
        | lck c0 =>
          refine step _ e' rfl (by show (s.env.set i _).length = _; rw [List.length_set]) (fun j z h => ?_) (fun n c h => .inr ⟨(fun z => nomatch z), h⟩)
          rcases setE_get h with ⟨rfl, rfl⟩ | ⟨hj, h⟩
          · exact .inl ⟨rfl, .inr ⟨rfl, c0, q⟩⟩
          · exact .inr ⟨fun z => hj (by injection z with z; exact z.symm), h⟩
        | _ =>
          refine step _ e' rfl (by show (s.env.set i _).length = _; rw [List.length_set]) (fun j z h => ?_) (fun n c h => .inr ⟨(fun z => nomatch z), h⟩)
          rcases setE_get h with ⟨rfl, rfl⟩ | ⟨hj, h⟩
          · exact .inl ⟨rfl, .inl rfl⟩
          · exact .inr ⟨fun z => hj (by injection z with z; exact z.symm), h⟩
    | pc n =>
      refine step { s with pcs := s.pcs.set n c } e rfl rfl (fun i z h => .inr ⟨(fun z => nomatch z), h⟩) (fun n' c' h => ?_)
      have h' : (s.pcs.set n c)[n']? = some c' := h
      by_cases hn : n = n'
      · subst hn
        by_cases hl : n < s.pcs.length
        · rw [List.getElem?_set_self hl] at h'; cases h'; exact .inl ⟨rfl, rfl⟩
        · rw [List.getElem?_eq_none (by simpa using hl)] at h'; cases h'
      · rw [List.getElem?_set_ne hn] at h'
        exact .inr ⟨fun z => hn (by injection z), h'⟩
/-- back from the callee -/
theorem m2_rel {cs' : List C} {g' : List Inst} {H' : Hp} {s2 : FS} (A : AI K m σ H s og cs adr) (x : Rel K m σ H s) (l : (mf m adr H).le m') (x' : Rel K m' [] H' ⟨[], cs', g'⟩) (eb : backW og cs' { s with g := g' } = some s2) :
    Rel K (m2 m m' adr og) σ H' s2 := by
  obtain ⟨g1, g2, g3, g4, g5⟩ := backW_ok eb A.no
  have lL : m'.L = mfL m adr H := l.L
  have lal : m'.al = fun t => adr.getD t 0 := l.al
  -- a cell of the caller's that the callee did not see
  have rest : ∀ {a w}, a ∉ adr → m.O a = some w → ((∃ i, w = .slot i) ∨ ∃ n, w = .pc n) → H' a = H a ∧ m'.O a = none ∧ m'.P a = none ∧ m2O m m' adr og a = some w := fun {a w} hn hO hw => by
    obtain ⟨o, ho⟩ := Option.ne_none_iff_exists'.mp (x.oh a w hO)
    have hL : m'.L a = some o := by
      rw [lL]
      unfold mfL
      rw [if_neg hn, hO]
      rcases hw with ⟨i, rfl⟩ | ⟨n, rfl⟩ <;> exact ho
    have hO' : m'.O a = none := by
      cases q : m'.O a with
      | none => rfl
      | some w' => have := x'.ol a w' q; rw [hL] at this; cases this
    refine ⟨(x'.lock a o hL).trans ho.symm, hO', x'.lp a o hL, ?_⟩
    unfold m2O
    rw [hO', if_neg hn, hO]
    rcases hw with ⟨i, rfl⟩ | ⟨n, rfl⟩ <;> rfl
  have pass : ∀ {t : Nat} {a c}, adr[t]? = some a → cs'[t]? = some c → m'.O a = some (.pc t) ∧ ∃ o, H' a = some o ∧ RepC K m' o c := fun {t a c} h1 h2 => by
    have := x'.cells t c h2
    rw [lal] at this
    have ea : adr.getD t 0 = a := by rw [List.getD_eq_getElem?_getD, h1]; rfl
    simp only [ea] at this
    exact this
  have mL : ∀ a w, m'.O a = some w → m.L a = none := fun a w h => by
    have h1 := x'.ol a w h
    rw [lL] at h1
    unfold mfL at h1
    split at h1
    · rename_i hm; exact (A.noPL x hm).2
    · split at h1
      · rename_i hO; exact x.ol a _ hO
      · rename_i hO; exact x.ol a _ hO
      · exact h1
  have m2c : ∀ {a w}, m2O m m' adr og a = some w → (∃ w', m'.O a = some w') ∨ (a ∉ adr ∧ m.O a = some w ∧ ((∃ i, w = .slot i) ∨ ∃ n, w = .pc n)) := fun {a w} h => by
    unfold m2O at h
    split at h
    · rename_i hO; exact .inl ⟨_, hO⟩
    · cases h
    · rename_i hO; exact .inl ⟨_, hO⟩
    · split at h
      · cases h
      · rename_i hm
        split at h
        · rename_i hO; cases h; exact .inr ⟨hm, hO, .inl ⟨_, rfl⟩⟩
        · rename_i hO; cases h; exact .inr ⟨hm, hO, .inr ⟨_, rfl⟩⟩
        · cases h
  have kn : m.kn (m2 m m' adr og) := ⟨l.P, l.n, l.io⟩
  have slotA : ∀ {i : Nat} {a}, σ[i]? = some (some (V.ref a)) → m.O a = some (.slot i) → a ∈ adr → ∃ t : Nat, adr[t]? = some a ∧ og[t]? = some (.var i) := fun {i a} _ hO hm => by
    obtain ⟨t, q, h1, h2, _⟩ := A.cell hm
    cases q with
    | var j => have := (A.vr t j a h2 h1).2; rw [hO] at this; cases this; exact ⟨t, h1, h2⟩
    | pc n => have := (A.pc t n a h2 h1).2; rw [hO] at this; cases this
    | tmp c => have := (A.tm t c a h2 h1).1; rw [hO] at this; cases this
    | val d => exact absurd h2 ((A.no t).1 d)
    | ic k j => exact absurd h2 ((A.no t).2 k j)
  refine ⟨x'.pers, fun a o e => ?_, fun a w e => ?_, fun a w e => ?_, fun a w e => ?_, fun a o e => ?_, ?_, fun i z e => ?_, fun n c e => ?_, ?_, fun k I e => ?_, x'.zz⟩
  · have e' : m.L a = some o := e
    refine x'.lock a o ?_
    rw [lL]
    unfold mfL
    have hn : a ∉ adr := fun hm => by have := (A.noPL x hm).2; rw [e'] at this; cases this
    rw [if_neg hn]
    split
    · rename_i hO; have := x.ol a _ hO; rw [e'] at this; cases this
    · rename_i hO; have := x.ol a _ hO; rw [e'] at this; cases this
    · exact e'
  · rcases m2c e with ⟨w', hO⟩ | ⟨hn, hO, hw⟩
    · exact x'.oh a w' hO
    · rw [(rest hn hO hw).1]; exact x.oh a w hO
  · rcases m2c e with ⟨w', hO⟩ | ⟨hn, hO, hw⟩
    · exact x'.op a w' hO
    · exact (rest hn hO hw).2.2.1
  · rcases m2c e with ⟨w', hO⟩ | ⟨hn, hO, hw⟩
    · exact mL a w' hO
    · exact x.ol a w hO
  · have e' : m.L a = some o := e
    refine x'.lp a o ?_
    rw [lL]
    unfold mfL
    have hn : a ∉ adr := fun hm => by have := (A.noPL x hm).2; rw [e'] at this; cases this
    rw [if_neg hn]
    split
    · rename_i hO; have := x.ol a _ hO; rw [e'] at this; cases this
    · rename_i hO; have := x.ol a _ hO; rw [e'] at this; cases this
    · exact e'
  · rw [g2]; exact x.len
  · rcases g3 i z e with ⟨t, c, k1, k2, k3⟩ | ⟨k1, k2⟩
    · have hl : t < adr.length := by rw [← A.l1]; exact get_lt k1
      have hg := List.getElem?_eq_getElem hl
      obtain ⟨hσ, hO⟩ := A.vr t i _ k1 hg
      obtain ⟨hO', hc⟩ := pass hg k2
      have h2 : m2O m m' adr og adr[t] = some (.slot i) := by
        unfold m2O
        rw [hO']
        simp only []
        rw [if_pos hg, k1]
      rcases k3 with rfl | ⟨rfl, c0, k4⟩
      · exact ⟨_, hσ, h2, hc⟩
      · obtain ⟨a0, f1, _, f2⟩ := x.env i _ k4
        rw [hσ] at f1
        cases f1
        exact ⟨_, hσ, ⟨h2, hc⟩, f2⟩
    · have y := x.env i z k2
      have keep : ∀ {a c}, σ[i]? = some (some (V.ref a)) → CellOk K m H (.slot i) a c → CellOk K (m2 m m' adr og) H' (.slot i) a c := fun {a c} hs hc => by
        obtain ⟨hO, o, ho, rc⟩ := hc
        have hn : a ∉ adr := fun hm => by
          obtain ⟨t, h1, h2⟩ := slotA hs hO hm
          obtain ⟨c', h3⟩ := g5 t _ h2
          rw [k1 t h2] at h3; cases h3
        obtain ⟨h1, _, _, h4⟩ := rest hn hO (.inl ⟨i, rfl⟩)
        exact ⟨h4, o, h1.trans ho, rc.mono kn⟩
      cases z with
      | no => trivial
      | val d => obtain ⟨v, f1, f2⟩ := y; exact ⟨v, f1, RepD.mono kn.P kn.n kn.io f2⟩
      | own c => obtain ⟨a, f1, f2⟩ := y; exact ⟨a, f1, keep f1 f2⟩
      | lck c => obtain ⟨a, f1, f2, f3⟩ := y; exact ⟨a, f1, keep f1 f2, f3⟩
      | pc n => exact y
      | ic k j =>
        obtain ⟨f1, f2, f3⟩ := y
        exact ⟨by show σ[i]? = some (some (V.ref (m'.ic k j))); rw [l.ic k j f2 f3]; exact f1, Nat.lt_of_lt_of_le f2 l.n, Nat.lt_of_lt_of_le f3 (l.nc k f2)⟩
  · rcases g4 n c e with ⟨t, k1, k2⟩ | ⟨k1, k2⟩
    · have hl : t < adr.length := by rw [← A.l1]; exact get_lt k1
      have hg := List.getElem?_eq_getElem hl
      obtain ⟨ha, hO⟩ := A.pc t n _ k1 hg
      obtain ⟨hO', hc⟩ := pass hg k2
      show CellOk K (m2 m m' adr og) H' (.pc n) (m.al n) c
      rw [← ha]
      refine ⟨?_, hc⟩
      show m2O m m' adr og adr[t] = some (.pc n)
      unfold m2O
      rw [hO']
      simp only []
      rw [if_pos hg, k1]
    · obtain ⟨hO, o, ho, rc⟩ := x.cells n c k2
      have hn : m.al n ∉ adr := fun hm => by
        obtain ⟨t, q, h1, h2, _⟩ := A.cell hm
        cases q with
        | var j => have := (A.vr t j _ h2 h1).2; rw [hO] at this; cases this
        | pc n' =>
          have := (A.pc t n' _ h2 h1).2
          rw [hO] at this
          cases this
          obtain ⟨c', h3⟩ := g5 t _ h2
          rw [k1 t h2] at h3; cases h3
        | tmp c => have := (A.tm t c _ h2 h1).1; rw [hO] at this; cases this
        | val d => exact absurd h2 ((A.no t).1 d)
        | ic k j => exact absurd h2 ((A.no t).2 k j)
      obtain ⟨h1, _, _, h4⟩ := rest hn hO (.inr ⟨n, rfl⟩)
      exact ⟨h4, o, h1.trans ho, rc.mono kn⟩
  · show m'.n = s2.g.length
    rw [g1]; exact x'.cnt
  · have e' : g'[k]? = some I := by rw [g1] at e; exact e
    have y := x'.ins k I e'
    have own2 : ∀ {a w}, m'.O a = some w → (∀ i, w ≠ .slot i) → (∀ n, w ≠ .pc n) → m2O m m' adr og a = some w := fun {a w} h h1 h2 => by
      unfold m2O
      rw [h]
      cases w with
      | slot i => exact absurd rfl (h1 i)
      | pc n => exact absurd rfl (h2 n)
      | _ => rfl
    refine InstOk.mono (m := m') (m' := m2 m m' adr og) ⟨fun _ _ h => h, Nat.le_refl _, fun _ _ => rfl⟩ rfl rfl rfl (fun _ _ => rfl) (fun a w hw h => own2 h (fun i z => by subst z; exact hw) (fun i z => by subst z; exact hw)) (fun _ _ _ _ => rfl) y
theorem m2_res {cs' : List C} {g' : List Inst} {H' : Hp} {s2 : FS} {v : V} {r r' : R} (A : AI K m σ H s og cs adr) (x : Rel K m σ H s) (l : (mf m adr H).le m') (x' : Rel K m' [] H' ⟨[], cs', g'⟩) (eb : backW og cs' { s with g := g' } = some s2)
    (p : RepR K m' [] H' v r) (e : resR og cs' r = some r') : RepR K (m2 m m' adr og) σ H' v r' := by
  have lL : m'.L = mfL m adr H := l.L
  have lal : m'.al = fun t => adr.getD t 0 := l.al
  obtain ⟨g1, g2, g3, g4, g5⟩ := backW_ok eb A.no
  cases r with
  | val d => cases e; exact p
  | tmp c =>
    cases e
    obtain ⟨a, ev, h1, h2, h3, o, ho, rc⟩ := p
    rw [lL] at h3
    have hn : a ∉ adr := fun hm => by
      obtain ⟨t, q, k1, k2, _⟩ := A.cell hm
      obtain ⟨c', k3⟩ := g5 t q k2
      have := (x'.cells t c' k3).1
      rw [lal] at this
      have ea : adr.getD t 0 = a := by rw [List.getD_eq_getElem?_getD, k1]; rfl
      simp only [ea] at this
      rw [h1] at this; cases this
    unfold mfL at h3
    rw [if_neg hn] at h3
    refine ⟨a, ev, ?_, h2, ?_, o, ho, rc⟩
    · show m2O m m' adr og a = none
      unfold m2O
      rw [h1, if_neg hn]
      cases q : m.O a with
      | none => rfl
      | some w =>
        rw [q] at h3
        cases w with
        | slot i => exact absurd h3 (x.oh a _ q)
        | pc n => exact absurd h3 (x.oh a _ q)
        | _ => rfl
    · show m.L a = none
      split at h3
      · rename_i hO; exact x.ol a _ hO
      · rename_i hO; exact x.ol a _ hO
      · exact h3
  | ic k j => cases e; exact p
  | var i => cases e
  | pc t =>
    have p' : v = .ref (m'.al t) := p
    rw [lal] at p'
    simp only [resR] at e
    cases q : og[t]? with
    | none => rw [q] at e; cases e
    | some q' =>
      rw [q] at e
      have hl : t < adr.length := by rw [← A.l1]; exact get_lt q
      have hg := List.getElem?_eq_getElem hl
      have ea : adr.getD t 0 = adr[t] := by rw [List.getD_eq_getElem?_getD, hg]; rfl
      simp only [ea] at p'
      cases q' with
      | tmp c =>
        simp only [] at e
        cases q2 : cs'[t]? with
        | none => rw [q2] at e; cases e
        | some c' =>
          rw [q2] at e
          cases e
          obtain ⟨k1, k2, k3⟩ := A.tm t c _ q hg
          have hc := x'.cells t c' q2
          rw [lal] at hc
          simp only [ea] at hc
          obtain ⟨hO, o, ho, rc⟩ := hc
          refine ⟨_, p', ?_, x'.op _ _ hO, k3, o, ho, rc⟩
          show m2O m m' adr og adr[t] = none
          unfold m2O
          rw [hO]
          simp only []
          rw [if_pos hg, q]
      | var i => cases e; rw [p']; exact (A.vr t i _ q hg).1
      | pc n => cases e; rw [p']; show V.ref _ = V.ref (m.al n); rw [← (A.pc t n _ q hg).1]
      | val d => exact absurd q ((A.no t).1 d)
      | ic k j => exact absurd q ((A.no t).2 k j)
end
end VL
set_option maxRecDepth 100000
set_option maxHeartbeats 4000000
namespace VL
open PySem PySem.Spec L2
open PyProof.Rows hiding St
section
variable {K : PySem.W.Frag} {W : WX} {m m' : Mp} {σ : St} {H : Hp} {s : FS}
theorem AI_nil : AI K m σ H s [] [] [] := ⟨rfl, rfl, .nil, fun t c a h => by simp at h, fun t i a h => by simp at h, fun t i a h => by simp at h, fun t i a h => by simp at h, fun t => ⟨fun d h => by simp at h, fun k j h => by simp at h⟩⟩
/-- THE CALL: what is known of the callee's d is enough for its promise -/
theorem callR_ok {d : Den} {vs : List V} {rs : List R} {Q : VK} (x : Rel K m σ H s) (p : RepRs K σ H m vs rs) (q : Post K W m σ (callR d rs s) (RpE K σ) Q) : spOf K d vs H Q (WE W σ) := by
  unfold callR at q
  cases e : canon s rs [] [] with
  | none => rw [e] at q; exact q.elim
  | some z =>
    obtain ⟨as, og, cs⟩ := z
    rw [e] at q
    simp only [] at q
    obtain ⟨adr, A, _, ra⟩ := canon_ok x AI_nil rfl rfl rfl rfl rfl rfl rfl (fun _ _ h => h) (fun a h => by simp at h) p e
    refine ⟨mf m adr H, as, cs, s.g, mf_rel A x, RepAs_of A ra, ?_⟩
    cases ed : d as cs s.g with
    | stuck => rw [ed] at q; exact q.elim
    | ok r cs' g' =>
      rw [ed] at q
      simp only [] at q
      cases eb : backW og cs' { s with g := g' } with
      | none => rw [eb] at q; exact q.elim
      | some s2 =>
        rw [eb] at q
        simp only [] at q
        cases er : resR og cs' r with
        | none => rw [er] at q; exact q.elim
        | some r' =>
          rw [er] at q
          exact fun v H' m' l x' p' => q v H' (m2 m m' adr og) (m2_le l) (m2_rel A x l x' eb) (m2_res A x l x' eb p' er)
    | exc ex cs' g' =>
      rw [ed] at q
      simp only [] at q
      cases eb : backW og cs' { s with g := g' } with
      | none => rw [eb] at q; exact q.elim
      | some s2 =>
        rw [eb] at q
        exact fun c d H' m' l x' p' => q c d H' (m2 m m' adr og) (m2_le l) (m2_rel A x l x' eb) (RepX.mono (m := m') (m' := m2 m m' adr og) ⟨fun _ _ h => h, Nat.le_refl _, fun _ _ => rfl⟩ p')
end
section
variable {X : Cx} {W : WX} {pos : Pos}
/-- f(e, ..), f a def that does d -/
theorem se_call {k : Nat} {f : Addr} {fd : FuncData} {ps : List Str} {d : Den} {x : Str} {p : Pos} {e : Expr} {es : List Expr} {fa : M (List R)} (F : FnOk X.prog X.w X.K X.mg X.base (L2.CX X.prog X.w) k f fd ps (spOf X.K d)) (hr : Room k X.A) (hg : Gl X x) (hm : X.mg x = some (.ref f)) (hk : PySem.W.keepIn X.K (.ref f) = true)
    (hb : Binds X.K fd ps []) (tk : Takes X W) (ha : PA X (e :: es) (toA X.K W fa)) (hdb : (x == ("__debug__" : Str)) = false := by decide) (he : starEach (e :: es) X.env = (false, eval e X.env) :: starEach es X.env := by rfl) (hpl : (backTo pos (starEach es X.env)).any (·.1) = false := by rfl) :
    PE X (.Call (.Name x p) (e :: es) [] pos) (toE X.K W (eCall d fa)) :=
  PE_imp (pe_callSD F hr hg hm hk hb .nil (fun σ => passAt tk σ) ha hdb he hpl) fun σ H Q h => by
    show toA X.K W fa σ H fun vs H1 => spOf X.K d (vs ++ []) H1 Q (WE W σ)
    refine many h fun m s H vs rs x p q => ?_
    rw [List.append_nil]
    exact callR_ok x p q
end
def argS : R → S
  | .val d => .val d
  | .pc n => .pc n
  | .ic k j => .ic k j
  | _ => .no
def fin : SRes → DRes
  | .next s => .ok (.val .non) s.pcs s.g
  | .ret r s => match r with
    | .val d => .ok (.val d) s.pcs s.g
    | .tmp c => .ok (.tmp c) s.pcs s.g
    | .pc n => .ok (.pc n) s.pcs s.g
    | .ic k j => .ok (.ic k j) s.pcs s.g
    | .var i => match cont s (.var i) with
      | some c => .ok (.tmp c) s.pcs s.g
      | none => .stuck
  | .exc e s => .exc e s.pcs s.g
  | _ => .stuck
/-- a def of n parameters and l further names, with this body -/
def mkDen (n l : Nat) (body : SM) : Den := fun as cs g => if as.length = n then fin (body ⟨as.map argS ++ List.replicate l .no, cs, g⟩) else .stuck
section
variable {K : PySem.W.Frag} {m m' : Mp} {σ : St} {H : Hp} {s : FS}
def noSlot (m : Mp) : Mp := { m with O := fun a => match m.O a with
  | some (.slot _) => none
  | w => w }
/-- the frame is gone -/
theorem Rel.drop (x : Rel K m σ H s) : Rel K (noSlot m) [] H ⟨[], s.pcs, s.g⟩ := by
  have hO : ∀ {a w}, (noSlot m).O a = some w → m.O a = some w := fun {a w} h => by
    have h' : (match m.O a with | some (.slot _) => none | w => w) = some w := h
    cases q : m.O a with
    | none => rw [q] at h'; cases h'
    | some w' =>
      rw [q] at h'
      cases w' <;> first
        | (cases h'; rfl)
        | cases h'
  have hO2 : ∀ {a w}, m.O a = some w → (∀ i, w ≠ .slot i) → (noSlot m).O a = some w := fun {a w} h n => by
    show (match m.O a with | some (.slot _) => none | w => w) = some w
    rw [h]
    cases w <;> first
      | rfl
      | exact absurd rfl (n _)
  refine ⟨x.pers, x.lock, fun a w h => x.oh a w (hO h), fun a w h => x.op a w (hO h), fun a w h => x.ol a w (hO h), x.lp, rfl, fun i z e => by simp at e, fun n c e => ?_, x.cnt, fun k I e => ?_, x.zz⟩
  · obtain ⟨h1, h2⟩ := x.cells n c e
    exact ⟨hO2 h1 (fun _ z => nomatch z), h2⟩
  · have y := x.ins k I e
    refine InstOk.mono (m := m) (m' := noSlot m) ⟨fun _ _ h => h, Nat.le_refl _, fun _ _ => rfl⟩ rfl rfl rfl (fun _ _ => rfl) (fun a w hw h => hO2 h fun i z => by subst z; exact hw) (fun _ _ _ _ => rfl) y
theorem noSlot_le (l : m.le m') : m.le (noSlot m') := ⟨l.P, l.L, l.al, l.n, l.io, l.nc, l.ic, l.lks, l.Z⟩
theorem argS_plain (as : List R) (l i : Nat) (z : S) (h : (as.map argS ++ List.replicate l S.no)[i]? = some z) : plainS z = true := by
  have hm := List.mem_of_getElem? h
  rcases List.mem_append.mp hm with hm | hm
  · obtain ⟨a, _, rfl⟩ := List.mem_map.mp hm
    cases a <;> rfl
  · obtain ⟨_, rfl⟩ := List.mem_replicate.mp hm
    rfl
/-- into the frame -/
theorem Rel.enter {vs : List V} {as : List R} {cs : List C} {g : List Inst} (x : Rel K m [] H ⟨[], cs, g⟩) (p : RepAs K m vs as) (l : Nat) : Rel K m (vs.map some ++ List.replicate l none) H ⟨as.map argS ++ List.replicate l .no, cs, g⟩ := by
  refine ⟨x.pers, x.lock, x.oh, x.op, x.ol, x.lp, by simp [p.length], fun i z e => ?_, x.cells, x.cnt, x.ins, x.zz⟩
  have key : ∀ {vs : List V} {as : List R} {i : Nat} {z : S}, RepAs K m vs as → (as.map argS ++ List.replicate l S.no)[i]? = some z → SlotOk K m (vs.map some ++ List.replicate l none) H i z := by
    intro vs
    induction vs with
    | nil =>
      intro as i z p e
      cases as with
      | cons a as => exact p.elim
      | nil =>
        have e' : (List.replicate l S.no)[i]? = some z := by simpa using e
        rw [List.getElem?_replicate] at e'
        split at e'
        · cases e'; trivial
        · cases e'
    | cons v vs ih =>
      intro as i z p e
      cases as with
      | nil => exact p.elim
      | cons a as =>
        cases i with
        | zero =>
          have e' : argS a = z := by simpa using e
          subst e'
          have p1 := p.1
          cases a with
          | val d => exact ⟨v, by simp, p1⟩
          | pc n => show ((v :: vs).map some ++ List.replicate l none)[0]? = _; have p1' : v = .ref (m.al n) := p1; rw [p1']; rfl
          | ic k j => exact ⟨by rw [p1.1]; rfl, p1.2⟩
          | _ => exact p1.elim
        | succ i =>
          have e' : (as.map argS ++ List.replicate l S.no)[i]? = some z := by simpa using e
          have y := ih p.2 e'
          have es : ((v :: vs).map some ++ List.replicate l (none : Option V))[i + 1]? = (vs.map some ++ List.replicate l none)[i]? := by simp
          cases z with
          | no => trivial
          | val d => obtain ⟨w, f1, f2⟩ := y; exact ⟨w, es.trans f1, f2⟩
          | own c => cases argS_plain as l i _ e'
          | lck c => cases argS_plain as l i _ e'
          | pc n => exact es.trans y
          | ic k j => exact ⟨es.trans y.1, y.2⟩
  exact key p e
theorem post_fin {y : SRes} {Q : VK} {E : XK} (h : PostD K m (fin y) Q E) : PostS K (fun c d _ H => E c d H) m y { nx := fun _ H' => Q .non H', rt := Q } := by
  cases y with
  | stuck => exact h
  | next s1 => exact fun σ' H' m' l x => h .non H' (noSlot m') (noSlot_le l) x.drop .non
  | brk s1 => exact h.elim
  | cont s1 => exact h.elim
  | exc e s1 => exact fun c d σ' H' m' l x r => h c d H' (noSlot m') (noSlot_le l) x.drop (RepX.mono (m := m') (m' := noSlot m') ⟨fun _ _ h => h, Nat.le_refl _, fun _ _ => rfl⟩ r)
  | ret r s1 =>
    intro v σ' H' m' l x p
    cases r with
    | val d => exact h v H' (noSlot m') (noSlot_le l) x.drop p
    | tmp c =>
      obtain ⟨a, ev, h1, h2, h3, o, ho, rc⟩ := p
      refine h v H' (noSlot m') (noSlot_le l) x.drop ⟨a, ev, ?_, h2, h3, o, ho, rc⟩
      show (match m'.O a with | some (.slot _) => none | w => w) = none
      rw [h1]
    | pc n => exact h v H' (noSlot m') (noSlot_le l) x.drop p
    | ic k j => exact h v H' (noSlot m') (noSlot_le l) x.drop p
    | var i =>
      simp only [fin] at h
      cases e : cont s1 (.var i) with
      | none => rw [e] at h; exact h.elim
      | some c =>
        rw [e] at h
        obtain ⟨a, ev, hO, o, ho, rc⟩ := own_of x (show σ'[i]? = some (some v) from p) e
        refine h v H' (noSlot m') (noSlot_le l) x.drop ⟨a, ev, ?_, x.op a _ hO, x.ol a _ hO, o, ho, rc⟩
        show (match m'.O a with | some (.slot _) => none | w => w) = none
        rw [hO]
end
section
variable {P : Program} {w : World} {K : PySem.W.Frag} {mg : Str → Option Value} {base : Heap}
/-- THE RULE for a def: its body does b -/
theorem fn_rule {x qual : Str} {params : Arguments} {body : List Stmt} {scope : Scope} {dvs : List V} {kws : List (Str × V)} {f : Addr} {fd : FuncData} {N ps : List Str} {k n l : Nat} {b : SM} (F : FunD K x qual params body scope dvs kws f fd) (S : FnScope N ps scope) (hn : ps.length = n) (hl : N.length = n + l)
    (hb : ∀ (cdv : Value) (A : Around) (outer : List Env) (s : Shared) (H : Hp) (E : XK), Room k (A.deeper (envOfC qual scope s.heap.objs.size f cdv)) → Takes (cxOf (L2.CX P w) P w K mg base N qual scope f cdv A outer s H E) (fun c d _ H => E c d H) →
      PassesOwn (model P w) (cxOf (L2.CX P w) P w K mg base N qual scope f cdv A outer s H E).A (cxOf (L2.CX P w) P w K mg base N qual scope f cdv A outer s H E).env (cxOf (L2.CX P w) P w K mg base N qual scope f cdv A outer s H E).xe →
      PSs (cxOf (L2.CX P w) P w K mg base N qual scope f cdv A outer s H E) body (toS K (fun c d _ H => E c d H) b)) :
    FnOk P w K mg base (L2.CX P w) (k + 1) f fd ps (spOf K (mkDen n l b)) := by
  refine F.ok S (fun vs H Q E h => ?_) (fun cdv A outer s H vs Q E hr h => ?_)
  · obtain ⟨m, as, cs, g, x, ra, q⟩ := h
    unfold mkDen at q
    split at q
    · rename_i e; rw [ra.length, e, hn]
    · exact q.elim
  · refine ⟨toS K (fun c d _ H => E c d H) b, hb cdv A outer s H E hr (takes_of rfl rfl rfl rfl) (passes_of rfl), ?_⟩
    obtain ⟨m, as, cs, g, x, ra, q⟩ := h
    unfold mkDen at q
    split at q
    · rename_i e
      refine ⟨m, _, ?_, post_fin q⟩
      have es : L2.start N vs = vs.map some ++ List.replicate l none := by
        unfold L2.start
        rw [hl, ra.length, e, Nat.add_sub_cancel_left]
      rw [es]
      exact x.enter ra l
    · exact q.elim
end
end VL
set_option maxRecDepth 100000
set_option maxHeartbeats 4000000
namespace VL
open PySem PySem.Spec L2
open PyProof.Rows hiding St
def eLst (f : M (List R)) : M R := fun s => (f s).bind fun rs s1 => match frzAll rs s1 with
  | some (ds, s2) => if ds.length ≤ sizeLine then .ok (.tmp (.lst ds)) s2 else .stuck
  | none => .stuck
def eTup (f : M (List R)) : M R := fun s => (f s).bind fun rs s1 => match frzAll rs s1 with
  | some (ds, s2) => if ds.length ≤ sizeLine then .ok (.val (.tup ds)) s2 else .stuck
  | none => .stuck
section
variable {X : Cx} {W : WX} {pos : Pos} {es : List Expr} {f : M (List R)}
theorem se_lst (h : PA X es (toA X.K W f)) : PE X (.List es pos) (toE X.K W (eLst f)) :=
  PE_imp (pe_lst h) fun σ H Q h => many h fun m s H vs rs x p q => by
    cases e : frzAll rs s with
    | none => rw [e] at q; exact q.elim
    | some z =>
      obtain ⟨ds, s2⟩ := z
      rw [e] at q
      simp only [] at q
      split at q
      · rename_i hl
        obtain ⟨m', l, x', r⟩ := frzAll_ok x p e
        exact ⟨by rw [r.length]; exact hl, fun a n => post_tmp x' (Post_mono l q) n ⟨vs, rfl, r⟩⟩
      · exact q.elim
theorem se_tup {x1} (h : PA X es (toA X.K W f)) : PE X (.Tuple es x1 pos) (toE X.K W (eTup f)) :=
  PE_imp (pe_tup h) fun σ H Q h => many h fun m s H vs rs x p q => by
    cases e : frzAll rs s with
    | none => rw [e] at q; exact q.elim
    | some z =>
      obtain ⟨ds, s2⟩ := z
      rw [e] at q
      simp only [] at q
      split at q
      · rename_i hl
        obtain ⟨m', l, x', r⟩ := frzAll_ok x p e
        exact ⟨by rw [r.length]; exact hl, fun a n => post_new x' (Post_mono l q) n fun m2 k hp => .tup hp (RepDs.mono k.P k.n k.io r)⟩
      · exact q.elim
theorem se_dict0 : PE X (.Dict [] [] pos) (toE X.K W fun s => .ok (.tmp (.dct [])) s) :=
  PE_imp pe_dnewK fun σ H Q ⟨m, s, x, q⟩ p n => post_tmp x q n ⟨[], rfl, .nil⟩
end
def kIx : R → R → M R := fun a b s => match dctK s a with
  | some kvs => match asK b with
    | some k => match dval kvs k with
      | some d => .ok (.val d) s
      | none => .stuck
    | none => .stuck
  | none => match asI b with
    | none => .stuck
    | some i => match seqL s a with
      | some xs => match atI xs i with
        | some d => .ok (.val d) s
        | none => .stuck
      | none => match seqT a with
        | some xs => match atI xs i with
          | some d => .ok (.val d) s
          | none => .stuck
        | none => match asS a with
          | some z => if z.length ≤ sizeLine then (match atI z.cps.toList i with
            | some c => .ok (.val (.str ⟨#[c]⟩)) s
            | none => .stuck) else .stuck
          | none => .stuck
/-- a dict's item that is there -/
def rIxK : R2 := fun x y H Q => ∃ a kvs k v, x = .ref a ∧ Rd H a (.dK kvs) ∧ y = kV k ∧ valV kvs k = some v ∧ Q v H
theorem ix_dict {X : Cx} : IxR X rIxK := by
  intro value slice pins s σ H x y v u Q I rx ry h hs
  obtain ⟨a, kvs, k, z, rfl, ha, rfl, hz, q⟩ := h
  cases rx
  obtain ⟨zz, hd, vs, rel, dd⟩ := dk_rd I.hok ha
  obtain ⟨w', hw, rw'⟩ := RelO.some_of (v := z) (o := valueAt vs k) (by rw [← hz]; exact rel.val k)
  exact subscriptTail_builtinR (x := w') dd.typeIs PySem.F.slot_dict_getitem.lookup (wpAny_getItem_of (kV_is ry) dd.mapOf hw ⟨rfl, z, H, I.tok _, rw', q⟩) hs
def rIxA (K : PySem.W.Frag) : R2 := fun x y H Q => rIxK x y H Q ∨ rIx K x y H Q
theorem ix_any {X : Cx} : IxR X (rIxA X.K) := ix_dict.or ix_seq
theorem RepDs.atI {K : PySem.W.Frag} {P : Hp} {io : Nat → Addr} {n : Nat} {vs : List V} {ds : List D} {i : Int} {d : D} (r : RepDs K P io n vs ds) (e : L2.atI ds i = some d) : ∃ v, L2.atI vs i = some v ∧ RepD K P io n v d := by
  unfold L2.atI at e ⊢
  rw [r.length]
  cases q : ixN ds.length i with
  | none => rw [q] at e; cases e
  | some j =>
    rw [q] at e
    exact r.get e
theorem o2_ix {K : PySem.W.Frag} : Op2 K (rIxA K) kIx := by
  intro W σ m s H v1 v2 r1 r2 Q x ps q
  unfold kIx at q
  have p2 := ps.2.1
  cases e0 : dctK s r1 with
  | some kvs =>
    rw [e0] at q
    simp only [] at q
    obtain ⟨a, vs, rfl, ha, ra⟩ := dctK_ok x ps.1 e0
    cases e1 : asK r2 with
    | none => rw [e1] at q; exact q.elim
    | some k =>
      rw [e1] at q
      simp only [] at q
      rcases ra.val (k := k) with ⟨h1, _⟩ | ⟨d, v, h1, h2, h3⟩
      · rw [h1] at q; exact q.elim
      · rw [h1] at q
        exact .inl ⟨a, vs, k, v, rfl, ha, asK_ok p2 e1, h2, post_val x q h3⟩
  | none =>
    rw [e0] at q
    simp only [] at q
    cases e1 : asI r2 with
    | none => rw [e1] at q; exact q.elim
    | some i =>
      rw [e1] at q
      simp only [] at q
      have ei := asI_ok p2 e1
      cases e2 : seqL s r1 with
      | some xs =>
        rw [e2] at q
        simp only [] at q
        obtain ⟨a, vs, rfl, ha, ra⟩ := seqL_ok x ps.1 e2
        cases e3 : atI xs i with
        | none => rw [e3] at q; exact q.elim
        | some d =>
          rw [e3] at q
          obtain ⟨v, hv, rv⟩ := ra.atI e3
          exact .inr (.inl ⟨a, vs, i, v, rfl, ei, SqL.of ha, hv, post_val x q rv⟩)
      | none =>
        rw [e2] at q
        simp only [] at q
        cases e3 : seqT r1 with
        | some xs =>
          rw [e3] at q
          simp only [] at q
          obtain ⟨a, vs, rfl, ha, ra⟩ := seqT_ok x ps.1 e3
          cases e4 : atI xs i with
          | none => rw [e4] at q; exact q.elim
          | some d =>
            rw [e4] at q
            obtain ⟨v, hv, rv⟩ := ra.atI e4
            exact .inr (.inr (.inl ⟨a, vs, i, v, rfl, ei, SqT.of ha, hv, post_val x q rv⟩))
        | none =>
          rw [e3] at q
          simp only [] at q
          cases e4 : asS r1 with
          | none => rw [e4] at q; exact q.elim
          | some z =>
            rw [e4] at q
            simp only [] at q
            split at q
            · rename_i hl
              cases e5 : atI z.cps.toList i with
              | none => rw [e5] at q; exact q.elim
              | some c =>
                rw [e5] at q
                exact .inr (.inr (.inr ⟨z, i, c, asS_ok ps.1 e4, ei, hl, e5, post_val x q .str⟩))
            · exact q.elim
def setItem (o i : R) (d : D) (s : FS) : Option FS := match dctW s o with
  | some kvs => match asK i with
    | some k => if kvs.length < sizeLine then put s o (.dct (dput kvs k d)) else none
    | none => none
  | none => match seqL s o, asI i with
    | some xs, some k => match ixN xs.length k with
      | some j => put s o (.lst (xs.set j d))
      | none => none
    | _, _ => none
def rSetK : TSet := fun o i v H Q => ∃ a kvs k, o = .ref a ∧ i = kV k ∧ H a = some (.dK kvs) ∧ kvs.length < sizeLine ∧ Q (upd H a (.dK (putK kvs k v)))
theorem set_dict {X : Cx} (hu : X.A.units + 1 < cLine) : PSet X rSetK := by
  intro pins s σ H o i v ov iv u Q I ro ri rv h
  obtain ⟨a, kvs, k, rfl, rfl, ha, hl, q⟩ := h
  cases ro
  exact d_setItem hu I (DPut.k ha hl) ri rv fun s' I' => ⟨_, I', q⟩
def rSetA : TSet := fun o i v H Q => rSetK o i v H Q ∨ rSetL o i v H Q
theorem set_any {X : Cx} (hu : X.A.units + 1 < cLine) : PSet X rSetA := by
  intro pins s σ H o i v ov iv u Q I ro ri rv h
  rcases h with h | h
  · exact set_dict hu pins s σ H o i v ov iv u Q I ro ri rv h
  · exact set_list pins s σ H o i v ov iv u Q I ro ri rv h
def sSetIt (fo fi fv : M R) : SM := fun s => (eCons fv (eCons fo (eCons fi eNil)) s).bindS fun rs s1 => match rs with
  | [v, o, i] => match frzR v s1 with
    | some (d, s2) => match setItem o i d s2 with
      | some s3 => .next s3
      | none => .stuck
    | none => .stuck
  | _ => .stuck
theorem setItem_ok {K : PySem.W.Frag} {m : Mp} {σ : St} {H : Hp} {s s' : FS} {v1 v2 v : V} {o i : R} {d : D} {Q : Hp → Prop} (x : Rel K m σ H s) (po : RepR K m σ H v1 o) (pi : RepR K m σ H v2 i) (r : RD K m v d) (e : setItem o i d s = some s')
    (q : ∀ H', Rel K m σ H' s' → Q H') : rSetA v1 v2 v H Q := by
  unfold setItem at e
  cases e0 : dctW s o with
  | some kvs =>
    rw [e0] at e
    simp only [] at e
    obtain ⟨a, vs, rfl, ha, ra⟩ := dctW_ok x po e0
    cases e1 : asK i with
    | none => rw [e1] at e; cases e
    | some k =>
      rw [e1] at e
      simp only [] at e
      split at e
      · rename_i hl
        have ec : cont s o = some (.dct kvs) := by
          unfold dctW at e0
          split at e0
          · cases e0; assumption
          · cases e0
        obtain ⟨a', ea, x'⟩ := Rel.put (o := .dK (putK vs k v)) x po ec e ⟨_, rfl, ra.put r⟩
        cases ea
        exact .inl ⟨a, vs, k, rfl, asK_ok pi e1, ha, by rw [ra.length]; exact hl, q _ x'⟩
      · cases e
  | none =>
    rw [e0] at e
    simp only [] at e
    cases e1 : seqL s o with
    | none => rw [e1] at e; cases e
    | some xs =>
      cases e2 : asI i with
      | none => rw [e1, e2] at e; cases e
      | some k =>
        rw [e1, e2] at e
        simp only [] at e
        cases e3 : ixN xs.length k with
        | none => rw [e3] at e; cases e
        | some j =>
          rw [e3] at e
          simp only [] at e
          obtain ⟨a, vs, rfl, ha, ra⟩ := seqL_ok x po e1
          have ec : cont s o = some (.lst xs) := by
            unfold seqL at e1
            split at e1
            · cases e1; assumption
            · cases e1
          obtain ⟨a', ea, x'⟩ := Rel.put (o := .lst (vs.set j v)) x po ec e ⟨_, rfl, RepDs.set r j ra⟩
          cases ea
          exact .inr ⟨a, vs, k, j, rfl, asI_ok pi e2, ha, by rw [ra.length]; exact e3, q _ x'⟩
section
variable {X : Cx} {W : WX} {pos pos' : Pos} {o i value : Expr} {fo fi fv : M R}
theorem toA3 {K : PySem.W.Frag} {W : WX} {f g h : M R} {σ : St} {H : Hp} {Q : V → V → V → Hp → Prop} (z : toA K W (eCons f (eCons g (eCons h eNil))) σ H fun vs H => ∀ a b c, vs = [a, b, c] → Q a b c H) :
    toE K W f σ H fun a H1 => toE K W g σ H1 fun b H2 => toE K W h σ H2 fun c H3 => Q a b c H3 := by
  have z1 := toA_cons z
  have up : ∀ {f : M R} {σ H} {R1 R2 : V → Hp → Prop}, (∀ v H, R1 v H → R2 v H) → toE K W f σ H R1 → toE K W f σ H R2 := fun {f σ H R1 R2} i ⟨m, s, x, p⟩ => ⟨m, s, x, by
    cases e : f s with
    | stuck => rw [e] at p; exact p
    | ok r s1 => rw [e] at p; exact fun v H' m' l x r => i _ _ (p v H' m' l x r)
    | exc ex s1 => rw [e] at p; exact p⟩
  refine up (fun a H1 q1 => ?_) z1
  have z2 := toA_cons q1
  refine up (fun b H2 q2 => ?_) z2
  have z3 := toA_cons q2
  refine up (fun c H3 q3 => ?_) z3
  exact toA_nil q3 a b c rfl
theorem ss_setitem (hu : X.A.units + 1 < cLine) (ho : PE X o (toE X.K W fo)) (hi : PE X i (toE X.K W fi)) (hv : PE X value (toE X.K W fv)) (hs : swapsWithSole [.Subscript o i pos'] value pos.line X.env = pure false := by rfl) (hw : swappedStores [.Subscript o i pos'] value X.env = pure none := by rfl)
    (hA : ∀ v, assign (.Subscript o i pos') X.env v = (do
      let ov ← holding [v] (eval o X.env)
      let iv ← holding [v, ov] (eval i X.env)
      standAt pos'
      holding [v, ov, iv] (PySem.setItem ov iv v)
      release [v, ov, iv] []) := by intro _; rfl) :
    PS X (.Assign [.Subscript o i pos'] value pos) (toS X.K W (sSetIt fo fi fv)) :=
  PS_imp (ps_asg hv (pg_sub ho hi (set_any hu) hA) hs hw) fun D σ H h => by
    show toE X.K W fv σ H fun v H1 => toE X.K W fo σ H1 fun o H2 => toE X.K W fi σ H2 fun i H3 => rSetA o i v H3 fun H4 => D.nx σ H4
    refine toA3 (Q := fun v o i H3 => rSetA o i v H3 fun H4 => D.nx σ H4) (manyS h fun m s H vs rs x p q => ?_)
    intro a b c e
    subst e
    match rs, p, q with
    | [rv, ro, ri], p, q =>
      simp only [] at q
      cases e1 : frzR rv s with
      | none => rw [e1] at q; exact q.elim
      | some z =>
        obtain ⟨d, s2⟩ := z
        rw [e1] at q
        simp only [] at q
        cases e2 : setItem ro ri d s2 with
        | none => rw [e2] at q; exact q.elim
        | some s3 =>
          rw [e2] at q
          obtain ⟨m1, l1, x1, r1, sm⟩ := p.1.frz x e1
          have ps := RepRs.sim sm p.2
          have p3 : RepR X.K m1 σ H c ri := by
            have z := ps.2.1
            have ll : ∀ {r : R} {v : V}, RepR X.K (lk m1 b ro H) σ H v r → RepR X.K m1 σ H v r := fun {r v} z => by
              cases r with
              | val d => exact RepD.mono (fun a o h => by rw [lk_P] at h; exact h) (Nat.le_of_eq lk_n) (fun k _ => by rw [lk_io]) z
              | tmp cc =>
                obtain ⟨a', e1, h1, h2, h3, o', h4, h5⟩ := z
                rw [lk_O] at h1
                rw [lk_P] at h2
                refine ⟨a', e1, h1, h2, ?_, o', h4, RepC.mono (m := lk m1 b ro H) (m' := m1) ⟨fun a o h => by rw [lk_P] at h; exact h, Nat.le_of_eq lk_n, fun k _ => by rw [lk_io]⟩ h5⟩
                cases ro with
                | tmp c3 =>
                  obtain ⟨b', e2, _⟩ := ps.1
                  subst e2
                  have h3' : (if a' = b' then H b' else m1.L a') = none := h3
                  by_cases hab : a' = b'
                  · rw [if_pos hab, ← hab, h4] at h3'; cases h3'
                  · rw [if_neg hab] at h3'; exact h3'
                | _ => cases b <;> exact h3
              | var i => exact z
              | pc n => show _ = V.ref (m1.al n); have z' : v = V.ref ((lk m1 b ro H).al n) := z; rw [lk_al] at z'; exact z'
              | ic k j => obtain ⟨z1, z2, z3⟩ := z; rw [lk_ic] at z1; rw [lk_n] at z2; rw [lk_nc] at z3; exact ⟨z1, z2, z3⟩
            exact ll z
          exact setItem_ok x1 ps.1 p3 r1 e2 fun H' x' => q σ H' m1 l1 x'
    | [], p, q => exact q.elim
    | [_], p, q => exact q.elim
    | [_, _], p, q => exact q.elim
    | _ :: _ :: _ :: _ :: _, p, q => exact q.elim
end
def OpN (K : PySem.W.Frag) (r : List V → Hp → VK → Prop) (k : List R → M R) : Prop := ∀ (W : WX) (σ : St) (m : Mp) (s : FS) (H : Hp) (vs : List V) (rs : List R) (Q : VK), Rel K m σ H s → RepRs K σ H m vs rs → Post K W m σ (k rs s) (RpE K σ) Q → r vs H Q
def eCB (k : List R → M R) (f : M (List R)) : M R := fun s => (f s).bind k
section
variable {X : Cx} {W : WX} {pos p : Pos} {x : Str} {e : Expr} {es : List Expr} {f : M (List R)} {id T : String} {r : List V → Hp → VK → Prop} {k : List R → M R}
theorem se_callB (hc : CallR X (.builtin id) r) (hk : OpN X.K r k) (hg : Gl X x) (hm : X.mg x = none) (hv : bootBuiltins x = some (.builtin id)) (ha : PA X (e :: es) (toA X.K W f)) (hn : x ≠ "__name__" := by decide) (hdb : (x == ("__debug__" : Str)) = false := by decide)
    (he : starEach (e :: es) X.env = (false, eval e X.env) :: starEach es X.env := by rfl) (hpl : (backTo pos (starEach es X.env)).any (·.1) = false := by rfl) : PE X (.Call (.Name x p) (e :: es) [] pos) (toE X.K W (eCB k f)) :=
  PE_imp (pe_callB hc hg hm hv ha hn hdb he hpl) fun σ H Q h => many h fun m s H vs rs x p q => hk W σ m s H vs rs Q x p q
theorem se_callTy (hc : CallR X (.type T) r) (hk : OpN X.K r k) (hg : Gl X x) (hm : X.mg x = none) (hv : bootBuiltins x = some (.type T)) (ha : PA X (e :: es) (toA X.K W f)) (hn : x ≠ "__name__" := by decide) (hdb : (x == ("__debug__" : Str)) = false := by decide)
    (he : starEach (e :: es) X.env = (false, eval e X.env) :: starEach es X.env := by rfl) (hpl : (backTo pos (starEach es X.env)).any (·.1) = false := by rfl) : PE X (.Call (.Name x p) (e :: es) [] pos) (toE X.K W (eCB k f)) :=
  PE_imp (pe_callTy hc hg hm hv ha hn hdb he hpl) fun σ H Q h => many h fun m s H vs rs x p q => hk W σ m s H vs rs Q x p q
end
/-- one operand -/
theorem opN1 {K : PySem.W.Frag} {r : List V → Hp → VK → Prop} {k : R → M R} (h : ∀ (W : WX) (σ : St) (m : Mp) (s : FS) (H : Hp) (v : V) (r1 : R) (Q : VK), Rel K m σ H s → RepR K m σ H v r1 → Post K W m σ (k r1 s) (RpE K σ) Q → r [v] H Q) :
    OpN K r fun rs s => match rs with
      | [a] => k a s
      | _ => .stuck := by
  intro W σ m s H vs rs Q x p q
  match rs, vs, p, q with
  | [a], [v], p, q => exact h W σ m s H v a Q x p.1 q
  | [], _, p, q => exact q.elim
  | _ :: _ :: _, _, p, q => exact q.elim
  | [_], [], p, q => exact p.elim
  | [_], _ :: _ :: _, p, q => exact p.2.elim
def k1 (k : R → M R) : List R → M R := fun rs s => match rs with
  | [a] => k a s
  | _ => .stuck
def k2 (k : R → R → M R) : List R → M R := fun rs s => match rs with
  | [a, b] => k a b s
  | _ => .stuck
theorem opN2 {K : PySem.W.Frag} {r : List V → Hp → VK → Prop} {k : R → R → M R} (h : Op2 K (fun x y H Q => r [x, y] H Q) k) : OpN K r (k2 k) := by
  intro W σ m s H vs rs Q x p q
  match rs, vs, p, q with
  | [a, b], [v, w], p, q => exact h W σ m s H v w a b Q x p q
  | [], _, p, q => exact q.elim
  | [_], _, p, q => exact q.elim
  | _ :: _ :: _ :: _, _, p, q => exact q.elim
  | [_, _], [], p, q => exact p.elim
  | [_, _], [_], p, q => exact p.2.elim
  | [_, _], _ :: _ :: _ :: _, p, q => exact p.2.2.elim
def kAbs : R → M R := fun a s => match asI a with
  | some i => .ok (.val (.int (if i < 0 then -i else i))) s
  | none => .stuck
def kInt : R → M R := fun a s => match asI a with
  | some i => .ok (.val (.int i)) s
  | none => match asBl a with
    | some b => .ok (.val (.int (if b then 1 else 0))) s
    | none => .stuck
def pMax : Int → Int → Option D := fun i j => some (.int (if j > i then j else i))
def pMin : Int → Int → Option D := fun i j => some (.int (if j < i then j else i))
def kLen : R → M R := fun a s => match seqL s a with
  | some xs => .ok (.val (.int xs.length)) s
  | none => match seqT a with
    | some xs => .ok (.val (.int xs.length)) s
    | none => match asS a with
      | some z => if z.length ≤ sizeLine then .ok (.val (.int z.length)) s else .stuck
      | none => match dctK s a with
        | some kvs => .ok (.val (.int kvs.length)) s
        | none => .stuck
section
variable {K : PySem.W.Frag}
theorem n_abs : OpN K (fun xs H Q => ∃ i, xs = [.int i] ∧ Q (.int (if i < 0 then -i else i)) H) (k1 kAbs) := opN1 fun W σ m s H v r Q x p q => by
  unfold kAbs at q
  cases e : asI r with
  | none => rw [e] at q; exact q.elim
  | some i => rw [e] at q; exact ⟨i, by rw [asI_ok p e], post_val x q .int⟩
theorem n_int : OpN K (fun xs H Q => (∃ i, xs = [.int i] ∧ Q (.int i) H) ∨ ∃ k, xs = [.bl k] ∧ Q (.int (if k then 1 else 0)) H) (k1 kInt) := opN1 fun W σ m s H v r Q x p q => by
  unfold kInt at q
  cases e : asI r with
  | some i => rw [e] at q; exact .inl ⟨i, by rw [asI_ok p e], post_val x q .int⟩
  | none =>
    rw [e] at q
    simp only [] at q
    cases e2 : asBl r with
    | none => rw [e2] at q; exact q.elim
    | some b => rw [e2] at q; exact .inr ⟨b, by rw [asBl_ok p e2], post_val x q .int⟩
theorem n_max2 : OpN K (fun xs H Q => ∃ i j, xs = [.int i, .int j] ∧ Q (.int (if j > i then j else i)) H) (k2 (kII pMax)) := opN2 (op2_II fun m i j d H Q e q => by cases e; exact ⟨i, j, rfl, q _ .int⟩)
end
/-- len of a list, a tuple, a text, a dict -/
def rLen4 (K : PySem.W.Frag) : List V → Hp → VK → Prop := fun xs H Q => (∃ x n, xs = [x] ∧ LenV K x H n ∧ Q (.int n) H) ∨ ∃ a kvs, xs = [.ref a] ∧ Rd H a (.dK kvs) ∧ Q (.int kvs.length) H
theorem call_len4 {X : Cx} : CallR X (.builtin "len") (rLen4 X.K) := by
  intro pins s σ H xs us Q I r h
  rcases h with h | ⟨a, kvs, rfl, ha, q⟩
  · exact call_len pins s σ H xs us Q I r h
  · rw [Vals.ref1 r]
    exact d_len I ha fun t s' I' => ⟨.int kvs.length, H, I', ⟨t, rfl⟩, q⟩
theorem n_len {K : PySem.W.Frag} : OpN K (rLen4 K) (k1 kLen) := opN1 fun W σ m s H v r Q x p q => by
  unfold kLen at q
  cases e : seqL s r with
  | some xs =>
    rw [e] at q
    obtain ⟨a, vs, rfl, ha, ra⟩ := seqL_ok x p e
    refine .inl ⟨_, vs.length, rfl, .inl ⟨vs, SqL.of ha, rfl⟩, ?_⟩
    rw [ra.length]; exact post_val x q .int
  | none =>
    rw [e] at q
    simp only [] at q
    cases e2 : seqT r with
    | some xs =>
      rw [e2] at q
      obtain ⟨a, vs, rfl, ha, ra⟩ := seqT_ok x p e2
      refine .inl ⟨_, vs.length, rfl, .inr ⟨vs, SqT.of ha, rfl⟩, ?_⟩
      rw [ra.length]; exact post_val x q .int
    | none =>
      rw [e2] at q
      simp only [] at q
      cases e3 : asS r with
      | some z =>
        rw [e3] at q
        simp only [] at q
        split at q
        · rename_i hl
          exact .inl ⟨_, z.length, rfl, by rw [asS_ok p e3]; exact ⟨hl, rfl⟩, post_val x q .int⟩
        · exact q.elim
      | none =>
        rw [e3] at q
        simp only [] at q
        cases e4 : dctK s r with
        | none => rw [e4] at q; exact q.elim
        | some kvs =>
          rw [e4] at q
          obtain ⟨a, vs, rfl, ha, ra⟩ := dctK_ok x p e4
          refine .inr ⟨a, vs, rfl, ha, ?_⟩
          rw [ra.length]; exact post_val x q .int
def tyD (s : FS) (r : R) : Option String := match r with
  | .val .non => some "NoneType"
  | .val (.bl _) => some "bool"
  | .val (.int _) => some "int"
  | .val (.str _) => some "str"
  | .val (.tup _) => some "tuple"
  | r => match cont s r with
    | some (.lst _) => some "list"
    | some (.dct _) => some "dict"
    | _ => none
def isTy (a b : String) : Bool := a == b || (a == "bool" && b == "int")
theorem kit_known : ∀ a ∈ ["NoneType", "bool", "int", "str", "tuple", "list", "dict"], ∀ b ∈ ["bool", "int", "str", "tuple", "list", "dict"], kitB a b = some (isTy a b) := by decide +kernel
def eIsT (T : String) (f : M R) : M R := fun s => (f s).bind fun r s1 => match tyD s1 r with
  | some a => .ok (.val (.bl (isTy a T))) s1
  | none => .stuck
theorem tyD_mem {s : FS} {r : R} {a : String} (e : tyD s r = some a) : a ∈ ["NoneType", "bool", "int", "str", "tuple", "list", "dict"] := by
  unfold tyD at e
  split at e
  · cases e; decide
  · cases e; decide
  · cases e; decide
  · cases e; decide
  · cases e; decide
  · split at e <;> first
      | (cases e; decide)
      | cases e
theorem tyD_ok {K : PySem.W.Frag} {m : Mp} {σ : St} {H : Hp} {s : FS} {v : V} {r : R} {a : String} (x : Rel K m σ H s) (p : RepR K m σ H v r) (e : tyD s r = some a) : TyX K H v (.type a) := by
  have go : ∀ {r : R}, RepR K m σ H v r → (match cont s r with | some (.lst _) => some "list" | some (.dct _) => some "dict" | _ => none) = some a → TyX K H v (.type a) := fun {r} p e => by
    cases q : cont s r with
    | none => rw [q] at e; cases e
    | some c =>
      rw [q] at e
      obtain ⟨b, o, rfl, ho, rc⟩ := cont_ok x p q
      cases c with
      | lst ds => cases e; obtain ⟨vs, rfl, _⟩ := rc; exact .base (.lst ho)
      | dct ds => cases e; obtain ⟨vs, rfl, _⟩ := rc; exact .base (.dK ho)
      | lkd ds => cases e
  cases r with
  | val d =>
    cases d with
    | non => cases e; cases p; exact .base .non
    | bl b => cases e; cases p; exact .base (.bl _)
    | int i => cases e; cases p; exact .base (.int _)
    | str i => cases e; cases p; exact .base (.str _)
    | tup xs => cases e; cases p with | tup h r => exact .base (.tup (x.pers _ _ h))
    | lst xs => exact go p e
    | dct xs => exact go p e
    | ins k => exact go p e
    | frz xs => exact go p e
  | tmp c => exact go p e
  | var i => exact go p e
  | pc n => exact go p e
  | ic k j => exact go p e
section
variable {X : Cx} {W : WX} {pos p p2 : Pos} {e : Expr} {f : M R} {x : Str}
theorem se_isT {T : String} (hT : T ∈ ["bool", "int", "str", "tuple", "list", "dict"]) (hg : Gl X "isinstance") (hm : X.mg "isinstance" = none) (hgx : Gl X x) (hmx : X.mg x = none) (hvx : bootBuiltins x = some (.type T)) (ha : PE X e (toE X.K W f)) (hn : x ≠ "__name__" := by decide) (hdb : (x == ("__debug__" : Str)) = false := by decide)
    (he2 : starEach [.Name x p2] X.env = [(false, eval (.Name x p2) X.env)] := by rfl)
    (he : starEach [e, .Name x p2] X.env = (false, eval e X.env) :: starEach [.Name x p2] X.env := by rfl) (hpl : (backTo pos (starEach [.Name x p2] X.env)).any (·.1) = false := by rfl) : PE X (.Call (.Name "isinstance" p) [e, .Name x p2] [] pos) (toE X.K W (eIsT T f)) :=
  PE_imp (pe_callB call_isi hg hm (by decide +kernel) (pa_cons ha (pa_cons (pe_bltn hgx hmx hvx (v := .ty T) rfl hn hdb) pa_nil he2) he) (by decide) (by decide) he hpl) fun σ H Q h => by
    show toE X.K W f σ H fun y H1 => rIsi X.K [y, .ty T] H1 Q
    refine one h fun m s H v r x p q => ?_
    cases e1 : tyD s r with
    | none => rw [e1] at q; exact q.elim
    | some a =>
      rw [e1] at q
      exact ⟨v, .ty T, .type a, .type T, isTy a T, rfl, .ty T, tyD_ok x p e1, kit_ty (kit_known a (tyD_mem e1) T hT), post_val x q .bl⟩
end
def eCh (k k' : R → R → M R) (f g h : M R) : M R := fun s => (f s).bind fun a s1 => (g s1).bind fun b s2 => (k a b s2).bind fun r s3 => (asB r s3).bind fun c s4 => if c = true then (h s4).bind fun d s5 => k' b d s5 else .ok (.val (.bl false)) s4
section
variable {X : Cx} {W : WX} {pos : Pos} {a b c : Expr} {f g h : M R}
/-- .. as a test -/
theorem st_chain {op op' : CmpOp} {p p' : Int → Int → Option D} {q q' : Int → Int → Bool} (hp : ∀ i j, p i j = some (.bl (q i j))) (hp' : ∀ i j, p' i j = some (.bl (q' i j))) (ho : OpR X (compareOp op) (rI0 fun i j => .bl (q i j))) (ho' : OpR X (compareOp op') (rI0 fun i j => .bl (q' i j)))
    (ha : PE X a (toE X.K W f)) (hb : PE X b (toE X.K W g)) (hc : PE X c (toE X.K W h)) (hm : lastMarks [op, op'] [b, c] = false := by with_unfolding_all rfl) : PT X (.Compare a [op, op'] [b, c] pos) (toT X.K W (eT (eCh (kII p) (kII p') f g h))) :=
  PT_imp (pt_chain ho ho' ha hb hc hm) fun σ H Q z => by
    have z' : ∃ m s, Rel X.K m σ H s ∧ Post X.K W m σ ((f s).bind fun a s1 => (g s1).bind fun b s2 => ((kII p a b s2).bind fun r s3 => (asB r s3).bind fun c s4 => if c = true then (h s4).bind fun d s5 => kII p' b d s5 else .ok (.val (.bl false)) s4).bind asB) RpT Q := by
      obtain ⟨m, s, x, q⟩ := z
      refine ⟨m, s, x, ?_⟩
      have e : eT (eCh (kII p) (kII p') f g h) s = (f s).bind fun a s1 => (g s1).bind fun b s2 => ((kII p a b s2).bind fun r s3 => (asB r s3).bind fun c s4 => if c = true then (h s4).bind fun d s5 => kII p' b d s5 else .ok (.val (.bl false)) s4).bind asB := by
        unfold eT eCh
        cases f s with
        | stuck => rfl
        | exc e s1 => rfl
        | ok r1 s1 =>
          simp only [Res.bind]
          cases g s1 <;> rfl
      rw [e] at q; exact q
    show tChain _ _ (toE X.K W f) (toE X.K W g) (toE X.K W h) σ H fun z H3 => ∃ k, z = .bl k ∧ Q k H3
    refine two z' fun m s H v1 v2 r1 r2 x ps e => ?_
    unfold kII at e
    cases e1 : asI r1 with
    | none => rw [e1] at e; exact e.elim
    | some i =>
      cases e2 : asI r2 with
      | none => rw [e1, e2] at e; exact e.elim
      | some j =>
        rw [e1, e2] at e
        simp only [hp, Res.bind, asB] at e
        refine ⟨i, j, asI_ok ps.1 e1, asI_ok ps.2.1 e2, _, rfl, ?_⟩
        by_cases hq : q i j = true
        · rw [if_pos hq] at e ⊢
          have e' : Post X.K W m σ ((h s).bind fun d s5 => match asI d with
            | some k => .ok (q' j k) s5
            | none => .stuck) RpT Q := by
            cases e3 : h s with
            | stuck => rw [e3] at e; exact e
            | exc ex s5 => rw [e3] at e; exact e
            | ok d s5 =>
              rw [e3] at e
              simp only [] at e
              cases e4 : asI d with
              | none => simp only [e4] at e; exact e.elim
              | some k => simp only [e4, hp'] at e; simp only [Res.bind, e4]; exact e
          refine one ⟨m, s, x, e'⟩ fun m s H v r x p e => ?_
          cases e4 : asI r with
          | none => rw [e4] at e; exact e.elim
          | some k => rw [e4] at e; exact ⟨j, k, asI_ok ps.2.1 e2, asI_ok p e4, _, rfl, e _ H m (Mp.le.refl m) x rfl⟩
        · rw [if_neg hq] at e ⊢
          exact ⟨_, rfl, e false H m (Mp.le.refl m) x rfl⟩
end
end VL
set_option maxRecDepth 100000
set_option maxHeartbeats 4000000
namespace VL
open PySem PySem.Spec L2
open PyProof.Rows hiding St
theorem PI_or {X : Cx} {tg e : Expr} {w1 w2 : TI} (h1 : PI X tg e w1) (h2 : PI X tg e w2) : PI X tg e (fun σ H R => w1 σ H R ∨ w2 σ H R) :=
  ⟨fun pins s σ H R I h => h.elim (h1.run pins s σ H R I) (h2.run pins s σ H R I)⟩
/-- a list, a tuple, the script -/
def iAny (f : M R) : M Lp := fun s => match f s with
  | .ok (.val (.tup _)) _ => iT f s
  | .ok (.val (.frz _)) _ => iZ f s
  | _ => iL f s
theorem src_any {K : PySem.W.Frag} {NF : Addr → Prop} {W : WX} {f : M R} : SrcOk K NF W (fun σ H R => iList K (toE K W f) σ H R ∨ iTup K (toE K W f) σ H R) (iAny f) := by
  intro σ H RJ h
  obtain ⟨m, s, x, p⟩ := h
  unfold iAny at p
  split at p
  · exact .inr (src_tup σ H RJ ⟨m, s, x, p⟩)
  · exact .inl (src_frz σ H RJ ⟨m, s, x, p⟩)
  · exact .inl (src_list σ H RJ ⟨m, s, x, p⟩)
theorem pi_any {X : Cx} {W : WX} {tg e : Expr} {f : M R} (h : PE X e (toE X.K W f)) : PI X tg e (fun σ H R => iList X.K (toE X.K W f) σ H R ∨ iTup X.K (toE X.K W f) σ H R) := PI_or (pi_list h) (pi_tup h)
theorem takes0 {X : Cx} : Takes X W0 := fun u s' ⟨a, B, sI, pins, σ, H, cls, d, e, I, nb, up, sky, na, os, ag, w⟩ => w.elim
structure Tp (fa : List He.Fa) (fn : List He.DefD) (K : PySem.W.Frag) (mg : Str → Option Value) : Prop where
  h : ∃ h : Heap, K.In h ∧ h.Ns mainGlobals mg
  c : He.SaysD fa fn K
section
variable {fa : List He.Fa} {fn : List He.DefD} {K : PySem.W.Frag} {mg : Str → Option Value}
theorem Tp.free (T : Tp fa fn K mg) (x : Str) (i : Nat) (e : fa[i]? = some (.free x) := by rfl) : mg x = none := by
  obtain ⟨h, X, G⟩ := T.h
  exact He.free_ok X G (T.c.fact i e)
theorem Tp.glo (T : Tp fa fn K mg) (x : Str) (i : Nat) (e : fa[i]? = some (.glo x) := by rfl) : mg x = some (.ref (He.ga K x)) := by
  obtain ⟨h, X, G⟩ := T.h
  exact He.glo_ok X G (T.c.fact i e)
end
/-- the def of this name does d, from level k on -/
structure Okk (P : Program) (w : World) (K : PySem.W.Frag) (mg : Str → Option Value) (base : Heap) (k : Nat) (x : Str) (ps : List Str) (d : Den) (fd : FuncData) : Prop where
  F : FnOk P w K mg base (L2.CX P w) k (He.ga K x) fd ps (spOf K d)
  b : Binds K fd ps []
  m : mg x = some (.ref (He.ga K x))
  kp : PySem.W.keepIn K (.ref (He.ga K x)) = true
  bt : ∀ (s : Shared) (us : List Value), us.length = ps.length → BindsTo s fd ⟨us, []⟩ (ps.zip us)
  u : ∃ oc od osl, K.lookup (He.ga K x) = some ⟨oc, od, .func fd, osl⟩
section
variable {X : Cx} {W : WX} {pos : Pos}
theorem se_callO {k : Nat} {fd : FuncData} {ps : List Str} {d : Den} {x : Str} {p : Pos} {e : Expr} {es : List Expr} {fa : M (List R)} (O : Okk X.prog X.w X.K X.mg X.base k x ps d fd) (hr : Room k X.A) (hg : Gl X x) (tk : Takes X W) (ha : PA X (e :: es) (toA X.K W fa))
    (hdb : (x == ("__debug__" : Str)) = false := by decide) (he : starEach (e :: es) X.env = (false, eval e X.env) :: starEach es X.env := by rfl) (hpl : (backTo pos (starEach es X.env)).any (·.1) = false := by rfl) :
    PE X (.Call (.Name x p) (e :: es) [] pos) (toE X.K W (eCall d fa)) := se_call O.F hr hg O.m O.kp O.b tk ha hdb he hpl
end
/-- a def's own end: what is asked of the law -/
theorem spOf_law {K : PySem.W.Frag} {d : Den} {ns : List Int} {a : Addr} {H : Hp} (hS : SqL K H a (ns.map V.int)) (h : ∃ cs g, d [.val (.frz (ns.map D.int))] [] [] = .ok (.val (.bl true)) cs g) : spOf K d [.ref a] H (fun v _ => v = .bl true) fun _ _ _ => False := by
  obtain ⟨cs, g, h⟩ := h
  have hr : ∀ (io : Nat → Addr) (ns : List Int), RepDs K H io 0 (ns.map V.int) (ns.map D.int) := fun io ns => by
    induction ns with
    | nil => exact .nil
    | cons n ns ih => exact .cons .int ih
  refine ⟨⟨H, fun _ => none, fun _ => none, fun _ => 0, 0, fun _ => 0, fun _ => 0, fun _ => 0, fun _ _ => 0, fun _ => none, fun _ => none⟩, [.val (.frz (ns.map D.int))], [], [], ?_, ⟨.frz hS (hr _ ns), trivial⟩, ?_⟩
  · exact { pers := fun _ _ h => h, lock := (by intro _ _ h; exact nomatch h), oh := (by intro _ _ h; exact nomatch h), op := (by intro _ _ h; exact nomatch h), ol := (by intro _ _ h; exact nomatch h), lp := (by intro _ _ h; exact nomatch h), len := rfl, env := (by intro i z e; simp at e), cells := (by intro n c e; simp at e), cnt := rfl, ins := (by intro k I e; simp at e), zz := (by intro _ _ h; exact nomatch h) }
  · rw [h]
    intro v H' m' _ _ p
    cases p
    rfl
theorem cx_false {P : Program} {w : World} : ∀ (H : Hp) (s : Shared) (e : Value) (s' : Shared), L2.CX P w [] H s (fun _ _ _ => False) e s' → False := by
  intro H s e s' h
  obtain ⟨_, _, _, _, _, _, _, _, _, _, _, _, z⟩ := h
  exact z
def eDict0 : M R := fun s => .ok (.tmp (.dct [])) s
def pAdd : Int → Int → Option D := fun i j => some (.int (i + j))
theorem o2_addI {K : PySem.W.Frag} : Op2 K (ipI fun i j => i + j) (kII pAdd) := op2_II fun m i j d H Q e q => by cases e; exact ⟨i, j, rfl, rfl, q _ .int⟩
theorem fun_at {K : PySem.W.Frag} {x qual : Str} {params : Arguments} {body : List Stmt} {scope : Scope} {dvs : List V} {kws : List (Str × V)} {f : Addr} {fd : FuncData} (F : FunD K x qual params body scope dvs kws f fd) : ∃ oc od osl, K.lookup f = some ⟨oc, od, .func fd, osl⟩ := by
  obtain ⟨oc, od, dV, kV, doc, pm, an, cdv, ct, osl, rfl, lk, hcd, _, _⟩ := F.ex
  exact ⟨oc, od, osl, lk⟩
end VL
set_option maxRecDepth 100000
set_option maxHeartbeats 4000000
namespace VL
open PySem PySem.Spec L2
open PyProof.Rows hiding St
def wp {α : Type} (x : Res α) (Q : α → FS → Prop) (X : Ex → FS → Prop) : Prop := match x with
  | .stuck => False
  | .ok a s => Q a s
  | .exc e s => X e s
def wpS (x : SRes) (Q : SRes → Prop) : Prop := match x with
  | .stuck => False
  | r => Q r
def wpD (x : DRes) (Q : R → List C → List Inst → Prop) (X : Ex → List C → List Inst → Prop) : Prop := match x with
  | .stuck => False
  | .ok r cs g => Q r cs g
  | .exc e cs g => X e cs g
abbrev X0 : Ex → List C → List Inst → Prop := fun _ _ _ => False
section
variable {α β : Type} {Q : α → FS → Prop} {X : Ex → FS → Prop} {s : FS}
theorem w_bind {x : Res β} {k : β → M α} (h : wp x (fun b s1 => wp (k b s1) Q X) X) : wp (x.bind k) Q X := by
  cases x with
  | stuck => exact h
  | ok a s => exact h
  | exc e s => exact h
theorem wp_mono {x : Res α} {Q' : α → FS → Prop} (h : wp x Q X) (i : ∀ a s, Q a s → Q' a s) : wp x Q' X := by
  cases x with
  | stuck => exact h
  | ok a s => exact i _ _ h
  | exc e s => exact h
theorem w_bindS {x : Res β} {k : β → SM} {Q : SRes → Prop} (h : wp x (fun b s1 => wpS (k b s1) Q) (fun e s => Q (.exc e s))) : wpS (x.bindS k) Q := by
  cases x with
  | stuck => exact h
  | ok a s => exact h
  | exc e s => exact h
end
section
variable {Q : R → FS → Prop} {X : Ex → FS → Prop} {s : FS}
theorem w_d {d : D} (q : Q (.val d) s) : wp (eD d s) Q X := q
theorem w_var_val {i : Nat} {d : D} (h : s.env[i]? = some (.val d)) (q : Q (.val d) s) : wp (eVar i s) Q X := by unfold eVar; rw [h]; exact q
theorem w_var_own {i : Nat} {c : C} (h : s.env[i]? = some (.own c)) (q : Q (.var i) s) : wp (eVar i s) Q X := by unfold eVar; rw [h]; exact q
theorem w_var_lck {i : Nat} {c : C} (h : s.env[i]? = some (.lck c)) (q : Q (.var i) s) : wp (eVar i s) Q X := by unfold eVar; rw [h]; exact q
theorem w_var_pc {i n : Nat} (h : s.env[i]? = some (.pc n)) (q : Q (.pc n) s) : wp (eVar i s) Q X := by unfold eVar; rw [h]; exact q
theorem w_var_ic {i k j : Nat} (h : s.env[i]? = some (.ic k j)) (q : Q (.ic k j) s) : wp (eVar i s) Q X := by unfold eVar; rw [h]; exact q
theorem w_nil {Q : List R → FS → Prop} (q : Q [] s) : wp (eNil s) Q X := q
theorem w_cons {f : M R} {g : M (List R)} {Q : List R → FS → Prop} (h : wp (f s) (fun r s1 => wp (g s1) (fun rs s2 => Q (r :: rs) s2) X) X) : wp (eCons f g s) Q X := by
  unfold eCons
  refine w_bind (wp_mono h fun r s1 h1 => w_bind (wp_mono h1 fun rs s2 h2 => h2))
theorem w_bin {k : R → R → M R} {f g : M R} (h : wp (f s) (fun a s1 => wp (g s1) (fun b s2 => wp (k a b s2) Q X) X) X) : wp (eB k f g s) Q X := by
  unfold eB
  exact w_bind (wp_mono h fun r s1 h1 => w_bind h1)
theorem w_un {k : R → M R} {f : M R} (h : wp (f s) (fun a s1 => wp (k a s1) Q X) X) : wp (eU k f s) Q X := w_bind h
theorem w_II {p : Int → Int → Option D} {i j : Int} {d : D} (h : p i j = some d) (q : Q (.val d) s) : wp (kII p (.val (.int i)) (.val (.int j)) s) Q X := by
  show wp (match p i j with | some d => .ok (.val d) s | none => .stuck) Q X
  rw [h]; exact q
theorem w_mod {i j : Int} (h : 0 < j) (q : Q (.val (.int (i % j))) s) : wp (kII pMod (.val (.int i)) (.val (.int j)) s) Q X := w_II (if_pos h) q
theorem w_div {i j : Int} (h : 0 < j) (h2 : j < 1073741824) (q : Q (.val (.int (i / j))) s) : wp (kII pDiv (.val (.int i)) (.val (.int j)) s) Q X := w_II (if_pos ⟨h, h2⟩) q
theorem w_pow {i j : Int} (h : 0 ≤ j ∧ j ≤ 1000000 ∧ i.natAbs < 2 ^ 64) (q : Q (.val (.int (i ^ j.toNat))) s) : wp (kII pPow (.val (.int i)) (.val (.int j)) s) Q X := w_II (if_pos h) q
theorem w_sub {i j : Int} (q : Q (.val (.int (i - j))) s) : wp (kII pSub (.val (.int i)) (.val (.int j)) s) Q X := q
theorem w_lt {i j : Int} (q : Q (.val (.bl (decide (i < j)))) s) : wp (kII pLt (.val (.int i)) (.val (.int j)) s) Q X := q
theorem w_le {i j : Int} (q : Q (.val (.bl (decide (i ≤ j)))) s) : wp (kII pLe (.val (.int i)) (.val (.int j)) s) Q X := q
theorem w_gt {i j : Int} (q : Q (.val (.bl (decide (j < i)))) s) : wp (kII pGt (.val (.int i)) (.val (.int j)) s) Q X := q
theorem w_ge {i j : Int} (q : Q (.val (.bl (decide (j ≤ i)))) s) : wp (kII pGe (.val (.int i)) (.val (.int j)) s) Q X := q
theorem w_max {i j : Int} (q : Q (.val (.int (if j > i then j else i))) s) : wp (kII pMax (.val (.int i)) (.val (.int j)) s) Q X := q
theorem w_min {i j : Int} (q : Q (.val (.int (if j < i then j else i))) s) : wp (kII pMin (.val (.int i)) (.val (.int j)) s) Q X := q
theorem w_add {i j : Int} (q : Q (.val (.int (i + j))) s) : wp (kAdd (.val (.int i)) (.val (.int j)) s) Q X := q
theorem w_addI {i j : Int} (q : Q (.val (.int (i + j))) s) : wp (kII pAdd (.val (.int i)) (.val (.int j)) s) Q X := q
theorem cont_of_seqL {r : R} {xs : List D} (h : seqL s r = some xs) : cont s r = some (.lst xs) := by
  unfold seqL at h
  split at h
  · cases h; assumption
  · cases h
theorem w_mul {i j : Int} (h : (-(2 ^ 64) < i ∧ i < 2 ^ 64) ∨ (-(2 ^ 64) < j ∧ j < 2 ^ 64)) (q : Q (.val (.int (i * j))) s) : wp (kMul (.val (.int i)) (.val (.int j)) s) Q X := by
  show wp (if _ then .ok (.val (.int (i * j))) s else .stuck) Q X
  rw [if_pos h]; exact q
theorem w_neg {i : Int} (q : Q (.val (.int (-i))) s) : wp (kNeg (.val (.int i)) s) Q X := q
theorem w_eqi {i j : Int} (q : Q (.val (.bl (decide (i = j)))) s) : wp (kEqN false (.val (.int i)) (.val (.int j)) s) Q X := by
  show Q (.val (.bl (decide (i = j) ^^ false))) s
  rw [Bool.xor_false]; exact q
theorem w_nei {i j : Int} (q : Q (.val (.bl (decide (i ≠ j)))) s) : wp (kEqN true (.val (.int i)) (.val (.int j)) s) Q X := by
  show Q (.val (.bl (decide (i = j) ^^ true))) s
  have e : (decide (i = j) ^^ true) = decide (i ≠ j) := by by_cases h : i = j <;> simp [h]
  rw [e]; exact q
theorem w_eqb {i j : Bool} (q : Q (.val (.bl (decide (i = j)))) s) : wp (kEqN false (.val (.bl i)) (.val (.bl j)) s) Q X := by
  show Q (.val (.bl (decide (i = j) ^^ false))) s
  rw [Bool.xor_false]; exact q
theorem w_eqs {i j : Str} (q : Q (.val (.bl (decide (i = j)))) s) : wp (kEqN false (.val (.str i)) (.val (.str j)) s) Q X := by
  show Q (.val (.bl (decide (i = j) ^^ false))) s
  rw [Bool.xor_false]; exact q
theorem w_is {a b : R} {n k : Bool} (h : kIsN n a b s = .ok (.val (.bl k)) s) (q : Q (.val (.bl k)) s) : wp (kIsN n a b s) Q X := by
  rw [h]; exact q
theorem w_ixl {a : R} {xs : List D} {i : Int} {d : D} (h : seqL s a = some xs) (h2 : atI xs i = some d) (q : Q (.val d) s) : wp (kIx a (.val (.int i)) s) Q X := by
  unfold kIx
  have hc := cont_of_seqL h
  have hd : dctK s a = none := by unfold dctK; rw [hc]
  rw [hd]
  simp only [asI, h, h2]; exact q
theorem w_ixt {xs : List D} {i : Int} {d : D} (h2 : atI xs i = some d) (q : Q (.val d) s) : wp (kIx (.val (.tup xs)) (.val (.int i)) s) Q X := by
  have e : kIx (.val (.tup xs)) (.val (.int i)) s = (match atI xs i with | some d => .ok (.val d) s | none => .stuck) := rfl
  rw [e, h2]; exact q
variable {Qb : Bool → FS → Prop}
theorem w_asB {b : Bool} (q : Qb b s) : wp (asB (.val (.bl b)) s) Qb X := q
theorem w_T {f : M R} (h : wp (f s) (fun r s1 => wp (asB r s1) Qb X) X) : wp (eT f s) Qb X := w_bind h
theorem w_if {β : Type} {b : Bool} {x y : Res β} {Q : β → FS → Prop} (h : (b = true → wp x Q X) ∧ (b = false → wp y Q X)) : wp (if b = true then x else y) Q X := by
  cases b with
  | true => exact h.1 rfl
  | false => exact h.2 rfl
theorem w_mand {f g : M Bool} (h : wp (f s) (fun b s1 => (b = true → wp (g s1) Qb X) ∧ (b = false → Qb false s1)) X) : wp (mAnd f g s) Qb X := by
  unfold mAnd
  exact w_bind (wp_mono h fun b s1 h => w_if h)
theorem w_mor {f g : M Bool} (h : wp (f s) (fun b s1 => (b = true → Qb true s1) ∧ (b = false → wp (g s1) Qb X)) X) : wp (mOr f g s) Qb X := by
  unfold mOr
  exact w_bind (wp_mono h fun b s1 h => w_if h)
theorem w_mnot {f : M Bool} (h : wp (f s) (fun b s1 => Qb (!b) s1) X) : wp (mNot f s) Qb X := w_bind h
theorem w_yes (q : Qb true s) : wp (mYes s) Qb X := q
theorem w_eand {f g : M R} (h : wp (f s) (fun r s1 => wp (asB r s1) (fun b s2 => (b = true → wp (g s2) Q X) ∧ (b = false → Q (.val (.bl false)) s2)) X) X) : wp (eAnd f g s) Q X := by
  unfold eAnd
  exact w_bind (wp_mono h fun r s1 h => w_bind (wp_mono h fun b s2 h => w_if h))
theorem w_eor {f g : M R} (h : wp (f s) (fun r s1 => wp (asB r s1) (fun b s2 => (b = true → Q (.val (.bl true)) s2) ∧ (b = false → wp (g s2) Q X)) X) X) : wp (eOr f g s) Q X := by
  unfold eOr
  exact w_bind (wp_mono h fun r s1 h => w_bind (wp_mono h fun b s2 h => w_if h))
theorem w_enot {f : M R} (h : wp (f s) (fun r s1 => wp (asB r s1) (fun b s2 => Q (.val (.bl (!b))) s2) X) X) : wp (eNot f s) Q X := by
  unfold eNot
  exact w_bind (wp_mono h fun r s1 h => w_bind (wp_mono h fun b s2 h => h))
theorem w_eif {t : M Bool} {f g : M R} (h : wp (t s) (fun b s1 => (b = true → wp (f s1) Q X) ∧ (b = false → wp (g s1) Q X)) X) : wp (eIf t f g s) Q X := by
  unfold eIf
  exact w_bind (wp_mono h fun b s1 h => w_if h)
theorem w_ch {k k' : R → R → M R} {f g h : M R} (z : wp (f s) (fun a s1 => wp (g s1) (fun b s2 => wp (k a b s2) (fun r s3 => wp (asB r s3) (fun c s4 => (c = true → wp (h s4) (fun d s5 => wp (k' b d s5) Q X) X) ∧ (c = false → Q (.val (.bl false)) s4)) X) X) X) X) : wp (eCh k k' f g h s) Q X := by
  unfold eCh
  exact w_bind (wp_mono z fun a s1 z => w_bind (wp_mono z fun b s2 z => w_bind (wp_mono z fun r s3 z => w_bind (wp_mono z fun c s4 z => w_if ⟨fun e => w_bind (z.1 e), z.2⟩))))
theorem w_lst {f : M (List R)} (h : wp (f s) (fun rs s1 => ∃ ds s2, frzAll rs s1 = some (ds, s2) ∧ ds.length ≤ sizeLine ∧ Q (.tmp (.lst ds)) s2) X) : wp (eLst f s) Q X := by
  unfold eLst
  refine w_bind (wp_mono h fun rs s1 ⟨ds, s2, e, hl, q⟩ => ?_)
  simp only [e, if_pos hl]; exact q
theorem w_tup {f : M (List R)} (h : wp (f s) (fun rs s1 => ∃ ds s2, frzAll rs s1 = some (ds, s2) ∧ ds.length ≤ sizeLine ∧ Q (.val (.tup ds)) s2) X) : wp (eTup f s) Q X := by
  unfold eTup
  refine w_bind (wp_mono h fun rs s1 ⟨ds, s2, e, hl, q⟩ => ?_)
  simp only [e, if_pos hl]; exact q
theorem w_dict0 (q : Q (.tmp (.dct [])) s) : wp (eDict0 s) Q X := q
theorem w_cb {k : List R → M R} {f : M (List R)} (h : wp (f s) (fun rs s1 => wp (k rs s1) Q X) X) : wp (eCB k f s) Q X := w_bind h
theorem w_k1 {k : R → M R} {a : R} (h : wp (k a s) Q X) : wp (k1 k [a] s) Q X := h
theorem w_k2 {k : R → R → M R} {a b : R} (h : wp (k a b s) Q X) : wp (k2 k [a, b] s) Q X := h
theorem w_abs {i : Int} (q : Q (.val (.int (if i < 0 then -i else i))) s) : wp (kAbs (.val (.int i)) s) Q X := q
theorem w_int {i : Int} (q : Q (.val (.int i)) s) : wp (kInt (.val (.int i)) s) Q X := q
theorem w_intb {b : Bool} (q : Q (.val (.int (if b then 1 else 0))) s) : wp (kInt (.val (.bl b)) s) Q X := q
theorem w_lenl {a : R} {xs : List D} (h : seqL s a = some xs) (q : Q (.val (.int xs.length)) s) : wp (kLen a s) Q X := by
  unfold kLen; rw [h]; exact q
theorem w_lent {xs : List D} (q : Q (.val (.int xs.length)) s) : wp (kLen (.val (.tup xs)) s) Q X := q
theorem w_isT {T : String} {f : M R} (h : wp (f s) (fun r s1 => ∃ a, tyD s1 r = some a ∧ Q (.val (.bl (isTy a T))) s1) X) : wp (eIsT T f s) Q X := by
  unfold eIsT
  refine w_bind (wp_mono h fun r s1 ⟨a, e, h⟩ => ?_)
  rw [e]; exact h
theorem w_eCall {d : Den} {f : M (List R)} (h : wp (f s) (fun rs s1 => wp (callR d rs s1) Q X) X) : wp (eCall d f s) Q X := w_bind h
theorem w_call {d : Den} {rs as og : List R} {cs : List C} (hc : canon s rs [] [] = some (as, og, cs)) (h : wpD (d as cs s.g) (fun r cs' g' => ∃ s2 r', backW og cs' { s with g := g' } = some s2 ∧ resR og cs' r = some r' ∧ Q r' s2) (fun e cs' g' => ∃ s2, backW og cs' { s with g := g' } = some s2 ∧ X e s2)) :
    wp (callR d rs s) Q X := by
  unfold callR
  rw [hc]
  simp only []
  cases e : d as cs s.g with
  | stuck => rw [e] at h; exact h.elim
  | ok r cs' g' =>
    rw [e] at h
    obtain ⟨s2, r', e1, e2, q⟩ := h
    simp only [e1, e2]; exact q
  | exc ex cs' g' =>
    rw [e] at h
    obtain ⟨s2, e1, q⟩ := h
    simp only [e1]; exact q
end
section
variable {Q : SRes → Prop} {s : FS}
theorem wpS_mono {x : SRes} {Q' : SRes → Prop} (h : wpS x Q) (i : ∀ r, Q r → Q' r) : wpS x Q' := by
  cases x <;> first | exact h | exact i _ h
def seqK (g : SM) (Q : SRes → Prop) : SRes → Prop := fun r => match r with
  | .next s1 => wpS (g s1) Q
  | r => wpS r Q
theorem v_seq {f g : SM} (h : wpS (f s) (seqK g Q)) : wpS (sSeq f g s) Q := by
  unfold sSeq
  cases e : f s <;> rw [e] at h <;> first | exact h | exact h.elim
theorem v_k_next {g : SM} {s1 : FS} (h : wpS (g s1) Q) : seqK g Q (.next s1) := h
theorem v_k_ret {g : SM} {r : R} {s1 : FS} (h : Q (.ret r s1)) : seqK g Q (.ret r s1) := h
theorem v_k_brk {g : SM} {s1 : FS} (h : Q (.brk s1)) : seqK g Q (.brk s1) := h
theorem v_k_cont {g : SM} {s1 : FS} (h : Q (.cont s1)) : seqK g Q (.cont s1) := h
theorem v_nil (h : Q (.next s)) : wpS (sNil s) Q := h
theorem v_brk (h : Q (.brk s)) : wpS (sBrk s) Q := h
theorem v_cont (h : Q (.cont s)) : wpS (sCont s) Q := h
theorem v_retN (h : Q (.ret (.val .non) s)) : wpS (sRetN s) Q := h
theorem v_ret {f : M R} (h : wp (f s) (fun r s1 => Q (.ret r s1)) (fun e s => Q (.exc e s))) : wpS (sRet f s) Q := w_bindS (wp_mono h fun _ _ h => h)
theorem v_e {f : M R} (h : wp (f s) (fun r s1 => Q (.next s1)) (fun e s => Q (.exc e s))) : wpS (sE f s) Q := w_bindS (wp_mono h fun _ _ h => h)
theorem v_iteS {b : Bool} {x y : SRes} (h : (b = true → wpS x Q) ∧ (b = false → wpS y Q)) : wpS (if b = true then x else y) Q := by
  cases b with
  | true => exact h.1 rfl
  | false => exact h.2 rfl
theorem v_if {t : M Bool} {f g : SM} (h : wp (t s) (fun b s1 => (b = true → wpS (f s1) Q) ∧ (b = false → wpS (g s1) Q)) (fun e s => Q (.exc e s))) : wpS (sIf t f g s) Q := w_bindS (wp_mono h fun _ _ h => v_iteS h)
theorem v_set {i : Nat} {f : M R} (h : wp (f s) (fun r s1 => wpS (setSlot i r s1) Q) (fun e s => Q (.exc e s))) : wpS (sSet i f s) Q := w_bindS h
theorem v_aug {i : Nat} {k : R → R → M R} {f : M R} (h : wp (eB k (eVar i) f s) (fun r s1 => wpS (setSlot i r s1) Q) (fun e s => Q (.exc e s))) : wpS (sAug i k f s) Q := w_bindS h
theorem v_sl_val {i : Nat} {d : D} (q : Q (.next ⟨s.env.set i (.val d), s.pcs, s.g⟩)) : wpS (setSlot i (.val d) s) Q := q
theorem v_sl_pc {i n : Nat} (q : Q (.next ⟨s.env.set i (.pc n), s.pcs, s.g⟩)) : wpS (setSlot i (.pc n) s) Q := q
theorem v_sl_ic {i k j : Nat} (q : Q (.next ⟨s.env.set i (.ic k j), s.pcs, s.g⟩)) : wpS (setSlot i (.ic k j) s) Q := q
theorem v_sl_tmp {i : Nat} {c : C} (h : i < s.env.length) (q : Q (.next ⟨s.env.set i (.own c), s.pcs, s.g⟩)) : wpS (setSlot i (.tmp c) s) Q := by
  show wpS (if i < s.env.length then .next (s.setE i (.own c)) else .stuck) Q
  rw [if_pos h]; exact q
theorem v_it {fo fi fv : M R} (h : wp (fv s) (fun v s1 => wp (fo s1) (fun o s2 => wp (fi s2) (fun i s3 => ∃ d s4 s5, frzR v s3 = some (d, s4) ∧ setItem o i d s4 = some s5 ∧ Q (.next s5)) (fun e s => Q (.exc e s))) (fun e s => Q (.exc e s))) (fun e s => Q (.exc e s))) : wpS (sSetIt fo fi fv s) Q := by
  unfold sSetIt
  refine w_bindS (w_cons (wp_mono h fun v s1 h => w_cons (wp_mono h fun o s2 h => w_cons (wp_mono h fun i s3 h => ?_))))
  obtain ⟨d, s4, s5, e1, e2, q⟩ := h
  refine w_nil ?_
  simp only [e1, e2]; exact q
theorem setItem_lst {s s5 : FS} {o : R} {xs : List D} {k : Int} {d : D} {j : Nat} (h : seqL s o = some xs) (hj : ixN xs.length k = some j) (hp : put s o (.lst (xs.set j d)) = some s5) : setItem o (.val (.int k)) d s = some s5 := by
  unfold setItem
  have hc := cont_of_seqL h
  have hd : dctW s o = none := by unfold dctW; rw [hc]
  simp only [hd, h, asI, hj]; exact hp
end
section
variable {Q : R → List C → List Inst → Prop} {X : Ex → List C → List Inst → Prop}
def finK (Q : R → List C → List Inst → Prop) (X : Ex → List C → List Inst → Prop) : SRes → Prop := fun r => wpD (fin r) Q X
/-- a def -/
theorem v_den {n l : Nat} {b : SM} {as : List R} {cs : List C} {g : List Inst} (ha : as.length = n) (h : wpS (b ⟨as.map argS ++ List.replicate l .no, cs, g⟩) (finK Q X)) : wpD (mkDen n l b as cs g) Q X := by
  unfold mkDen
  rw [if_pos ha]
  cases e : b ⟨as.map argS ++ List.replicate l .no, cs, g⟩ with
  | stuck => rw [e] at h; exact h.elim
  | _ => rw [e] at h; exact h
theorem f_next {s : FS} (q : Q (.val .non) s.pcs s.g) : finK Q X (.next s) := q
theorem f_val {s : FS} {d : D} (q : Q (.val d) s.pcs s.g) : finK Q X (.ret (.val d) s) := q
theorem f_tmp {s : FS} {c : C} (q : Q (.tmp c) s.pcs s.g) : finK Q X (.ret (.tmp c) s) := q
theorem f_pc {s : FS} {n : Nat} (q : Q (.pc n) s.pcs s.g) : finK Q X (.ret (.pc n) s) := q
theorem f_var {s : FS} {i : Nat} {c : C} (h : cont s (.var i) = some c) (q : Q (.tmp c) s.pcs s.g) : finK Q X (.ret (.var i) s) := by
  unfold finK fin; simp only [h]; exact q
end
section
variable {A B : Prop} {b : Bool}
theorem i_true (h : A) : (true = true → A) ∧ (true = false → B) := ⟨fun _ => h, fun z => (nomatch z)⟩
theorem i_false (h : B) : (false = true → A) ∧ (false = false → B) := ⟨fun z => (nomatch z), fun _ => h⟩
theorem i_dec {p : Prop} [Decidable p] (h1 : p → A) (h2 : ¬ p → B) : (decide p = true → A) ∧ (decide p = false → B) := ⟨fun z => h1 (of_decide_eq_true z), fun z => h2 (of_decide_eq_false z)⟩
theorem i_not (h : (b = true → B) ∧ (b = false → A)) : ((!b) = true → A) ∧ ((!b) = false → B) := by
  cases b with
  | true => exact ⟨fun z => (nomatch z), fun _ => h.1 rfl⟩
  | false => exact ⟨fun _ => h.2 rfl, fun z => (nomatch z)⟩
theorem i_lt (e : b = true) (h : A) : (b = true → A) ∧ (b = false → B) := ⟨fun _ => h, fun z => (by rw [e] at z; cases z)⟩
theorem i_lf (e : b = false) (h : B) : (b = true → A) ∧ (b = false → B) := ⟨fun z => (by rw [e] at z; cases z), fun _ => h⟩
end
section
variable {Q : SRes → Prop} {s : FS}
def loopK (I : Nat → FS → Prop) (i : Nat) (ex exx : FS → FS) (Q : SRes → Prop) : SRes → Prop := fun r => match r with
  | .next s2 => I (i + 1) s2
  | .cont s2 => I (i + 1) s2
  | .brk s2 => Q (.next (ex s2))
  | .ret r s2 => Q (.ret r (ex s2))
  | .exc e s2 => Q (.exc e (exx s2))
  | .stuck => False
theorem forL_w {chk : FS → Prop} {g : D → FS → Option FS} {b : SM} {ex exx : FS → FS} (I : Nat → FS → Prop) : ∀ (xs : List D) (n : Nat) (s : FS), I n s →
    (∀ i d s, xs[i]? = some d → I (n + i) s → chk s ∧ ∃ s1, g d s = some s1 ∧ wpS (b s1) (loopK I (n + i) ex exx Q)) →
    (∀ s, I (n + xs.length) s → chk s ∧ Q (.next (ex s))) → wpS ((forL chk g b xs s).map ex exx) Q
  | [], n, s, h, hs, he => by
    obtain ⟨h1, h2⟩ := he s h
    unfold forL; rw [if_pos h1]; exact h2
  | d :: ds, n, s, h, hs, he => by
    obtain ⟨h1, s1, e1, w⟩ := hs 0 d s rfl h
    unfold forL; rw [if_pos h1]; simp only [e1]
    have go : ∀ s2, I (n + 1) s2 → wpS ((forL chk g b ds s2).map ex exx) Q := fun s2 h2 => forL_w (ex := ex) (exx := exx) I ds (n + 1) s2 h2 (fun i d s hd hi => by
      have := hs (i + 1) d s hd (by rw [show n + (i + 1) = n + 1 + i by omega]; exact hi)
      rw [show n + (i + 1) = n + 1 + i by omega] at this; exact this) (fun s h => he s (by rw [List.length_cons, show n + (ds.length + 1) = n + 1 + ds.length by omega]; exact h))
    cases e : b s1 with
    | stuck => rw [e] at w; exact w.elim
    | next s2 => rw [e] at w; exact go s2 w
    | cont s2 => rw [e] at w; exact go s2 w
    | brk s2 => rw [e] at w; exact w
    | ret r s2 => rw [e] at w; exact w
    | exc ex s2 => rw [e] at w; exact w
/-- for: I i holds ahead of the i-th item -/
theorem v_for {f : M Lp} {g : D → FS → Option FS} {b : SM} (h : wp (f s) (fun lp s1 => ∃ I : Nat → FS → Prop, I 0 (lp.en s1) ∧
    (∀ i d s, lp.xs[i]? = some d → I i s → lp.chk s ∧ ∃ s1, g d s = some s1 ∧ wpS (b s1) (loopK I i lp.ex lp.exx Q)) ∧
    (∀ s, I lp.xs.length s → lp.chk s ∧ Q (.next (lp.ex s)))) (fun e s => Q (.exc e s))) : wpS (sFor f g b s) Q := by
  unfold sFor
  refine w_bindS (wp_mono h fun lp s1 ⟨I, h0, hs, he⟩ => ?_)
  exact forL_w (ex := lp.ex) (exx := lp.exx) I lp.xs 0 (lp.en s1) h0 (fun i d s hd hi => by rw [Nat.zero_add] at hi ⊢; exact hs i d s hd hi) (fun s h => he s (by rw [Nat.zero_add] at h; exact h))
end
section
variable {Q : R → FS → Prop} {X : Ex → FS → Prop} {s : FS}
abbrev XN : Ex → FS → Prop := fun _ _ => False
theorem compL_w {chk : FS → Prop} {own : List Nat} {g : D → FS → Option FS} {t : M Bool} {e : M R} {Qc : List D → FS → Prop} {N : Nat} (I : Nat → List D → FS → Prop) : ∀ (xs : List D) (n : Nat) (acc : List D) (s : FS), I n acc s → acc.length ≤ n → n + xs.length ≤ sizeLine →
    (∀ i d acc s, xs[i]? = some d → I (n + i) acc s → (chk s ∧ ownOk own s = true) ∧ ∃ s1, g d (wipeE own s) = some s1 ∧ wp (t s1) (fun b s2 => (b = true → wp (e s2) (fun r s3 => ∃ dd s4, frzR r s3 = some (dd, s4) ∧ I (n + i + 1) (acc ++ [dd]) (restE own s s4)) XN) ∧ (b = false → I (n + i + 1) acc (restE own s s2))) XN) →
    (∀ acc s, I (n + xs.length) acc s → chk s ∧ Qc acc s) → wp (compL chk own g t e xs acc s) Qc XN
  | [], n, acc, s, h, hl, hn, hs, he => by
    obtain ⟨h1, h2⟩ := he acc s h
    unfold compL; rw [if_pos h1]; exact h2
  | d :: ds, n, acc, s, h, hl, hn, hs, he => by
    obtain ⟨h1, s1, e1, w⟩ := hs 0 d acc s rfl h
    rw [List.length_cons] at hn
    unfold compL; rw [if_pos h1]; simp only [e1]
    have go : ∀ acc2 s2, I (n + 1) acc2 s2 → acc2.length ≤ n + 1 → wp (compL chk own g t e ds acc2 s2) Qc XN := fun acc2 s2 h2 hl2 => compL_w (N := N) I ds (n + 1) acc2 s2 h2 hl2 (by omega) (fun i d acc s hd hi => by
      have := hs (i + 1) d acc s hd (by rw [show n + (i + 1) = n + 1 + i by omega]; exact hi)
      rw [show n + (i + 1) = n + 1 + i by omega] at this; exact this) (fun acc s h => he acc s (by rw [List.length_cons, show n + (ds.length + 1) = n + 1 + ds.length by omega]; exact h))
    cases et : t s1 with
    | stuck => rw [et] at w; exact w.elim
    | exc _ _ => rw [et] at w; exact w.elim
    | ok b s2 =>
      rw [et] at w
      cases b with
      | false => exact go acc _ (w.2 rfl) (by omega)
      | true =>
        have w2 := w.1 rfl
        simp only [if_true]
        cases ee : e s2 with
        | stuck => rw [ee] at w2; exact w2.elim
        | exc _ _ => rw [ee] at w2; exact w2.elim
        | ok r s3 =>
          rw [ee] at w2
          obtain ⟨dd, s4, e4, w4⟩ := w2
          simp only [e4]
          rw [if_pos (by omega)]
          exact go _ _ w4 (by rw [List.length_append, List.length_singleton]; omega)
/-- [e for ..]: I i acc holds ahead of the i-th item -/
theorem w_lc {f : M Lp} {own : List Nat} {g : D → FS → Option FS} {t : M Bool} {e : M R} (h : wp (f s) (fun lp s1 => lp.xs.length ≤ sizeLine ∧ ∃ I : Nat → List D → FS → Prop, I 0 [] (lp.en s1) ∧
    (∀ i d acc s, lp.xs[i]? = some d → I i acc s → (lp.chk s ∧ ownOk own s = true) ∧ ∃ s1, g d (wipeE own s) = some s1 ∧ wp (t s1) (fun b s2 => (b = true → wp (e s2) (fun r s3 => ∃ dd s4, frzR r s3 = some (dd, s4) ∧ I (i + 1) (acc ++ [dd]) (restE own s s4)) XN) ∧ (b = false → I (i + 1) acc (restE own s s2))) XN) ∧
    (∀ acc s, I lp.xs.length acc s → lp.chk s ∧ Q (.tmp (.lst acc)) (lp.ex s))) X) : wp (eLc f own g t e s) Q X := by
  unfold eLc
  refine w_bind (wp_mono h fun lp s1 ⟨hl, I, h0, hs, he⟩ => ?_)
  have w := compL_w (chk := lp.chk) (own := own) (g := g) (t := t) (e := e) (Qc := fun acc s => Q (.tmp (.lst acc)) (lp.ex s)) (N := 0) I lp.xs 0 [] (lp.en s1) h0 (Nat.le_refl _) (by omega) (fun i d acc s hd hi => by rw [Nat.zero_add] at hi ⊢; exact hs i d acc s hd hi) (fun acc s h => he acc s (by rw [Nat.zero_add] at h; exact h))
  cases ec : compL lp.chk own g t e lp.xs [] (lp.en s1) with
  | stuck => rw [ec] at w; exact w.elim
  | exc _ _ => rw [ec] at w; exact w.elim
  | ok acc s2 => rw [ec] at w; exact w
/-- [e for ..] that changes nothing: each item gives φ's -/
theorem w_lc_map {f : M Lp} {own : List Nat} {g : D → FS → Option FS} {t : M Bool} {e : M R} (φ : D → Option D) (h : wp (f s) (fun lp s1 => lp.xs.length ≤ sizeLine ∧ (lp.chk (lp.en s1) ∧ ownOk own (lp.en s1) = true) ∧
    (∀ d, d ∈ lp.xs → ∃ s2, g d (wipeE own (lp.en s1)) = some s2 ∧ wp (t s2) (fun b s3 => (b = true → wp (e s3) (fun r s4 => ∃ dd s5, frzR r s4 = some (dd, s5) ∧ φ d = some dd ∧ restE own (lp.en s1) s5 = lp.en s1) XN) ∧ (b = false → φ d = none ∧ restE own (lp.en s1) s3 = lp.en s1)) XN) ∧
    Q (.tmp (.lst (lp.xs.filterMap φ))) (lp.ex (lp.en s1))) X) : wp (eLc f own g t e s) Q X := by
  refine w_lc (wp_mono h fun lp s1 ⟨hl, hc, hs, he⟩ => ⟨hl, fun i acc s => s = lp.en s1 ∧ acc = (lp.xs.take i).filterMap φ, ⟨rfl, rfl⟩, fun i d acc s hd hi => ?_, fun acc s hi => ?_⟩)
  · obtain ⟨rfl, rfl⟩ := hi
    refine ⟨hc, ?_⟩
    obtain ⟨s2, e2, w⟩ := hs d (List.mem_of_getElem? hd)
    have ht : lp.xs.take (i + 1) = lp.xs.take i ++ [d] := by
      rw [List.take_add_one, hd]; rfl
    refine ⟨s2, e2, wp_mono w fun b s3 hb => ⟨fun z => wp_mono (hb.1 z) fun r s4 ⟨dd, s5, h1, h2, h3⟩ => ⟨dd, s5, h1, h3, ?_⟩, fun z => ⟨(hb.2 z).2, ?_⟩⟩⟩
    · rw [ht, List.filterMap_append]; simp [h2]
    · rw [ht, List.filterMap_append]; simp [(hb.2 z).1]
  · obtain ⟨rfl, rfl⟩ := hi
    rw [List.take_length]
    exact ⟨hc.1, he⟩
def anyQ (r : R) (s : FS) (Q : Lp → FS → Prop) : Prop := match r with
  | .val (.tup xs) => Q { xs := xs } s
  | .val (.frz xs) => Q { xs := xs } s
  | r => match seqL s r with
    | some xs => Q { xs := xs, chk := keepL r xs, en := lockV r, ex := unlockV r s } s
    | none => False
theorem w_any {f : M R} {Q : Lp → FS → Prop} (h : wp (f s) (fun r s1 => anyQ r s1 Q) X) : wp (iAny f s) Q X := by
  unfold iAny
  cases e : f s with
  | stuck => rw [e] at h; exact h.elim
  | exc ex s1 => rw [e] at h; unfold iL; rw [e]; exact h
  | ok r s1 =>
    rw [e] at h
    have h' : anyQ r s1 Q := h
    have gen : (∀ xs, r ≠ .val (.tup xs)) → (∀ xs, r ≠ .val (.frz xs)) → wp (iL f s) Q X := fun h1 h2 => by
      have h3 : (match seqL s1 r with | some xs => Q { xs := xs, chk := keepL r xs, en := lockV r, ex := unlockV r s1 } s1 | none => False) := by
        unfold anyQ at h'
        split at h'
        · exact absurd rfl (h1 _)
        · exact absurd rfl (h2 _)
        · exact h'
      unfold iL; rw [e]
      show wp (match seqL s1 r with | some xs => _ | none => _) Q X
      cases eq : seqL s1 r with
      | none => rw [eq] at h3; exact h3.elim
      | some xs => rw [eq] at h3; exact h3
    cases r with
    | val d =>
      cases d with
      | tup xs => show wp (iT f s) Q X; unfold iT; rw [e]; exact h'
      | frz xs => show wp (iZ f s) Q X; unfold iZ; rw [e]; exact h'
      | _ => exact gen (fun _ z => nomatch z) (fun _ z => nomatch z)
    | _ => exact gen (fun _ z => nomatch z) (fun _ z => nomatch z)
end
section
variable {X : Ex → FS → Prop} {s : FS} {Q : Lp → FS → Prop}
theorem w_r1 {f : M (List R)} (h : wp (f s) (fun rs s1 => ∃ j : Int, rs = [.val (.int j)] ∧ (-(2 ^ 62) ≤ j ∧ j < 2 ^ 62) ∧ Q { xs := rgD 0 j.toNat } s1) X) : wp (iR1 f s) Q X := by
  unfold iR1
  refine w_bind (wp_mono h fun rs s1 ⟨j, e, hj, q⟩ => ?_)
  subst e
  simp only [asI, if_pos hj]; exact q
theorem rgD_len {lo : Int} {n : Nat} : (rgD lo n).length = n := by unfold rgD; rw [List.length_map, List.length_range]
theorem rgD_get {lo : Int} {n i : Nat} {d : D} (h : (rgD lo n)[i]? = some d) : i < n ∧ d = .int (lo + i) := by
  have hi : i < n := by
    have := (List.getElem?_eq_some_iff.mp h).1
    rw [rgD_len] at this; exact this
  unfold rgD at h
  rw [List.getElem?_map, List.getElem?_range hi] at h
  cases h
  exact ⟨hi, rfl⟩
end
theorem x_frz {rs : List R} {s s2 : FS} {ds : List D} {P : List D → FS → Prop} (h1 : frzAll rs s = some (ds, s2)) (h2 : Nat.ble ds.length 64 = true) (q : P ds s2) : ∃ ds s2, frzAll rs s = some (ds, s2) ∧ ds.length ≤ sizeLine ∧ P ds s2 :=
  ⟨ds, s2, h1, Nat.le_trans (Nat.le_of_ble_eq_true h2) (by decide), q⟩
theorem x_call {og : List R} {cs : List C} {s s2 : FS} {r r' : R} {P : FS → R → Prop} (h1 : backW og cs s = some s2) (h2 : resR og cs r = some r') (q : P s2 r') : ∃ s2 r', backW og cs s = some s2 ∧ resR og cs r = some r' ∧ P s2 r' := ⟨s2, r', h1, h2, q⟩
theorem x_back {og : List R} {cs : List C} {s s2 : FS} {P : FS → Prop} (h1 : backW og cs s = some s2) (q : P s2) : ∃ s2, backW og cs s = some s2 ∧ P s2 := ⟨s2, h1, q⟩
theorem x_it {v o i : R} {s s4 s5 : FS} {d : D} {P : FS → Prop} (h1 : frzR v s = some (d, s4)) (h2 : setItem o i d s4 = some s5) (q : P s5) : ∃ d s4 s5, frzR v s = some (d, s4) ∧ setItem o i d s4 = some s5 ∧ P s5 := ⟨d, s4, s5, h1, h2, q⟩
theorem x_ty {s : FS} {r : R} {a : String} {P : String → Prop} (h : tyD s r = some a) (q : P a) : ∃ a, tyD s r = some a ∧ P a := ⟨a, h, q⟩
theorem x_frz1 {r : R} {s s4 : FS} {d : D} {P : D → FS → Prop} (h : frzR r s = some (d, s4)) (q : P d s4) : ∃ d s4, frzR r s = some (d, s4) ∧ P d s4 := ⟨d, s4, h, q⟩
theorem x_r1 {j : Int} {P : Int → Prop} (h : -(2 ^ 62) ≤ j ∧ j < 2 ^ 62) (q : P j) : ∃ i : Int, [R.val (.int j)] = [R.val (.int i)] ∧ (-(2 ^ 62) ≤ i ∧ i < 2 ^ 62) ∧ P i := ⟨j, rfl, h, q⟩
theorem x_r2 {i j : Int} {P : Int → Int → Prop} (h : -(2 ^ 62) ≤ i ∧ i < 2 ^ 62 ∧ -(2 ^ 62) ≤ j ∧ j < 2 ^ 62) (q : P i j) : ∃ i' j' : Int, [R.val (.int i), R.val (.int j)] = [R.val (.int i'), R.val (.int j')] ∧ (-(2 ^ 62) ≤ i' ∧ i' < 2 ^ 62 ∧ -(2 ^ 62) ≤ j' ∧ j' < 2 ^ 62) ∧ P i' j' := ⟨i, j, rfl, h, q⟩
end VL
set_option maxRecDepth 100000
set_option maxHeartbeats 4000000
namespace VL
open PySem PySem.Spec L2
open PyProof.Rows hiding St
theorem atI_nat' {α : Type} {xs : List α} {i : Int} (h : 0 ≤ i) (h2 : i < xs.length) : atI xs i = some (xs[i.toNat]'(by omega)) := by
  unfold atI ixN
  rw [if_pos h, if_pos h2]
  show xs[i.toNat]? = _
  exact List.getElem?_eq_getElem _
theorem atI_ints {xs : List Int} {i : Int} (h : 0 ≤ i) (h2 : i < xs.length) : atI (xs.map D.int) i = some (.int (xs[i.toNat]'(by omega))) := by
  rw [atI_nat' h (by rw [List.length_map]; exact h2)]
  simp
/-- the law's tape: cells, place, number, two counts -/
def TapeOk (c : C) : Prop := ∃ (ms : List Int) (p v k t : Int), c = .lst [.lst (ms.map D.int), .int p, .int v, .int k, .int t] ∧ 0 ≤ p ∧ p < ms.length
def mapI (φ : Int → Int) : D → Option D
  | .int i => some (.int (φ i))
  | _ => none
theorem mapI_ints {φ : Int → Int} {ns : List Int} : (ns.map D.int).filterMap (mapI φ) = (ns.map φ).map D.int := by
  induction ns with
  | nil => rfl
  | cons n ns ih => rw [List.map_cons, List.filterMap_cons]; simp only [mapI, List.map_cons]; rw [ih]
end VL
set_option maxRecDepth 100000
set_option maxHeartbeats 4000000
namespace VL
open PySem PySem.Spec L2
open PyProof.Rows hiding St
/-- a law at the head's heap -/
theorem lawAt {l : PySem.W.OpenLaw} {w : World} {K : PySem.W.Frag} {mg : Str → Option Value} {h : Heap} {fa : Addr} {k n : Nat} {d : Den} {x y : Str} (hfa : mg y = some (.ref fa))
    (O : ∀ base, ∃ fd, Okk l.prog w K mg base k y [x] d fd) (hd : ∀ ns : List Int, ns.length ≤ n → (∀ z ∈ ns, Builtin.Int.intBits z ≤ 1048576) → wpD (d [.val (.frz (ns.map D.int))] [] []) (fun r _ _ => r = .val (.bl true)) X0) : LamX.LawAtS l w K (L2.CX l.prog w) k n x mg fa h := by
  obtain ⟨fd, O1⟩ := O h
  have e : fa = He.ga K y := by have := hfa.symm.trans O1.m; cases this; rfl
  subst e
  refine ⟨fd, [], spOf K d, (fun p hp => nomatch hp), (fun p hp => nomatch hp), (fun p hp => nomatch hp), fun s u => O1.bt s [u] rfl, fun H a ns hl hbits _ hS => ?_, fun base _ _ _ => ?_⟩
  · have z := hd ns hl hbits
    cases e : d [.val (.frz (ns.map D.int))] [] [] with
    | stuck => rw [e] at z; exact z.elim
    | exc _ _ _ => rw [e] at z; exact z.elim
    | ok r cs g =>
      rw [e] at z
      have z' : r = .val (.bl true) := z
      subst z'
      exact spOf_law hS ⟨cs, g, e⟩
  · obtain ⟨fd', O2⟩ := O base
    obtain ⟨_, _, _, h1⟩ := O1.u
    obtain ⟨_, _, _, h2⟩ := O2.u
    have := h1.symm.trans h2
    cases this
    exact O2.F
end VL
set_option maxRecDepth 100000
set_option maxHeartbeats 4000000
namespace VL
open PySem PySem.Spec L2
open PyProof.Rows hiding St
def stuckDen : Den := fun _ _ _ => .stuck
theorem fnOk_stuck {P : Program} {w : World} {K : PySem.W.Frag} {mg : Str → Option Value} {base : Heap} {CX : CXT} {k : Nat} {f : Addr} {fd : FuncData} {ps : List Str} : FnOk P w K mg base CX k f fd ps (spOf K stuckDen) :=
  ⟨fun vs H Q E ⟨_, _, _, _, _, _, p⟩ => p.elim, fun A outer s H args us vs Q E _ _ _ _ ⟨_, _, _, _, _, _, p⟩ => p.elim⟩
def hasT (T : String) (s : FS) (r : R) : Bool := if T = "list" then (seqL s r).isSome else if T = "dict" then (dctW s r).isSome else if T = "str" then (asS r).isSome else false
def eM (T : String) (k : List R → M R) (fo : M R) (fa : M (List R)) : M R := fun s => (fo s).bind fun o s1 => if hasT T s1 o = true then (fa s1).bind fun rs s2 => k (o :: rs) s2 else .stuck
def OpM (K : PySem.W.Frag) (r : V → List V → Hp → VK → Prop) (k : List R → M R) : Prop := ∀ (W : WX) (σ : St) (m : Mp) (s : FS) (H : Hp) (v : V) (vs : List V) (o : R) (rs : List R) (Q : VK), Rel K m σ H s → RepRs K σ H m (v :: vs) (o :: rs) → Post K W m σ (k (o :: rs) s) (RpE K σ) Q → r v vs H Q
theorem hasT_ok {K : PySem.W.Frag} {m : Mp} {σ : St} {H : Hp} {s : FS} {v : V} {r : R} {T : String} (x : Rel K m σ H s) (p : RepR K m σ H v r) (h : hasT T s r = true) : tyV K T v H := by
  unfold hasT at h
  split at h
  · rename_i e
    obtain ⟨xs, e1⟩ := Option.isSome_iff_exists.mp h
    obtain ⟨a, vs, rfl, ha, ra⟩ := seqL_ok x p e1
    exact .inl ⟨e, vs, SqL.of ha⟩
  · split at h
    · rename_i e
      obtain ⟨xs, e1⟩ := Option.isSome_iff_exists.mp h
      obtain ⟨a, vs, rfl, ha, ra⟩ := dctW_ok x p e1
      exact .inr (.inr (.inl ⟨e, .inl ⟨vs, ha⟩⟩))
    · split at h
      · rename_i e
        obtain ⟨xs, e1⟩ := Option.isSome_iff_exists.mp h
        rw [asS_ok p e1]
        exact e
      · cases h
section
variable {X : Cx} {W : WX} {o e : Expr} {es : List Expr} {fo : M R} {fa : M (List R)} {name : Str} {apos cpos : Pos} {T id : String} {r : V → List V → Hp → VK → Prop} {k : List R → M R}
theorem se_meth (pa : PlainAttrs T) (slot : Slot T name id) (hty : typeOf (.builtin id) = pure (.type "method_descriptor")) (hm : MtR X id r) (hk : OpM X.K r k) (ho : PE X o (toE X.K W fo)) (ha : PA X (e :: es) (toA X.K W fa))
    (hbase : attributeBase o name X.env (eval o X.env) = eval o X.env := by rfl)
    (hfew : ((backTo cpos (starEach (e :: es) X.env)).all (fun x => !x.1) && (backToKw cpos (keywordEach [] X.env)).all (fun x => x.1.isSome)
      && decide ((e :: es).length + ([] : List Keyword).length + (if ([] : List Keyword).isEmpty then 0 else 1) < 30)) = true := by rfl)
    (hline : (apos.endLine == cpos.line) = true := by rfl) (hs : starEach (e :: es) X.env = (false, eval e X.env) :: starEach es X.env := by rfl) (hplain : (backTo cpos (starEach es X.env)).any (·.1) = false := by rfl) :
    PE X (.Call (.Attribute o name apos) (e :: es) [] cpos) (toE X.K W (eM T k fo fa)) :=
  PE_imp (pe_bm pa slot hty hm ho ha hbase hfew hline hs hplain) fun σ H Q h => by
    show toE X.K W fo σ H fun x H1 => tyV X.K T x H1 ∧ toA X.K W fa σ H1 fun xs H2 => r x xs H2 Q
    refine one h fun m s H v ro x p q => ?_
    split at q
    · rename_i hh
      exact ⟨hasT_ok x p hh, thenA (k := fun rs s2 => k (ro :: rs) s2) (R' := fun xs H2 => r v xs H2 Q) x p q (fun _ _ _ _ => rfl) fun m s H vs rs x p q => hk W σ m s H v vs ro rs Q x p q⟩
    · exact q.elim
end
/-- o holds c now, and gives back r -/
def putOk (s : FS) (o : R) (c : C) (r : R) : Res R := match put s o c with
  | some s2 => .ok r s2
  | none => .stuck
def isTmp : R → Bool
  | .tmp _ => true
  | _ => false
def kApp : List R → M R := fun rs s => match rs with
  | [o, y] => match frzR y s with
    | some (d, s1) => match cont s1 o with
      | some (.lst xs) => if xs.length < sizeLine ∧ isTmp o = false then putOk s1 o (.lst (xs ++ [d])) (.val .non) else .stuck
      | _ => .stuck
    | none => .stuck
  | _ => .stuck
def kPopAt : List R → M R := fun rs s => match rs with
  | [o, i] => match cont s o, asI i with
    | some (.lst xs), some i => if xs.length ≤ sizeLine then (match ixN xs.length i with
      | some k => match xs[k]? with
        | some d => putOk s o (.lst (xs.eraseIdx k)) (.val d)
        | none => .stuck
      | none => .stuck) else .stuck
    | _, _ => .stuck
  | _ => .stuck
section
variable {K : PySem.W.Frag} {W : WX} {m : Mp} {σ : St} {H : Hp} {s : FS} {Q : VK} {P : Hp} {io : Nat → Addr} {n : Nat}
theorem RepDs.erase : ∀ {vs : List V} {ds : List D} (i : Nat), RepDs K P io n vs ds → RepDs K P io n (vs.eraseIdx i) (ds.eraseIdx i)
  | _, _, _, .nil => .nil
  | _, _, 0, .cons a r => r
  | _, _, i + 1, .cons a r => .cons a (RepDs.erase i r)
theorem cont_lst {v : V} {o : R} {xs : List D} (x : Rel K m σ H s) (p : RepR K m σ H v o) (e : cont s o = some (.lst xs)) : ∃ a vs, v = .ref a ∧ H a = some (.lst vs) ∧ RDs K m vs xs := seqL_ok x p (by unfold seqL; rw [e])
theorem putOk_ok {v : V} {o r : R} {c0 c : C} {u : HO} (x : Rel K m σ H s) (p : RepR K m σ H v o) (e0 : cont s o = some c0) (rc : RepC K m u c) (q : Post K W m σ (putOk s o c r) (RpE K σ) Q) : ∃ a, v = .ref a ∧ ∀ w, (∀ σ H, RepR K m σ H w r) → Q w (upd H a u) := by
  unfold putOk at q
  cases e : put s o c with
  | none => rw [e] at q; exact q.elim
  | some s2 =>
    rw [e] at q
    obtain ⟨a, rfl, x2⟩ := Rel.put x p e0 e rc
    exact ⟨a, rfl, fun w hw => post_val x2 q (hw _ _)⟩
theorem putOkL {us : List V} {ds : List D} {v : V} {o r : R} {c0 : C} (x : Rel K m σ H s) (p : RepR K m σ H v o) (e0 : cont s o = some c0) (rd : RDs K m us ds) (q : Post K W m σ (putOk s o (.lst ds) r) (RpE K σ) Q) : ∃ a, v = .ref a ∧ ∀ w, (∀ σ H, RepR K m σ H w r) → Q w (upd H a (.lst us)) :=
  putOk_ok (u := .lst us) (c := .lst ds) x p e0 ⟨_, rfl, rd⟩ q
theorem RepR_unlk {b v : V} {o r : R} (p : RepR K m σ H b o) (z : RepR K (lk m b o H) σ H v r) : RepR K m σ H v r := by
  cases r with
  | val d => exact RepD.mono (fun a o h => by rw [lk_P] at h; exact h) (Nat.le_of_eq lk_n) (fun k _ => by rw [lk_io]) z
  | tmp cc =>
    obtain ⟨a', e1, h1, h2, h3, o', h4, h5⟩ := z
    rw [lk_O] at h1
    rw [lk_P] at h2
    refine ⟨a', e1, h1, h2, ?_, o', h4, RepC.mono (m := lk m b o H) (m' := m) ⟨fun a o h => by rw [lk_P] at h; exact h, Nat.le_of_eq lk_n, fun k _ => by rw [lk_io]⟩ h5⟩
    cases o with
    | tmp c3 =>
      obtain ⟨b', e2, _⟩ := p
      subst e2
      have h3' : (if a' = b' then H b' else m.L a') = none := h3
      by_cases hab : a' = b'
      · rw [if_pos hab, ← hab, h4] at h3'; cases h3'
      · rw [if_neg hab] at h3'; exact h3'
    | _ => cases b <;> exact h3
  | var i => exact z
  | pc n => show _ = V.ref (m.al n); have z' : v = V.ref ((lk m b o H).al n) := z; rw [lk_al] at z'; exact z'
  | ic k j => obtain ⟨z1, z2, z3⟩ := z; rw [lk_ic] at z1; rw [lk_n] at z2; rw [lk_nc] at z3; exact ⟨z1, z2, z3⟩
theorem RepR_lk {b v : V} {o r : R} (p : RepR K m σ H b o) (z : RepR K m σ H v r) (hn : ∀ c, o = .tmp c → ∀ c', r ≠ .tmp c') : RepR K (lk m v r H) σ H b o := by
  cases o with
  | val d => exact RepD.mono (fun a o h => by rw [lk_P]; exact h) (Nat.le_of_eq lk_n.symm) (fun k _ => by rw [lk_io]) p
  | tmp c =>
    have : lk m v r H = m := by
      cases r with
      | tmp c' => exact absurd rfl (hn c rfl c')
      | _ => cases v <;> rfl
    rw [this]; exact p
  | var i => exact p
  | pc n => show _ = V.ref ((lk m v r H).al n); rw [lk_al]; exact p
  | ic k j => obtain ⟨z1, z2, z3⟩ := p; exact ⟨by rw [lk_ic]; exact z1, by rw [lk_n]; exact z2, by rw [lk_nc]; exact z3⟩
end
section
variable {K : PySem.W.Frag}
theorem n_app : OpM K rAppend kApp := by
  intro W σ m s H v vs o rs Q x p q
  match rs, vs, p, q with
  | [ry], [y], p, q =>
    simp only [kApp] at q
    cases e : frzR ry s with
    | none => rw [e] at q; exact q.elim
    | some z =>
      obtain ⟨d, s1⟩ := z
      rw [e] at q
      simp only [] at q
      cases e1 : cont s1 o with
      | none => rw [e1] at q; exact q.elim
      | some c =>
        rw [e1] at q
        cases c with
        | dct kvs => exact q.elim
        | lkd kvs => exact q.elim
        | lst xs =>
          simp only [] at q
          split at q
          · rename_i hl
            have py := RepR_unlk p.1 p.2.1
            obtain ⟨m1, l1, x1, r1, sm⟩ := py.frz x e
            have po : RepR K m1 σ H v o := (RepR_lk p.1 py fun c eo => by rw [eo] at hl; exact absurd hl.2 (by simp [isTmp])).sim sm
            obtain ⟨a, us, ea, ha, ra⟩ := cont_lst x1 po e1
            obtain ⟨b, eb, qq⟩ := putOkL x1 po e1 (RepDs.append ra (.cons r1 .nil)) (Post_mono l1 q)
            subst ea
            cases eb
            exact ⟨a, us, y, rfl, rfl, ha, by rw [ra.length]; exact hl.1, qq .non fun _ _ => .non⟩
          · exact q.elim
  | [], _, p, q => exact q.elim
  | _ :: _ :: _, _, p, q => exact q.elim
  | [_], [], p, q => exact p.2.elim
  | [_], _ :: _ :: _, p, q => exact p.2.2.elim
end
theorem x_has {T : String} {s : FS} {r : R} {P : Prop} (h : hasT T s r = true) (q : P) : hasT T s r = true ∧ P := ⟨h, q⟩
section
variable {Q : R → FS → Prop} {X : Ex → FS → Prop} {s : FS}
theorem w_m {T : String} {k : List R → M R} {fo : M R} {fa : M (List R)} (h : wp (fo s) (fun o s1 => hasT T s1 o = true ∧ wp (fa s1) (fun rs s2 => wp (k (o :: rs) s2) Q X) X) X) : wp (eM T k fo fa s) Q X := by
  unfold eM
  refine w_bind (wp_mono h fun o s1 ⟨h1, h2⟩ => ?_)
  rw [if_pos h1]
  exact w_bind h2
theorem w_app {o y : R} {d : D} {s1 s2 : FS} {xs : List D} (e : frzR y s = some (d, s1)) (e1 : cont s1 o = some (.lst xs)) (h : xs.length < sizeLine) (ht : isTmp o = false) (e2 : put s1 o (.lst (xs ++ [d])) = some s2) (q : Q (.val .non) s2) : wp (kApp [o, y] s) Q X := by
  simp only [kApp, e, e1, if_pos (show _ ∧ _ from ⟨h, ht⟩), putOk, e2]; exact q
theorem w_popi {o : R} {s2 : FS} {xs : List D} {d : D} {i : Int} {k : Nat} (e1 : cont s o = some (.lst xs)) (hl : xs.length ≤ sizeLine) (ek : ixN xs.length i = some k) (e : xs[k]? = some d) (e2 : put s o (.lst (xs.eraseIdx k)) = some s2) (q : Q (.val d) s2) : wp (kPopAt [o, .val (.int i)] s) Q X := by
  simp only [kPopAt, asI, e, e1, if_pos hl, ek, putOk, e2]; exact q
end
end VL
set_option maxRecDepth 100000
set_option maxHeartbeats 4000000
namespace VL
open PySem PySem.Spec L2
open PyProof.Rows hiding St
/-- the items of a list, a tuple, the script -/
def seqA (s : FS) (r : R) : Option (List D) := match r with
  | .val (.tup xs) => some xs
  | .val (.frz xs) => some xs
  | r => seqL s r
def kListOf : R → M R := fun a s => match seqA s a with
  | some xs => .ok (.tmp (.lst xs)) s
  | none => .stuck
def kTupOf : R → M R := fun a s => match a with
  | .val (.tup xs) => .ok (.val (.tup xs)) s
  | _ => match seqA s a with
    | some xs => .ok (.val (.tup xs)) s
    | none => .stuck
section
variable {K : PySem.W.Frag} {m : Mp} {σ : St} {H : Hp} {s : FS} {v : V} {r : R}
theorem seqA_ok {xs : List D} (x : Rel K m σ H s) (p : RepR K m σ H v r) (e : seqA s r = some xs) : ∃ a vs, v = .ref a ∧ (SqL K H a vs ∨ SqT K H a vs) ∧ RDs K m vs xs := by
  have gen : seqL s r = some xs → ∃ a vs, v = .ref a ∧ (SqL K H a vs ∨ SqT K H a vs) ∧ RDs K m vs xs := fun e => by
    obtain ⟨a, vs, rfl, ha, ra⟩ := seqL_ok x p e
    exact ⟨a, vs, rfl, .inl (SqL.of ha), ra⟩
  unfold seqA at e
  split at e
  · cases e
    cases p with
    | tup ha ra => exact ⟨_, _, rfl, .inr (SqT.of (x.pers _ _ ha)), ra⟩
  · cases e
    cases p with
    | frz ha ra => exact ⟨_, _, rfl, .inl (sqL_mono x.pers ha), ra⟩
  · exact gen e
theorem n_listOf : OpN K (fun xs H Q => ∃ p ys, xs = [.ref p] ∧ (SqL K H p ys ∨ SqT K H p ys) ∧ ∀ l, H l = none → Q (.ref l) (upd H l (.lst ys))) (k1 kListOf) := opN1 fun W σ m s H v r Q x p q => by
  unfold kListOf at q
  cases e : seqA s r with
  | none => rw [e] at q; exact q.elim
  | some xs =>
    rw [e] at q
    obtain ⟨a, vs, rfl, ha, ra⟩ := seqA_ok x p e
    exact ⟨a, vs, rfl, ha, fun l n => post_tmp x q n ⟨_, rfl, ra⟩⟩
end
section
variable {Q : R → FS → Prop} {X : Ex → FS → Prop} {s : FS}
theorem w_listOf {a : R} {xs : List D} (h : seqA s a = some xs) (q : Q (.tmp (.lst xs)) s) : wp (kListOf a s) Q X := by
  unfold kListOf; rw [h]; exact q
theorem w_tupOf {a : R} {xs : List D} (h : seqA s a = some xs) (q : Q (.val (.tup xs)) s) : wp (kTupOf a s) Q X := by
  unfold kTupOf
  split
  · cases h; exact q
  · rw [h]; exact q
end
def intsOf : List D → Option (List Int)
  | [] => some []
  | .int i :: ds => match intsOf ds with
    | some ns => some (i :: ns)
    | none => none
  | _ => none
theorem intsOf_map {ns : List Int} : intsOf (ns.map D.int) = some ns := by
  induction ns with
  | nil => rfl
  | cons n ns ih => simp only [List.map_cons, intsOf, ih]
theorem intsOf_eq : ∀ {ds : List D} {ns : List Int}, intsOf ds = some ns → ds = ns.map D.int
  | [], ns, h => by cases h; rfl
  | d :: ds, ns, h => by
    cases d with
    | int i =>
      simp only [intsOf] at h
      cases e : intsOf ds with
      | none => rw [e] at h; cases h
      | some ms => rw [e] at h; cases h; rw [intsOf_eq e]; rfl
    | _ => cases h
end VL
set_option maxRecDepth 100000
set_option maxHeartbeats 4000000
namespace VL
open PySem PySem.Spec L2
open PyProof.Rows hiding St
/-- what is known of these classes: plain, no class attribute of the name -/
def ClsOk (K : PySem.W.Frag) (cl : List Str) (f : Str) : Prop := ∀ c, c ∈ cl → c ≠ boxN ∧ Cls K (He.ga K c) ∧ NoAttr K (He.ga K c) f
def fldR (k : Nat) : F → R
  | .val d => .val d
  | .cell j => .ic k j
def eFld (cl : List Str) (f : Str) (fo : M R) : M R := fun s => (fo s).bind fun o s1 => match o with
  | .val (.ins k) => match s1.g[k]? with
    | some I => if I.cls ∈ cl then (match I.fs.lookup f with
      | some x => .ok (fldR k x) s1
      | none => .stuck) else .stuck
    | none => .stuck
  | _ => .stuck
section
variable {K : PySem.W.Frag} {m : Mp} {σ : St} {H : Hp} {s : FS} {v : V}
theorem RepF.look {k : Nat} {f : Str} : ∀ {vs : List (Str × V)} {fs : List (Str × F)} {x : F}, RepF K m k vs fs → fs.lookup f = some x → ∃ v, vs.lookup f = some v ∧ RepF1 K m k v x
  | [], [], x, _, h => by cases h
  | (a, v) :: vs, (b, y) :: fs, x, r, h => by
    obtain ⟨e, r1, r2⟩ := r
    subst e
    rw [List.lookup_cons] at h ⊢
    cases q : (f == a) with
    | true => rw [q] at h; cases h; exact ⟨v, rfl, r1⟩
    | false => rw [q] at h; exact RepF.look r2 h
  | [], _ :: _, x, r, _ => r.elim
  | _ :: _, [], x, r, _ => r.elim
end
theorem se_fld {X : Cx} {W : WX} {e : Expr} {fo : M R} {f : Str} {pos : Pos} {cl : List Str} (hk : ClsOk X.K cl f) (he : PE X e (toE X.K W fo)) (hb : attributeBase e f X.env (eval e X.env) = eval e X.env := by rfl) : PE X (.Attribute e f pos) (toE X.K W (eFld cl f fo)) :=
  PE_imp (pe_fld he hb) fun σ H Q h => by
    refine one h fun m s H v r x p q => ?_
    cases r with
    | val d =>
      cases d with
      | ins k =>
        simp only [] at q
        cases e1 : s.g[k]? with
        | none => rw [e1] at q; exact q.elim
        | some I =>
          rw [e1] at q
          simp only [] at q
          split at q
          · rename_i hc
            cases e2 : I.fs.lookup f with
            | none => rw [e2] at q; exact q.elim
            | some y =>
              rw [e2] at q
              obtain ⟨o1, o2, ⟨fs, hf, rf⟩, _⟩ := (x.ins k I e1).real (hk _ hc).1
              obtain ⟨w, hw, rw1⟩ := RepF.look rf e2
              have hk2 : k < m.n := by rw [x.cnt]; exact (List.getElem?_eq_some_iff.mp e1).1
              cases p with
              | ins _ =>
                refine ⟨_, _, _, fs, w, rfl, hf, (hk _ hc).2.1, (hk _ hc).2.2, hw, post_val x q ?_⟩
                cases y with
                | val d => exact rw1
                | cell j => exact ⟨rw1.1, hk2, rw1.2⟩
          · exact q.elim
      | _ => exact q.elim
    | _ => exact q.elim
section
variable {Q : R → FS → Prop} {X : Ex → FS → Prop} {s : FS}
theorem w_fld {cl : List Str} {f : Str} {fo : M R} (h : wp (fo s) (fun o s1 => ∃ k I x, o = .val (.ins k) ∧ s1.g[k]? = some I ∧ I.cls ∈ cl ∧ I.fs.lookup f = some x ∧ Q (fldR k x) s1) X) : wp (eFld cl f fo s) Q X := by
  unfold eFld
  refine w_bind (wp_mono h fun o s1 ⟨k, I, x, e, e1, hc, e2, q⟩ => ?_)
  subst e
  simp only [e1, if_pos hc, e2]; exact q
end
end VL
set_option maxRecDepth 100000
set_option maxHeartbeats 4000000
namespace VL
open PySem PySem.Spec L2
open PyProof.Rows hiding St
def adM (m : Mp) (x dx : Addr) : Mp := { m with
  O := fun a => if a = x then some (.ins m.n) else if a = dx then some (.idc m.n) else m.O a
  n := m.n + 1
  io := fun k => if k = m.n then x else m.io k
  dx := fun k => if k = m.n then dx else m.dx k
  nc := fun k => if k = m.n then 0 else m.nc k }
section
variable {K : PySem.W.Frag} {m : Mp} {σ : St} {H : Hp} {s : FS} {x dx : Addr}
theorem adM_le : m.le (adM m x dx) := by
  refine ⟨fun _ _ h => h, rfl, rfl, Nat.le_succ _, fun k h => ?_, fun k h => ?_, fun k j h h' => rfl, rfl, rfl⟩
  · show (if k = m.n then x else m.io k) = m.io k
    rw [if_neg (by omega)]
  · show m.nc k ≤ if k = m.n then 0 else m.nc k
    rw [if_neg (by omega)]; exact Nat.le_refl _
theorem adM_O {a : Addr} {w : Own} (hx : m.O x = none) (hd : m.O dx = none) (h : m.O a = some w) : (adM m x dx).O a = some w := by
  show (if a = x then some (Own.ins m.n) else if a = dx then some (Own.idc m.n) else m.O a) = some w
  rw [if_neg fun z => ?_, if_neg fun z => ?_]
  · exact h
  · rw [z, hd] at h; cases h
  · rw [z, hx] at h; cases h
theorem Rel.adopt {cls : Str} (hcls : cls ≠ boxN) (X : Rel K m σ H s) (hne : dx ≠ x) (hx : m.O x = none ∧ m.P x = none ∧ m.L x = none) (hd : m.O dx = none ∧ m.P dx = none ∧ m.L dx = none) (e1 : H x = some (.ins (He.ga K cls) dx [])) (e2 : H dx = some (.own x)) :
    Rel K (adM m x dx) σ H { s with g := s.g ++ [⟨cls, [], []⟩] } := by
  have cO : ∀ {a w}, (adM m x dx).O a = some w → a = x ∨ a = dx ∨ m.O a = some w := fun {a w} h => by
    have h' : (if a = x then some (Own.ins m.n) else if a = dx then some (Own.idc m.n) else m.O a) = some w := h
    by_cases ha : a = x
    · exact .inl ha
    · rw [if_neg ha] at h'
      by_cases hb : a = dx
      · exact .inr (.inl hb)
      · rw [if_neg hb] at h'; exact .inr (.inr h')
  refine { pers := X.pers, lock := X.lock, oh := fun a w h => ?_, op := fun a w h => ?_, ol := fun a w h => ?_, lp := X.lp, len := X.len, env := fun i z e => ?_, cells := fun n c e => ?_, cnt := ?_, ins := fun k I e => ?_, zz := X.zz }
  · rcases cO h with rfl | rfl | h
    · rw [e1]; exact fun z => nomatch z
    · rw [e2]; exact fun z => nomatch z
    · exact X.oh a w h
  · rcases cO h with rfl | rfl | h
    · exact hx.2.1
    · exact hd.2.1
    · exact X.op a w h
  · rcases cO h with rfl | rfl | h
    · exact hx.2.2
    · exact hd.2.2
    · exact X.ol a w h
  · have y := X.env i z e
    cases z with
    | no => trivial
    | val d => obtain ⟨v, h1, h2⟩ := y; exact ⟨v, h1, h2.mono adM_le⟩
    | own c => obtain ⟨a, h1, h2, h3⟩ := y; exact ⟨a, h1, CellOk.mono adM_le.kn (adM_O hx.1 hd.1 h2) rfl ⟨h2, h3⟩⟩
    | lck c => obtain ⟨a, h1, ⟨h2, h3⟩, h4⟩ := y; exact ⟨a, h1, CellOk.mono adM_le.kn (adM_O hx.1 hd.1 h2) rfl ⟨h2, h3⟩, h4⟩
    | pc n => exact y
    | ic k j =>
      obtain ⟨h1, h2, h3⟩ := y
      refine ⟨h1, Nat.lt_succ_of_lt h2, ?_⟩
      show j < if k = m.n then 0 else m.nc k
      rw [if_neg (by omega)]; exact h3
  · obtain ⟨h1, h2⟩ := X.cells n c e
    exact CellOk.mono adM_le.kn (adM_O hx.1 hd.1 h1) rfl ⟨h1, h2⟩
  · show m.n + 1 = (s.g ++ [_]).length
    rw [List.length_append, X.cnt]; rfl
  · have e' : (s.g ++ [⟨cls, [], []⟩])[k]? = some I := e
    rw [List.getElem?_append] at e'
    split at e'
    · rename_i hk
      have y := X.ins k I e'
      have hkn : k < m.n := by rw [X.cnt]; exact hk
      have i1 : (adM m x dx).io k = m.io k := adM_le.io k hkn
      have i2 : (adM m x dx).dx k = m.dx k := by show (if k = m.n then dx else m.dx k) = _; rw [if_neg (by omega)]
      have i3 : (adM m x dx).nc k = m.nc k := by show (if k = m.n then 0 else m.nc k) = _; rw [if_neg (by omega)]
      exact InstOk.mono adM_le.kn i1 i2 i3 (fun _ _ => rfl) (fun a w _ h => adM_O hx.1 hd.1 h) (fun _ _ _ _ => rfl) y
    · rename_i hk
      have hk2 : k = s.g.length := by
        rcases Nat.lt_or_ge (k - s.g.length) 1 with h | h
        · omega
        · rw [List.getElem?_eq_none (by simpa using h)] at e'; cases e'
      subst hk2
      rw [Nat.sub_self] at e'
      cases e'
      have nn : s.g.length = m.n := X.cnt.symm
      have j1 : (adM m x dx).io s.g.length = x := if_pos nn
      have j2 : (adM m x dx).dx s.g.length = dx := if_pos nn
      have j3 : (adM m x dx).nc s.g.length = 0 := if_pos nn
      refine .inl ⟨hcls, ?_, ?_, ⟨[], ?_, trivial⟩, ?_, ?_, fun j c h => by simp at h⟩
      · rw [j1, nn]; exact if_pos rfl
      · rw [j2, nn]; show (if dx = x then _ else if dx = dx then _ else _) = _; rw [if_neg hne, if_pos rfl]
      · rw [j1, j2]; exact e1
      · rw [j1, j2]; exact e2
      · rw [j3]; rfl
end
/-- constants as operands -/
def Flat : List V → List D → Prop
  | [], [] => True
  | v :: vs, d :: ds => (∀ (K : PySem.W.Frag) (m : Mp), RD K m v d) ∧ Flat vs ds
  | _, _ => False
theorem Flat.nil : Flat [] [] := trivial
theorem Flat.non {vs : List V} {ds : List D} (h : Flat vs ds) : Flat (.non :: vs) (.non :: ds) := ⟨fun _ _ => .non, h⟩
theorem Flat.int {vs : List V} {ds : List D} {i : Int} (h : Flat vs ds) : Flat (.int i :: vs) (.int i :: ds) := ⟨fun _ _ => .int, h⟩
theorem RepRs.consts {K : PySem.W.Frag} {σ : St} {H : Hp} {dvs : List V} {dd : List D} (hf : Flat dvs dd) : ∀ {m : Mp} {vs : List V} {rs : List R}, RepRs K σ H m vs rs → RepRs K σ H m (vs ++ dvs) (rs ++ dd.map .val)
  | m, [], [], _ => by
    induction dvs generalizing dd m with
    | nil => cases dd with
      | nil => trivial
      | cons _ _ => exact hf.elim
    | cons v vs ih => cases dd with
      | nil => exact hf.elim
      | cons d ds =>
        refine ⟨hf.1 K m, ?_⟩
        have e : lk m v (.val d) H = m := by cases v <;> rfl
        show RepRs K σ H (lk m v (.val d) H) ([] ++ vs) ([] ++ ds.map .val)
        rw [e]
        exact ih hf.2 m trivial
  | m, v :: vs, r :: rs, q => ⟨q.1, RepRs.consts hf q.2⟩
  | _, [], _ :: _, q => q.elim
  | _, _ :: _, [], q => q.elim
def eMake (cls : Str) (d : Den) (dd : List D) (fa : M (List R)) : M R := fun s => (fa s).bind fun rs s1 => (callR d (.val (.ins s1.g.length) :: (rs ++ dd.map .val)) { s1 with g := s1.g ++ [⟨cls, [], []⟩] }).bind fun r s2 => match r with
  | .val .non => .ok (.val (.ins s1.g.length)) s2
  | _ => .stuck
section
variable {K : PySem.W.Frag} {σ : St} {H H' : Hp}
theorem RepR.adopt {m m' : Mp} {x dx : Addr} (hx : H x = none) (hd : H dx = none) (hH : ∀ a, a ≠ x → a ≠ dx → H' a = H a) (hm : m' = adM m x dx) {v : V} {r : R} (p : RepR K m σ H v r) : RepR K m' σ H' v r := by
  subst hm
  cases r with
  | val d => exact RepD.mono adM_le.P adM_le.n adM_le.io p
  | tmp c =>
    obtain ⟨a, e, h1, h2, h3, u, hu, rc⟩ := p
    have n1 : a ≠ x := fun z => by rw [z, hx] at hu; cases hu
    have n2 : a ≠ dx := fun z => by rw [z, hd] at hu; cases hu
    refine ⟨a, e, ?_, h2, h3, u, (hH a n1 n2).trans hu, rc.mono adM_le.kn⟩
    show (if a = x then _ else if a = dx then _ else m.O a) = none
    rw [if_neg n1, if_neg n2]; exact h1
  | var i => exact p
  | pc n => exact p
  | ic k j =>
    obtain ⟨g1, g2, g3⟩ := p
    refine ⟨g1, Nat.lt_succ_of_lt g2, ?_⟩
    show j < if k = m.n then 0 else m.nc k
    rw [if_neg (by omega)]; exact g3
theorem lk_adM {m : Mp} {x dx : Addr} {v : V} {r : R} (hx : H x = none) (hd : H dx = none) (hH : ∀ a, a ≠ x → a ≠ dx → H' a = H a) (p : RepR K m σ H v r) : lk (adM m x dx) v r H' = adM (lk m v r H) x dx := by
  cases r with
  | tmp c =>
    obtain ⟨a, e, h1, h2, h3, u, hu, rc⟩ := p
    subst e
    have n1 : a ≠ x := fun z => by rw [z, hx] at hu; cases hu
    have n2 : a ≠ dx := fun z => by rw [z, hd] at hu; cases hu
    show ({ adM m x dx with L := fun b => if b = a then H' a else m.L b } : Mp) = adM { m with L := fun b => if b = a then H a else m.L b } x dx
    rw [hH a n1 n2]; rfl
  | _ => cases v <;> rfl
theorem RepRs.adopt {x dx : Addr} (hx : H x = none) (hd : H dx = none) (hH : ∀ a, a ≠ x → a ≠ dx → H' a = H a) : ∀ {m : Mp} {vs : List V} {rs : List R}, RepRs K σ H m vs rs → RepRs K σ H' (adM m x dx) vs rs
  | _, [], [], _ => trivial
  | m, v :: vs, r :: rs, q => ⟨q.1.adopt hx hd hH rfl, by rw [lk_adM hx hd hH q.1]; exact RepRs.adopt hx hd hH q.2⟩
  | _, [], _ :: _, q => q.elim
  | _, _ :: _, [], q => q.elim
end
def eMeth (cls m : Str) (d : Den) (dd : List D) (fo : M R) (fa : M (List R)) : M R := fun s => (fo s).bind fun o s1 => match o with
  | .val (.ins k) => match s1.g[k]? with
    | some I => if I.cls = cls ∧ I.fs.lookup m = none then (fa s1).bind fun rs s2 => callR d (.val (.ins k) :: (rs ++ dd.map .val)) s2 else .stuck
    | none => .stuck
  | _ => .stuck
theorem RepF.none {K : PySem.W.Frag} {m : Mp} {k : Nat} {f : Str} : ∀ {vs : List (Str × V)} {fs : List (Str × F)}, RepF K m k vs fs → fs.lookup f = .none → vs.lookup f = .none
  | [], [], _, _ => rfl
  | (a, v) :: vs, (b, y) :: fs, r, h => by
    obtain ⟨e, r1, r2⟩ := r
    subst e
    rw [List.lookup_cons] at h ⊢
    cases q : (f == a) with
    | true => rw [q] at h; cases h
    | false => rw [q] at h; exact RepF.none r2 h
  | [], _ :: _, r, _ => r.elim
  | _ :: _, [], r, _ => r.elim
def tMethSD (C : Addr) (m : Str) (sp : Sp) (dvs : List V) (E : St → XK) (ta : TE) (t : TA) : TE := fun σ H Q => ta σ H fun x H1 => ∃ a dx fs, x = .ref a ∧ H1 a = some (.ins C dx fs) ∧ fs.lookup m = none ∧
  t σ H1 fun vs H2 => sp (x :: (vs ++ dvs)) H2 Q (E σ)
section
variable {X : Cx} {CX : CXT} {k : Nat} {f C : Addr} {fd : FuncData} {ps : List Str} {sp : Sp} {dvs : List V} {ds : List Value} {E : St → XK} {x m : Str} {p pos apos : Pos} {e o : Expr} {es : List Expr} {ta : TE} {t : TA}
theorem pe_methSD {pl : Sem Bool} (he : PE X o ta) (c : Cls X.K C) (hm : Meth X.K C m f) (F : FnOk X.prog X.w X.K X.mg X.base CX k f fd ps sp) (hr : Room k X.A) (hb : Binds X.K fd ps ds) (hd : Vals dvs ds) (hx : ∀ σ, PassesAt CX X σ (E σ)) (ha : PA X (e :: es) t)
    (hst : starEach (e :: es) X.env = (false, eval e X.env) :: starEach es X.env := by rfl) (hpl : (backTo pos (starEach es X.env)).any (·.1) = false := by rfl)
    (ht : eval (.Call (.Attribute o m apos) (e :: es) [] pos) X.env = (do
      let ov ← eval o X.env
      standAt apos.atName
      let (f, first) ← holding [ov] (getMethod ov m pl)
      callWith pos f first (backTo pos (starEach (e :: es) X.env)) (backToKw pos (keywordEach [] X.env))) := by rfl) :
    PE X (.Call (.Attribute o m apos) (e :: es) [] pos) (tMethSD C m sp dvs E ta t) := by
  refine ⟨fun pins s σ H Q I h => ?_⟩
  refine PySem.W.methodCall_KW (pl := pl) (thn (he.run pins s σ H _ I h) fun u s1 ⟨x, H1, I1, rx, a, dx, fs, ex, ea, l, q⟩ => ?_) ht
  subst ex
  obtain rfl : u = Value.ref a := rx
  refine getmeth_ok I1 ea c hm l ?_
  refine PySem.W.callWith_K (first := [.ref a]) (h₀ := X.base) I.ok.mod.kin hm.kp (thn (ha.run pos pins s1 σ H1 _ I1 q) fun us s2 ⟨vs, H2, I2, r, q2⟩ => ⟨I2.kIn, ?_⟩) hst hpl
  exact run_fnSD (us := .ref a :: us) (vs := .ref a :: vs) F hr hb hd (hx σ) I2 (.cons rfl r) q2
theorem pe_methSD0 {pl : Sem Bool} (he : PE X o ta) (c : Cls X.K C) (hm : Meth X.K C m f) (F : FnOk X.prog X.w X.K X.mg X.base CX k f fd ps sp) (hr : Room k X.A) (hb : Binds X.K fd ps ds) (hd : Vals dvs ds) (hx : ∀ σ, PassesAt CX X σ (E σ))
    (ht : eval (.Call (.Attribute o m apos) [] [] pos) X.env = (do
      let ov ← eval o X.env
      standAt apos.atName
      let (f, first) ← holding [ov] (getMethod ov m pl)
      callWith pos f first (backTo pos (starEach [] X.env)) (backToKw pos (keywordEach [] X.env))) := by rfl) :
    PE X (.Call (.Attribute o m apos) [] [] pos) (tMethSD C m sp dvs E ta tNil) := by
  refine ⟨fun pins s σ H Q I h => ?_⟩
  refine PySem.W.methodCall_KW (pl := pl) (thn (he.run pins s σ H _ I h) fun u s1 ⟨x, H1, I1, rx, a, dx, fs, ex, ea, l, q⟩ => ?_) ht
  subst ex
  obtain rfl : u = Value.ref a := rx
  refine getmeth_ok I1 ea c hm l ?_
  exact PySem.W.callWith_K0 (first := [.ref a]) I1.kIn hm.kp (run_fnSD (us := [.ref a]) (vs := [.ref a]) F hr hb hd (hx σ) I1 (.cons rfl .nil) q)
end
section
variable {X : Cx} {W : WX} {k : Nat} {f : Addr} {fd : FuncData} {ps : List Str} {d : Den} {cls m : Str} {o e : Expr} {es : List Expr} {apos pos : Pos} {fo : M R} {fa : M (List R)} {pl : Sem Bool} {ds : List Value} {dvs : List V} {dd : List D}
theorem meth_sound (hcls : cls ≠ boxN) (hdd : Flat dvs dd) {σ : St} {H : Hp} {Q : VK} (h : toE X.K W (eMeth cls m d dd fo fa) σ H Q) :
    tMethSD (He.ga X.K cls) m (spOf X.K d) dvs (WE W) (toE X.K W fo) (toA X.K W fa) σ H Q := by
  show toE X.K W fo σ H fun x H1 => ∃ a dx fs, x = .ref a ∧ H1 a = some (.ins (He.ga X.K cls) dx fs) ∧ fs.lookup m = none ∧ toA X.K W fa σ H1 fun vs H2 => spOf X.K d (x :: (vs ++ dvs)) H2 Q (WE W σ)
  refine one h fun mm s H v r x p q => ?_
  cases r with
  | val dd' =>
    cases dd' with
    | ins i =>
      simp only [] at q
      cases e1 : s.g[i]? with
      | none => rw [e1] at q; exact q.elim
      | some I =>
        rw [e1] at q
        simp only [] at q
        split at q
        · rename_i hc
          obtain ⟨o1, o2, ⟨fs, hf, rf⟩, _⟩ := (x.ins i I e1).real (by rw [hc.1]; exact hcls)
          rw [hc.1] at hf
          have p0 := p
          cases p with
          | ins hi =>
            refine ⟨_, _, fs, rfl, hf, RepF.none rf hc.2, ?_⟩
            refine thenA (k := fun rs s2 => callR d (.val (.ins i) :: (rs ++ dd.map .val)) s2) (R' := fun vs H2 => spOf X.K d (.ref (mm.io i) :: (vs ++ dvs)) H2 Q (WE W σ)) x p0 q (fun _ _ _ _ => rfl) fun m s H vs rs x p q => ?_
            exact callR_ok (W := W) x (RepRs.consts hdd p) q
        · exact q.elim
    | _ => exact q.elim
  | _ => exact q.elim
theorem se_methI (hcls : cls ≠ boxN) (he : PE X o (toE X.K W fo)) (c : Cls X.K (He.ga X.K cls)) (hm : Meth X.K (He.ga X.K cls) m f) (F : FnOk X.prog X.w X.K X.mg X.base (L2.CX X.prog X.w) k f fd ps (spOf X.K d)) (hr : Room k X.A) (hb : Binds X.K fd ps ds) (hd : Vals dvs ds) (hdd : Flat dvs dd)
    (tk : Takes X W) (ha : PA X (e :: es) (toA X.K W fa))
    (hst : starEach (e :: es) X.env = (false, eval e X.env) :: starEach es X.env := by rfl) (hpl : (backTo pos (starEach es X.env)).any (·.1) = false := by rfl)
    (ht : eval (.Call (.Attribute o m apos) (e :: es) [] pos) X.env = (do
      let ov ← eval o X.env
      standAt apos.atName
      let (f, first) ← holding [ov] (getMethod ov m pl)
      callWith pos f first (backTo pos (starEach (e :: es) X.env)) (backToKw pos (keywordEach [] X.env))) := by rfl) :
    PE X (.Call (.Attribute o m apos) (e :: es) [] pos) (toE X.K W (eMeth cls m d dd fo fa)) :=
  PE_imp (pe_methSD (pl := pl) he c hm F hr hb hd (fun σ => passAt tk σ) ha hst hpl ht) fun σ H Q h => meth_sound hcls hdd h
theorem se_methI0 (hcls : cls ≠ boxN) (he : PE X o (toE X.K W fo)) (c : Cls X.K (He.ga X.K cls)) (hm : Meth X.K (He.ga X.K cls) m f) (F : FnOk X.prog X.w X.K X.mg X.base (L2.CX X.prog X.w) k f fd ps (spOf X.K d)) (hr : Room k X.A) (hb : Binds X.K fd ps ds) (hd : Vals dvs ds) (hdd : Flat dvs dd)
    (tk : Takes X W)
    (ht : eval (.Call (.Attribute o m apos) [] [] pos) X.env = (do
      let ov ← eval o X.env
      standAt apos.atName
      let (f, first) ← holding [ov] (getMethod ov m pl)
      callWith pos f first (backTo pos (starEach [] X.env)) (backToKw pos (keywordEach [] X.env))) := by rfl) :
    PE X (.Call (.Attribute o m apos) [] [] pos) (toE X.K W (eMeth cls m d dd fo eNil)) :=
  PE_imp (pe_methSD0 (pl := pl) he c hm F hr hb hd (fun σ => passAt tk σ) ht) fun σ H Q h => by
    obtain ⟨mm, s, x, p⟩ := meth_sound hcls hdd h
    refine ⟨mm, s, x, ?_⟩
    cases e1 : fo s with
    | stuck => rw [e1] at p; exact p
    | exc ex s1 => rw [e1] at p; exact p
    | ok r s1 =>
      rw [e1] at p
      intro v H1 m1 l1 x1 r1
      obtain ⟨a, dx, fs, h1, h2, h3, h4⟩ := p v H1 m1 l1 x1 r1
      exact ⟨a, dx, fs, h1, h2, h3, toA_nil h4⟩
end
section
variable {Q : R → FS → Prop} {X : Ex → FS → Prop} {s : FS}
def mkK (k : Nat) (Q : R → FS → Prop) : R → FS → Prop := fun r s2 => r = .val .non ∧ Q (.val (.ins k)) s2
theorem w_make {cls : Str} {d : Den} {dd : List D} {fa : M (List R)} (h : wp (fa s) (fun rs s1 => wp (callR d (.val (.ins s1.g.length) :: (rs ++ dd.map .val)) ⟨s1.env, s1.pcs, s1.g ++ [⟨cls, [], []⟩]⟩) (mkK s1.g.length Q) X) X) : wp (eMake cls d dd fa s) Q X := by
  unfold eMake
  refine w_bind (wp_mono h fun rs s1 h => w_bind (wp_mono h fun r s2 ⟨e, q⟩ => ?_))
  subst e; exact q
theorem w_meth {cls m : Str} {d : Den} {dd : List D} {fo : M R} {fa : M (List R)} (h : wp (fo s) (fun o s1 => ∃ k I, o = .val (.ins k) ∧ s1.g[k]? = some I ∧ (I.cls = cls ∧ I.fs.lookup m = none) ∧ wp (fa s1) (fun rs s2 => wp (callR d (.val (.ins k) :: (rs ++ dd.map .val)) s2) Q X) X) X) : wp (eMeth cls m d dd fo fa s) Q X := by
  unfold eMeth
  refine w_bind (wp_mono h fun o s1 ⟨k, I, e, e1, hc, q⟩ => ?_)
  subst e
  simp only [e1, if_pos hc]
  exact w_bind q
end
end VL
set_option maxRecDepth 100000
set_option maxHeartbeats 4000000
namespace VL
open PySem PySem.Spec L2
open PyProof.Rows hiding St
def putG (f : Str) (x : F) : List (Str × F) → List (Str × F)
  | [] => [(f, x)]
  | (g, y) :: r => if g = f then (g, x) :: r else (g, y) :: putG f x r
section
variable {K : PySem.W.Frag} {m : Mp} {σ : St} {H : Hp} {s : FS}
theorem RepF.put {k : Nat} {f : Str} {y : V} {x : F} (q : RepF1 K m k y x) : ∀ {vs : List (Str × V)} {fs : List (Str × F)}, RepF K m k vs fs → RepF K m k (putF f y vs) (putG f x fs)
  | [], [], _ => ⟨rfl, q, trivial⟩
  | (a, v) :: vs, (b, z) :: fs, r => by
    obtain ⟨e, r1, r2⟩ := r
    subst e
    unfold putF putG
    by_cases h : a = f
    · rw [if_pos h, if_pos h]; exact ⟨rfl, q, r2⟩
    · rw [if_neg h, if_neg h]; exact ⟨rfl, r1, RepF.put q r2⟩
  | [], _ :: _, r => r.elim
  | _ :: _, [], r => r.elim
theorem RepF.length {k : Nat} : ∀ {vs : List (Str × V)} {fs : List (Str × F)}, RepF K m k vs fs → vs.length = fs.length
  | [], [], _ => rfl
  | _ :: _, _ :: _, r => by rw [List.length_cons, List.length_cons, RepF.length r.2.2]
  | [], _ :: _, r => r.elim
  | _ :: _, [], r => r.elim
theorem Rel.setF {k : Nat} {I : Inst} {f : Str} {y : V} {x : F} {C dx : Addr} {fs : List (Str × V)} (X : Rel K m σ H s) (hb : I.cls ≠ boxN) (e : s.g[k]? = some I) (h : H (m.io k) = some (.ins C dx fs)) (q : RepF1 K m k y x) :
    Rel K m σ (upd H (m.io k) (.ins C dx (putF f y fs))) { s with g := s.g.set k { I with fs := putG f x I.fs } } := by
  obtain ⟨o1, o2, ⟨fs', hf, rf⟩, h4, h5, h6⟩ := (X.ins k I e).real hb
  rw [h] at hf
  have hfe : fs = fs' ∧ C = He.ga K I.cls ∧ dx = m.dx k := by cases hf; exact ⟨rfl, rfl, rfl⟩
  obtain ⟨rfl, rfl, rfl⟩ := hfe
  have ne : ∀ {a w}, m.O a = some w → (∀ z : w = Own.ins k, False) → upd H (m.io k) (.ins (He.ga K I.cls) (m.dx k) (putF f y fs)) a = H a := fun {a w} ha hw => upd_ne fun z => by
    rw [z, o1] at ha; cases ha; exact hw rfl
  have cell : ∀ {w a c}, (∀ z : w = Own.ins k, False) → CellOk K m H w a c → CellOk K m (upd H (m.io k) (.ins (He.ga K I.cls) (m.dx k) (putF f y fs))) w a c := fun {w a c} hw ⟨g1, u, g2, g3⟩ => ⟨g1, u, (ne g1 hw).trans g2, g3⟩
  refine { pers := fun a o g => ?_, lock := fun a o g => ?_, oh := fun a w g => ?_, op := X.op, ol := X.ol, lp := X.lp, len := X.len, env := fun i z g => ?_, cells := fun n c g => cell (fun z => nomatch z) (X.cells n c g), cnt := ?_, ins := fun j J g => ?_, zz := fun a o g => ⟨by rw [upd_ne fun z => ?_]; exact (X.zz a o g).1; exact (by obtain ⟨q1, od, kvs, q2⟩ := X.zz a o g; rw [z, h, q2] at q1; cases q1), (X.zz a o g).2⟩ }
  · rw [upd_ne fun z => ?_]; exact X.pers a o g
    rw [z, X.op _ _ o1] at g; cases g
  · rw [upd_ne fun z => ?_]; exact X.lock a o g
    rw [z, X.ol _ _ o1] at g; cases g
  · by_cases ha : a = m.io k
    · rw [ha, upd_same]; exact fun z => nomatch z
    · rw [upd_ne ha]; exact X.oh a w g
  · have y := X.env i z g
    cases z with
    | own c => obtain ⟨a, g1, g2⟩ := y; exact ⟨a, g1, cell (fun z => nomatch z) g2⟩
    | lck c => obtain ⟨a, g1, g2, g3⟩ := y; exact ⟨a, g1, cell (fun z => nomatch z) g2, g3⟩
    | _ => exact y
  · show m.n = (s.g.set k _).length
    rw [List.length_set]; exact X.cnt
  · have g' : (s.g.set k { I with fs := putG f x I.fs })[j]? = some J := g
    by_cases hj : k = j
    · subst hj
      have hk := (List.getElem?_eq_some_iff.mp e).1
      rw [List.getElem?_set_self hk] at g'
      cases g'
      exact .inl ⟨hb, o1, o2, ⟨_, upd_same, RepF.put q rf⟩, (ne o2 (fun z => nomatch z)).trans h4, h5, fun j c hc => cell (fun z => nomatch z) (h6 j c hc)⟩
    · rw [List.getElem?_set_ne hj] at g'
      exact (X.ins j J g').mono ⟨fun _ _ h => h, Nat.le_refl _, fun _ _ => rfl⟩ rfl rfl rfl (fun _ _ => rfl) (fun _ _ _ h => h) (fun a w hw h => ne h fun z => by subst z; exact hj hw)
end
def acM (m : Mp) (k : Nat) (a : Addr) : Mp := { m with
  O := fun b => if b = a then some (.ic k (m.nc k)) else m.O b
  nc := fun i => if i = k then m.nc k + 1 else m.nc i
  ic := fun i j => if i = k ∧ j = m.nc k then a else m.ic i j }
section
variable {K : PySem.W.Frag} {m : Mp} {σ : St} {H : Hp} {s : FS} {k : Nat} {a : Addr}
theorem acM_le : m.le (acM m k a) := by
  refine ⟨fun _ _ h => h, rfl, rfl, Nat.le_refl _, fun _ _ => rfl, fun i h => ?_, fun i j h h' => ?_, rfl, rfl⟩
  · show m.nc i ≤ if i = k then m.nc k + 1 else m.nc i
    split
    · rename_i e; rw [e]; omega
    · exact Nat.le_refl _
  · show (if i = k ∧ j = m.nc k then a else m.ic i j) = m.ic i j
    rw [if_neg fun z => ?_]
    rw [z.1] at h'; omega
theorem acM_O {b : Addr} {w : Own} (ha : m.O a = none) (h : m.O b = some w) : (acM m k a).O b = some w := by
  show (if b = a then _ else m.O b) = some w
  rw [if_neg fun z => ?_]
  · exact h
  · rw [z, ha] at h; cases h
theorem Rel.takeC {I : Inst} {c : C} (X : Rel K m σ H s) (hb : I.cls ≠ boxN) (e : s.g[k]? = some I) (ha : m.O a = none) (hp : m.P a = none) (hl : m.L a = none) {o : HO} (ho : H a = some o) (rc : RepC K m o c) :
    Rel K (acM m k a) σ H { s with g := s.g.set k { I with cells := I.cells ++ [c] } } := by
  have cO : ∀ {b w}, (acM m k a).O b = some w → b = a ∨ m.O b = some w := fun {b w} h => by
    have h' : (if b = a then some (Own.ic k (m.nc k)) else m.O b) = some w := h
    by_cases hb : b = a
    · exact .inl hb
    · rw [if_neg hb] at h'; exact .inr h'
  have cell : ∀ {w b c}, CellOk K m H w b c → CellOk K (acM m k a) H w b c := fun {w b c} h => CellOk.mono acM_le.kn (acM_O ha h.1) rfl h
  have hk := (List.getElem?_eq_some_iff.mp e).1
  refine { pers := X.pers, lock := X.lock, oh := fun b w h => ?_, op := fun b w h => ?_, ol := fun b w h => ?_, lp := X.lp, len := X.len, env := fun i z g => ?_, cells := fun n c g => cell (X.cells n c g), cnt := ?_, ins := fun j J g => ?_, zz := X.zz }
  · rcases cO h with rfl | h
    · rw [ho]; exact fun z => nomatch z
    · exact X.oh b w h
  · rcases cO h with rfl | h
    · exact hp
    · exact X.op b w h
  · rcases cO h with rfl | h
    · exact hl
    · exact X.ol b w h
  · have y := X.env i z g
    cases z with
    | no => trivial
    | val d => obtain ⟨v, h1, h2⟩ := y; exact ⟨v, h1, h2.mono acM_le⟩
    | own c => obtain ⟨b, h1, h2⟩ := y; exact ⟨b, h1, cell h2⟩
    | lck c => obtain ⟨b, h1, h2, h3⟩ := y; exact ⟨b, h1, cell h2, h3⟩
    | pc n => exact y
    | ic i j =>
      obtain ⟨h1, h2, h3⟩ := y
      exact ⟨by rw [acM_le.ic i j h2 h3]; exact h1, h2, Nat.lt_of_lt_of_le h3 (acM_le.nc i h2)⟩
  · show m.n = (s.g.set k _).length
    rw [List.length_set]; exact X.cnt
  · have g' : (s.g.set k { I with cells := I.cells ++ [c] })[j]? = some J := g
    by_cases hj : k = j
    · subst hj
      rw [List.getElem?_set_self hk] at g'
      cases g'
      obtain ⟨p1, p2, ⟨fs, p3, p4⟩, p5, p6, p7⟩ := (X.ins k I e).real hb
      have hkn : k < m.n := by rw [X.cnt]; exact hk
      refine .inl ⟨hb, acM_O ha p1, acM_O ha p2, ⟨fs, p3, p4.mono acM_le.kn (acM_le.nc k hkn) fun j hj => acM_le.ic k j hkn hj⟩, p5, ?_, fun j c' hc => ?_⟩
      · show (if k = k then m.nc k + 1 else m.nc k) = (I.cells ++ [c]).length
        rw [if_pos rfl, List.length_append, ← p6]; rfl
      · have hc' : (I.cells ++ [c])[j]? = some c' := hc
        rw [List.getElem?_append] at hc'
        split at hc'
        · rename_i hlt
          have z := cell (p7 j c' hc')
          rw [acM_le.ic k j hkn (by rw [p6]; exact hlt)]
          exact z
        · rename_i hge
          have hje : j = I.cells.length := by
            rcases Nat.lt_or_ge (j - I.cells.length) 1 with h | h
            · omega
            · rw [List.getElem?_eq_none (by simpa using h)] at hc'; cases hc'
          subst hje
          rw [Nat.sub_self] at hc'
          cases hc'
          have i1 : (acM m k a).ic k I.cells.length = a := if_pos ⟨rfl, p6.symm⟩
          rw [i1]
          exact ⟨by show (if a = a then _ else _) = _; rw [if_pos rfl, p6], o, ho, rc.mono acM_le.kn⟩
    · rw [List.getElem?_set_ne hj] at g'
      have hjn : j < m.n := by rw [X.cnt]; exact (List.getElem?_eq_some_iff.mp g').1
      have i3 : (acM m k a).nc j = m.nc j := by show (if j = k then _ else _) = _; rw [if_neg (Ne.symm hj)]
      exact (X.ins j J g').mono acM_le.kn rfl rfl i3 (fun i hi => acM_le.ic j i hjn hi) (fun b w _ h => acM_O ha h) (fun _ _ _ _ => rfl)
end
def storeF (k : Nat) (f : Str) (v : R) (s : FS) : Option FS := match v with
  | .tmp c => match s.g[k]? with
    | some I => if I.fs.length < 1000 then some { s with g := s.g.set k ⟨I.cls, putG f (.cell I.cells.length) I.fs, I.cells ++ [c]⟩ } else none
    | none => none
  | v => match frzR v s with
    | some (d, s1) => match s1.g[k]? with
      | some I => if I.fs.length < 1000 then some { s1 with g := s1.g.set k ⟨I.cls, putG f (.val d) I.fs, I.cells⟩ } else none
      | none => none
    | none => none
def sFldSet (cl : List Str) (f : Str) (fo fv : M R) : SM := fun s => (eCons fv (eCons fo eNil) s).bindS fun rs s1 => match rs with
  | [v, o] => match o with
    | .val (.ins k) => match s1.g[k]? with
      | some I => if I.cls ∈ cl then (match storeF k f v s1 with
        | some s2 => .next s2
        | none => .stuck) else .stuck
      | none => .stuck
    | _ => .stuck
  | _ => .stuck
section
variable {K : PySem.W.Frag} {m : Mp} {σ : St} {H : Hp} {s s2 : FS}
theorem frzR_g {v : R} {d : D} (e : frzR v s = some (d, s2)) : s2.g = s.g := by
  unfold frzR at e
  split at e
  · cases e; rfl
  · split at e
    · cases e; rfl
    · cases e
  · split at e
    · split at e
      · cases e; rfl
      · cases e
    · cases e
  · cases e
theorem storeF_ok {k : Nat} {f : Str} {v : R} {I : Inst} {y : V} (X : Rel K m σ H s) (hb : I.cls ≠ boxN) (p : RepR K m σ H y v) (hI : s.g[k]? = some I) (e : storeF k f v s = some s2) :
    ∃ fs dx, H (m.io k) = some (.ins (He.ga K I.cls) dx fs) ∧ fs.length < 1000 ∧ ∃ m', m.le m' ∧ Rel K m' σ (upd H (m.io k) (.ins (He.ga K I.cls) dx (putF f y fs))) s2 := by
  obtain ⟨o1, o2, ⟨fs, hf, rf⟩, h4, h5, h6⟩ := (X.ins k I hI).real hb
  have hk := (List.getElem?_eq_some_iff.mp hI).1
  have gen : (match frzR v s with
    | some (d, s1) => match s1.g[k]? with
      | some I => if I.fs.length < 1000 then some { s1 with g := s1.g.set k ⟨I.cls, putG f (.val d) I.fs, I.cells⟩ } else none
      | none => none
    | none => none) = some s2 → ∃ fs dx, H (m.io k) = some (.ins (He.ga K I.cls) dx fs) ∧ fs.length < 1000 ∧ ∃ m', m.le m' ∧ Rel K m' σ (upd H (m.io k) (.ins (He.ga K I.cls) dx (putF f y fs))) s2 := fun e => by
    cases ef : frzR v s with
    | none => rw [ef] at e; cases e
    | some z =>
      obtain ⟨d, s1⟩ := z
      rw [ef] at e
      simp only [] at e
      rw [frzR_g ef, hI] at e
      simp only [] at e
      split at e
      · rename_i hl
        cases e
        obtain ⟨m1, l1, x1, r1, _⟩ := p.frz X ef
        have hkn : k < m.n := by rw [X.cnt]; exact hk
        have hi1 : s1.g[k]? = some I := by rw [frzR_g ef]; exact hI
        have z := Rel.setF (f := f) (y := y) (x := .val d) x1 hb hi1 (by rw [l1.io k hkn]; exact hf) r1
        rw [l1.io k hkn, frzR_g ef] at z
        exact ⟨fs, _, hf, by rw [rf.length]; exact hl, m1, l1, z⟩
      · cases e
  cases v with
  | tmp c =>
    simp only [storeF, hI] at e
    split at e
    · rename_i hl
      cases e
      obtain ⟨a, ey, g1, g2, g3, u, hu, rc⟩ := p
      subst ey
      have x1 := Rel.takeC X hb hI g1 g2 g3 hu rc
      have z := Rel.setF (k := k) (I := { I with cells := I.cells ++ [c] }) (f := f) (y := .ref a) (x := .cell (m.nc k)) x1 hb (List.getElem?_set_self hk) hf ⟨by
        show V.ref a = .ref ((acM m k a).ic k (m.nc k))
        have i1 : (acM m k a).ic k (m.nc k) = a := if_pos ⟨rfl, rfl⟩
        rw [i1], by show m.nc k < if k = k then m.nc k + 1 else m.nc k; rw [if_pos rfl]; omega⟩
      refine ⟨fs, _, hf, by rw [rf.length]; exact hl, acM m k a, acM_le, ?_⟩
      have zz : ((s.g.set k { I with cells := I.cells ++ [c] }).set k ⟨I.cls, putG f (.cell (m.nc k)) I.fs, I.cells ++ [c]⟩) = s.g.set k ⟨I.cls, putG f (.cell I.cells.length) I.fs, I.cells ++ [c]⟩ := by
        rw [List.set_set, h5]
      have z' : Rel K (acM m k a) σ (upd H (m.io k) (.ins (He.ga K I.cls) (m.dx k) (putF f (.ref a) fs))) { s with g := (s.g.set k { I with cells := I.cells ++ [c] }).set k ⟨I.cls, putG f (.cell (m.nc k)) I.fs, I.cells ++ [c]⟩ } := z
      rw [zz] at z'
      exact z'
    · cases e
  | _ => exact gen e
end
theorem toA2 {K : PySem.W.Frag} {W : WX} {f g : M R} {σ : St} {H : Hp} {Q : V → V → Hp → Prop} (z : toA K W (eCons f (eCons g eNil)) σ H fun vs H => ∀ a b, vs = [a, b] → Q a b H) :
    toE K W f σ H fun a H1 => toE K W g σ H1 fun b H2 => Q a b H2 := by
  have z1 := toA_cons z
  have up : ∀ {f : M R} {σ H} {R1 R2 : V → Hp → Prop}, (∀ v H, R1 v H → R2 v H) → toE K W f σ H R1 → toE K W f σ H R2 := fun {f σ H R1 R2} i ⟨m, s, x, p⟩ => ⟨m, s, x, by
    cases e : f s with
    | stuck => rw [e] at p; exact p
    | ok r s1 => rw [e] at p; exact fun v H' m' l x r => i _ _ (p v H' m' l x r)
    | exc ex s1 => rw [e] at p; exact p⟩
  refine up (fun a H1 q1 => ?_) z1
  have z2 := toA_cons q1
  refine up (fun b H2 q2 => ?_) z2
  exact toA_nil q2 a b rfl
theorem ss_fld {X : Cx} {W : WX} {o value : Expr} {f : Str} {pos pos' : Pos} {fo fv : M R} {cl : List Str} (hk : ClsOk X.K cl f) (ho : PE X o (toE X.K W fo)) (hv : PE X value (toE X.K W fv))
    (hs : swapsWith value (some (.Attribute o f pos')) pos.line X.env = pure false := by rfl) : PS X (.Assign [.Attribute o f pos'] value pos) (toS X.K W (sFldSet cl f fo fv)) :=
  PS_imp (ps_fld ho hv hs) fun D σ H h => by
    show toE X.K W fv σ H fun y H1 => toE X.K W fo σ H1 fun x H2 => ∃ a C dx fs, x = .ref a ∧ H2 a = some (.ins C dx fs) ∧ Cls X.K C ∧ NoAttr X.K C f ∧ fs.length < 1000 ∧ D.nx σ (upd H2 a (.ins C dx (putF f y fs)))
    refine toA2 (Q := fun y x H2 => ∃ a C dx fs, x = .ref a ∧ H2 a = some (.ins C dx fs) ∧ Cls X.K C ∧ NoAttr X.K C f ∧ fs.length < 1000 ∧ D.nx σ (upd H2 a (.ins C dx (putF f y fs)))) (manyS h fun m s H vs rs x p q => ?_)
    intro a b e
    subst e
    match rs, p, q with
    | [rv, ro], p, q =>
      simp only [] at q
      cases ro with
      | val d =>
        cases d with
        | ins k =>
          simp only [] at q
          cases e1 : s.g[k]? with
          | none => rw [e1] at q; exact q.elim
          | some I =>
            rw [e1] at q
            simp only [] at q
            split at q
            · rename_i hc
              cases e2 : storeF k f rv s with
              | none => rw [e2] at q; exact q.elim
              | some s2 =>
                rw [e2] at q
                obtain ⟨fs, dx, hf, hl, m', l', x'⟩ := storeF_ok x (hk _ hc).1 p.1 e1 e2
                have pb := RepR_unlk p.1 p.2.1
                cases pb with
                | ins _ => exact ⟨_, _, dx, fs, rfl, hf, (hk _ hc).2.1, (hk _ hc).2.2, hl, q σ _ m' l' x'⟩
            · exact q.elim
        | _ => exact q.elim
      | _ => exact q.elim
    | [], p, q => exact q.elim
    | [_], p, q => exact q.elim
    | _ :: _ :: _ :: _, p, q => exact q.elim
section
variable {Q : SRes → Prop} {s : FS}
theorem v_fld {cl : List Str} {f : Str} {fo fv : M R} (h : wp (fv s) (fun v s1 => wp (fo s1) (fun o s2 => ∃ k I s3, o = .val (.ins k) ∧ s2.g[k]? = some I ∧ I.cls ∈ cl ∧ storeF k f v s2 = some s3 ∧ Q (.next s3)) (fun e s => Q (.exc e s))) (fun e s => Q (.exc e s))) : wpS (sFldSet cl f fo fv s) Q := by
  unfold sFldSet
  refine w_bindS (w_cons (wp_mono h fun v s1 h => w_cons (wp_mono h fun o s2 h => ?_)))
  obtain ⟨k, I, s3, e, e1, hc, e2, q⟩ := h
  subst e
  refine w_nil ?_
  simp only [e1, if_pos hc, e2]; exact q
end
end VL
set_option maxRecDepth 100000
set_option maxHeartbeats 4000000
namespace VL
open PySem PySem.Spec L2
open PyProof.Rows hiding St
def cutD (xs : List D) (lo hi : Option Int) : List D := (xs.drop (HT.sIx xs.length 0 lo)).take (HT.sIx xs.length xs.length hi - HT.sIx xs.length 0 lo)
def kSl (a : R) (lo hi : Option Int) : M R := fun s => match seqL s a with
  | some xs => .ok (.tmp (.lst (cutD xs lo hi))) s
  | none => match a with
    | .val (.tup xs) => .ok (.val (.tup (cutD xs lo hi))) s
    | .val (.str z) => if z.length ≤ sizeLine then .ok (.val (.str (cutS z lo hi))) s else .stuck
    | _ => .stuck
def rSlAny (K : PySem.W.Frag) : V → Option Int → Option Int → Hp → VK → Prop := fun x lo hi H Q => rSlL K x lo hi H Q ∨ (rSlA K x lo hi H Q ∨ rSlS x lo hi H Q)
theorem sl_any {X : Cx} : SlR X (rSlAny X.K) := SlR.or sl_list (SlR.or sl_tupA sl_str)
section
variable {K : PySem.W.Frag} {W : WX} {m : Mp} {σ : St} {H : Hp} {s : FS} {v : V} {r : R} {Q : VK}
theorem RDs.cut {vs : List V} {xs : List D} (h : RDs K m vs xs) (lo hi : Option Int) : RDs K m (cutV vs lo hi) (cutD xs lo hi) := by
  unfold cutV cutD
  rw [h.length]
  exact RepDs.take _ (RepDs.drop _ h)
theorem cut_all {xs : List D} {lo hi : Option Int} (h : HT.sIx xs.length 0 lo = 0 ∧ HT.sIx xs.length xs.length hi = xs.length) : cutD xs lo hi = xs := by
  unfold cutD
  rw [h.1, h.2, List.drop_zero, Nat.sub_zero, List.take_length]
theorem kSl_ok {lo hi : Option Int} (x : Rel K m σ H s) (p : RepR K m σ H v r) (q : Post K W m σ (kSl r lo hi s) (RpE K σ) Q) : rSlAny K v lo hi H Q := by
  unfold kSl at q
  cases e : seqL s r with
  | some xs =>
    rw [e] at q
    obtain ⟨a, vs, rfl, ha, ra⟩ := seqL_ok x p e
    exact .inl ⟨a, vs, rfl, SqL.of ha, fun l n => post_tmp x q n ⟨_, rfl, RDs.cut ra lo hi⟩⟩
  | none =>
    rw [e] at q
    simp only [] at q
    split at q
    · rename_i xs
      have p' := p
      cases p with
      | tup ha ra =>
        rename_i a vs
        refine .inr (.inl ⟨a, vs, rfl, SqT.of (x.pers _ _ ha), fun h => ?_, fun h l n => post_new x q n fun m' kn hp => .tup hp (RepDs.mono kn.P kn.n kn.io (RDs.cut ra lo hi))⟩)
        have hl : vs.length = xs.length := RepDs.length ra
        rw [hl] at h
        rw [cut_all h] at q
        exact post_val x q p'
    · rename_i z
      split at q
      · rename_i hl
        cases p with
        | str => exact .inr (.inr ⟨z, rfl, hl, post_val x q .str⟩)
      · exact q.elim
    · exact q.elim
end
def kSlK (lb hb : Bool) : List R → M R := fun rs s => match lb, hb, rs with
  | false, false, [o] => kSl o none none s
  | true, false, [o, l] => match asI l with
    | some i => kSl o (some i) none s
    | none => .stuck
  | false, true, [o, h] => match asI h with
    | some j => kSl o none (some j) s
    | none => .stuck
  | true, true, [o, l, h] => match asI l, asI h with
    | some i, some j => kSl o (some i) (some j) s
    | _, _ => .stuck
  | _, _, _ => .stuck
section
variable {X : Cx} {W : WX} {e a b : Expr} {fo fl fh : M R} {p2 pos : Pos}
theorem se_slLo (he : PE X e (toE X.K W fo)) (ha : PE X a (toE X.K W fl)) : PE X (.Subscript e (.Slice (some a) none none p2) pos) (toE X.K W (eB (fun o l s => kSlK true false [o, l] s) fo fl)) :=
  PE_imp (pe_slice sl_any he (po_some ha) po_none) fun σ H Q h => by
    show toE X.K W fo σ H fun x H1 => toE X.K W fl σ H1 fun y H2 => ∃ i, y = .int i ∧ rSlAny X.K x (some i) none H2 Q
    refine two h fun m s H v1 v2 r1 r2 x p q => ?_
    simp only [kSlK] at q
    cases e1 : asI r2 with
    | none => rw [e1] at q; exact q.elim
    | some i => rw [e1] at q; exact ⟨i, asI_ok p.2.1 e1, kSl_ok x p.1 q⟩
end
end VL
set_option maxRecDepth 100000
set_option maxHeartbeats 4000000
namespace VL
open PySem PySem.Spec L2
open PyProof.Rows hiding St
/-- a new object that many may name -/
def eBox (f : M R) : M R := fun s => (f s).bind fun r s1 => match r with
  | .tmp c => .ok (.val (.ins s1.g.length)) { s1 with g := s1.g ++ [⟨boxN, [], [c]⟩] }
  | _ => .stuck
section
variable {K : PySem.W.Frag} {m : Mp} {σ : St} {H : Hp} {s : FS} {a : Addr}
/-- nothing that is free is taken -/
def Free (m m' : Mp) : Prop := ∀ b, m.O b = none → m.P b = none → m.L b = none → m'.O b = none ∧ m'.P b = none ∧ m'.L b = none
theorem Free.refl (m : Mp) : Free m m := fun _ a b c => ⟨a, b, c⟩
theorem Free.trans {m m' m2 : Mp} (a : Free m m') (b : Free m' m2) : Free m m2 := fun p h1 h2 h3 => by
  obtain ⟨k1, k2, k3⟩ := a p h1 h2 h3
  exact b p k1 k2 k3
end
section
variable {Q : R → FS → Prop} {X : Ex → FS → Prop} {s : FS}
theorem w_box {f : M R} (h : wp (f s) (fun r s1 => ∃ c, r = .tmp c ∧ Q (.val (.ins s1.g.length)) { s1 with g := s1.g ++ [⟨boxN, [], [c]⟩] }) X) : wp (eBox f s) Q X := by
  unfold eBox
  refine w_bind (wp_mono h fun r s1 ⟨c, e, q⟩ => ?_)
  subst e; exact q
end
end VL
set_option maxRecDepth 100000
set_option maxHeartbeats 4000000
namespace VL
open PySem PySem.Spec L2
open PyProof.Rows hiding St
def tLkE (NF : Addr → Prop) (t : TE) : TE := fun σ H Q => t σ H fun x H1 => ∃ d kvs, x = .ref d ∧ H1 d = some (.dK kvs) ∧ ∀ od, NF d → Q x (upd H1 d (.frz od (.dK kvs)))
theorem pe_lockEnd {X : Cx} {e : Expr} {t : TE} (h : PE X e t) : PE X e (tLkE (NFz X) t) := by
  refine ⟨fun pins s σ H Q I hw => ?_⟩
  refine thn (h.run pins s σ H _ I hw) fun v s1 ⟨x, H1, I1, r, d, kvs, ex, hd, q⟩ => ?_
  obtain ⟨od, I2⟩ := I1.lock hd True.intro
  exact ⟨x, _, I2, r, q od (I1.nofrz hd True.intro)⟩
theorem PI_imp {X : Cx} {tg e : Expr} {w w' : TI} (h : PI X tg e w) (i : ∀ σ H R, w' σ H R → w σ H R) : PI X tg e w' := ⟨fun pins s σ H R I q => h.run pins s σ H R I (i _ _ _ q)⟩
def iDk (J : Addr → Obj → List (Key × V) → It) (td : TE) : TI := fun σ H R => td σ H fun x H1 => ∃ d o kvs, x = .ref d ∧ H1 d = some (.frz o (.dK kvs)) ∧ R (J d o kvs) H1
/-- what is kept of a dict that is walked -/
def kD : Key → D
  | .inl i => .int i
  | .inr x => .str x
theorem kD_rep {K : PySem.W.Frag} {m : Mp} (k : Key) : RD K m (kV k) (kD k) := by
  cases k <;> first | exact .int | exact .str
def unlockD (r : R) (s0 s : FS) : FS := match r with
  | .tmp _ => s
  | .var i => match s.env[i]? with
    | some (.lck (.lkd kvs)) => s.setE i (.own (.dct kvs))
    | _ => unlockV r s0 s
  | r => match cont s r with
    | some (.lkd kvs) => (put0 s r (.dct kvs)).getD s
    | _ => s
def iD (pr : Key × D → D) (f : M R) : M Lp := fun s => (f s).bind fun r s1 => match cont s1 r with
  | some (.dct kvs) => match r with
    | .tmp c => .ok { xs := kvs.map pr } s1
    | .val (.dct _) => .stuck
    | r => match put s1 r (.lkd kvs) with
      | some s2 => .ok { xs := kvs.map pr, en := fun _ => lockV r s2, ex := unlockD r s2, exx := unlockV r s2 } s1
      | none => .stuck
  | _ => .stuck
section
variable {K : PySem.W.Frag} {m m' : Mp} {σ : St} {H : Hp} {s : FS}
theorem Rel.reZ {Z' : Addr → Option HO} (x : Rel K m σ H s) (h : ∀ a o, Z' a = some o → H a = some o ∧ ∃ od kvs, o = .frz od (.dK kvs)) : Rel K { m with Z := Z' } σ H s := by
  refine ⟨x.pers, x.lock, x.oh, x.op, x.ol, x.lp, x.len, fun i z e => ?_, fun n c e => ?_, x.cnt, fun k I e => ?_, h⟩
  · exact x.env i z e
  · exact x.cells n c e
  · exact InstOk.mono (m := m) (m' := { m with Z := Z' }) ⟨fun _ _ h => h, Nat.le_refl _, fun _ _ => rfl⟩ rfl rfl rfl (fun _ _ => rfl) (fun _ _ _ h => h) (fun _ _ _ _ => rfl) (x.ins k I e)
def mz (m' m : Mp) : Mp := { m' with Z := m.Z }
theorem RepR.reZ {Z' : Addr → Option HO} {v : V} {r : R} (p : RepR K m σ H v r) : RepR K { m with Z := Z' } σ H v r := by
  cases r <;> exact p
/-- the heap where a dict is locked, and back -/
theorem lock_cell {NF : Addr → Prop} {a : Addr} {r : R} {kvs : List (Key × D)} {vs : List (Key × V)} {s2 : FS} {od : Obj} (hn : NF a) (x : Rel K m σ H s) (p : RepR K m σ H (.ref a) r) (hr : ∀ c, r ≠ .tmp c) (hd : ∀ d, r ≠ .val (.dct d)) (e : cont s r = some (.dct kvs)) (ha : H a = some (.dK vs)) (rk : RKs K m vs kvs)
    (ep : put s r (.lkd kvs) = some s2) :
    ∃ m1 bk, Back K NF m m1 (unlockD r s2) (unlockV r s2) bk ∧ Rel K m1 σ (upd H a (.frz od (.dK vs))) (lockV r s2) ∧ m1.Z a = some (.frz od (.dK vs)) ∧ m.kn m1 := by
  have hz : m.Z a = none := by
    cases q : m.Z a with
    | none => rfl
    | some o => obtain ⟨q1, od', kv', q2⟩ := x.zz a o q; rw [ha, q2] at q1; cases q1
  obtain ⟨a', ea, x1⟩ := Rel.put (o := .frz od (.dK vs)) x p e ep ⟨od, vs, rfl, rk⟩
  cases ea
  have p1 : RepR K m σ (upd H a (.frz od (.dK vs))) (.ref a) r := by
    cases r with
    | tmp c => exact absurd rfl (hr c)
    | _ => exact p
  have x2 := x1.lkF p1
  have x3 : Rel K { lkF m a r (upd H a (.frz od (.dK vs))) s2 with Z := fun b => if b = a then some (.frz od (.dK vs)) else m.Z b } σ (upd H a (.frz od (.dK vs))) (lockV r s2) := by
    refine x2.reZ fun b o q => ?_
    by_cases hb : b = a
    · rw [if_pos hb] at q; cases q; rw [hb]; exact ⟨upd_same, od, vs, rfl⟩
    · rw [if_neg hb] at q; exact x1.zz b o q
  have key : ∀ m', Mp.le { lkF m a r (upd H a (.frz od (.dK vs))) s2 with Z := fun b => if b = a then some (.frz od (.dK vs)) else m.Z b } m' → (lkF m a r (upd H a (.frz od (.dK vs))) s2).le (mz m' m) := fun m' l =>
    ⟨l.P, l.L, l.al, l.n, l.io, l.nc, l.ic, l.lks, (lkF_Z m a r _ s2).symm⟩
  have dz : ∀ m', Mp.le { lkF m a r (upd H a (.frz od (.dK vs))) s2 with Z := fun b => if b = a then some (.frz od (.dK vs)) else m.Z b } m' → ∀ σ' H' s', Rel K m' σ' H' s' → Rel K (mz m' m) σ' H' s' ∧ H' a = some (.frz od (.dK vs)) := fun m' l σ' H' s' x' => by
    refine ⟨x'.reZ fun b o q => x'.zz b o ?_, (x'.zz a _ (by rw [l.Z]; exact if_pos rfl)).1⟩
    rw [l.Z]
    show (if b = a then _ else m.Z b) = some o
    rw [if_neg fun z => ?_]; exact q
    rw [z, hz] at q; cases q
  refine ⟨_, fun m' => mb (mz m' m) m, ⟨fun m' l => mb_le (key m' l).lew, fun m' l σ' H' s' x' => ?_, fun m' l σ' H' s' x' => (dz m' l σ' H' s' x').1.unlock p1 (key m' l).lew, fun m' l => ⟨fun _ _ h => h, Nat.le_refl _, fun _ _ => rfl⟩⟩, x3, if_pos rfl, ?_⟩
  · obtain ⟨xd, hf⟩ := dz m' l σ' H' s' x'
    have xu := xd.unlock p1 (key m' l).lew
    have lm : m.le (mb (mz m' m) m) := mb_le (key m' l).lew
    have rp0 : ∀ v r', RepR K m' σ' H' v r' → RepR K (mb (mz m' m) m) σ' H' v r' := fun v r' q => RepR.mbk (m' := mz m' m) (lkF_L p1 (key m' l).lew) (RepR.reZ q)
    have stay : unlockD r s2 s' = unlockV r s2 s' → ∃ H2, Un NF H' H2 ∧ Rel K (mb (mz m' m) m) σ' H2 (unlockD r s2 s') ∧ ∀ v r', RepR K m' σ' H' v r' → RepR K (mb (mz m' m) m) σ' H2 v r' := fun eq => ⟨H', .inl rfl, by rw [eq]; exact xu, rp0⟩
    -- with the cell unlocked
    have go : ∀ {kvs' : List (Key × D)} {s3 s4 : FS}, Rel K (mb (mz m' m) m) σ' H' s3 → RepR K (mb (mz m' m) m) σ' H' (.ref a) r → cont s3 r = some (.lkd kvs') → put0 s3 r (.dct kvs') = some s4 → unlockD r s2 s' = s4 → (∃ w, (mb (mz m' m) m).O a = some w) →
        ∃ H2, Un NF H' H2 ∧ Rel K (mb (mz m' m) m) σ' H2 (unlockD r s2 s') ∧ ∀ v r', RepR K m' σ' H' v r' → RepR K (mb (mz m' m) m) σ' H2 v r' := fun {kvs' s3 s4} x5 p5 e5 e6 e7 ⟨w, ho⟩ => by
      obtain ⟨b, o, eb, ho2, od2, vs2, eo, rk2⟩ := cont_ok x5 p5 e5
      cases eb
      rw [hf] at ho2
      cases ho2
      cases eo
      obtain ⟨b, eb, x6⟩ := Rel.put0 (o := .dK vs) x5 p5 e5 e6 ⟨vs, rfl, rk2⟩ fun b eb c u q => by
        cases eb
        obtain ⟨q1, q2⟩ := x5.zz c u q
        refine ⟨?_, q2⟩
        rw [upd_ne fun z => ?_]; exact q1
        have q' : m.Z c = some u := q
        rw [z, hz] at q'; cases q'
      cases eb
      refine ⟨_, .inr ⟨a, od, .dK vs, hn, hf, rfl⟩, by rw [e7]; exact x6, fun v r' q => ?_⟩
      have q' := rp0 v r' q
      cases r' with
      | tmp c =>
        obtain ⟨b, e8, h1, h2, h3, u, hu, rc⟩ := q'
        refine ⟨b, e8, h1, h2, h3, u, ?_, rc⟩
        rw [upd_ne fun z => ?_]; exact hu
        rw [z, ho] at h1; cases h1
      | _ => exact q'
    cases r with
    | tmp c => exact absurd rfl (hr c)
    | var i =>
      cases q : s'.env[i]? with
      | none => exact stay (by simp only [unlockD, q])
      | some z =>
        cases z with
        | lck c =>
          cases c with
          | lkd kvs' =>
            have hi : σ'[i]? = some (some (.ref a)) ∧ (∃ w, (mb (mz m' m) m).O a = some w) := by
              obtain ⟨b, f1, ⟨f2, _⟩, f3⟩ := x'.env i _ q
              have hl := l.lks
              have e9 : b = a := by
                have pp : σ[i]? = some (some (.ref a)) := p1
                have f3' : m'.lks i = some b := f3
                rw [hl] at f3'
                have f4 : (VL.lkF m a (.var i) (upd H a (.frz od (.dK vs))) s2).lks i = some b := f3'
                simp only [VL.lkF] at f4
                cases qs : s2.env[i]? with
                | none =>
                  have : cont s (.var i) = none ∨ True := .inr trivial
                  rw [qs] at f4
                  -- the cell was there
                  have ec := e
                  simp only [cont] at ec
                  have hlen : s2.env.length = s.env.length := by
                    unfold VL.put at ep; rw [e] at ep; simp only [VL.put0] at ep
                    cases qq : s.env[i]? with
                    | none => rw [qq] at ec; cases ec
                    | some zz =>
                      rw [qq] at ep ec
                      cases zz <;> first
                        | (cases ep; exact List.length_set)
                        | cases ec
                  rw [List.getElem?_eq_none_iff] at qs
                  cases qq : s.env[i]? with
                  | none => rw [qq] at ec; cases ec
                  | some zz => have := (List.getElem?_eq_some_iff.mp qq).1; omega
                | some zz =>
                  rw [qs] at f4
                  cases zz with
                  | own c2 =>
                    have f5 : (if i = i then some a else m.lks i) = some b := f4
                    rw [if_pos rfl] at f5; exact (Option.some.inj f5).symm
                  | lck c2 =>
                    obtain ⟨b2, g1, g2, g3⟩ := x1.env i _ qs
                    rw [pp] at g1; cases g1
                    have f6 : m.lks i = some b := f4
                    rw [g3] at f6; exact (Option.some.inj f6).symm
                  | no => exact absurd e (by
                      have ec := e
                      unfold VL.put at ep; rw [e] at ep; simp only [VL.put0] at ep
                      simp only [cont] at ec
                      cases qq : s.env[i]? with
                      | none => rw [qq] at ec; cases ec
                      | some zz =>
                        rw [qq] at ep ec
                        have hlt := (List.getElem?_eq_some_iff.mp qq).1
                        cases zz <;> first
                          | (cases ep; simp only [FS.setE, List.getElem?_set_self hlt] at qs; cases qs)
                          | cases ec)
                  | val d2 => exact absurd e (by
                      have ec := e
                      unfold VL.put at ep; rw [e] at ep; simp only [VL.put0] at ep
                      simp only [cont] at ec
                      cases qq : s.env[i]? with
                      | none => rw [qq] at ec; cases ec
                      | some zz =>
                        rw [qq] at ep ec
                        have hlt := (List.getElem?_eq_some_iff.mp qq).1
                        cases zz <;> first
                          | (cases ep; simp only [FS.setE, List.getElem?_set_self hlt] at qs; cases qs)
                          | cases ec)
                  | pc n2 => exact absurd e (by
                      have ec := e
                      unfold VL.put at ep; rw [e] at ep; simp only [VL.put0] at ep
                      simp only [cont] at ec
                      cases qq : s.env[i]? with
                      | none => rw [qq] at ec; cases ec
                      | some zz =>
                        rw [qq] at ep ec
                        have hlt := (List.getElem?_eq_some_iff.mp qq).1
                        cases zz <;> first
                          | (cases ep; simp only [FS.setE, List.getElem?_set_self hlt] at qs; cases qs)
                          | cases ec)
                  | ic k2 j2 => exact absurd e (by
                      have ec := e
                      unfold VL.put at ep; rw [e] at ep; simp only [VL.put0] at ep
                      simp only [cont] at ec
                      cases qq : s.env[i]? with
                      | none => rw [qq] at ec; cases ec
                      | some zz =>
                        rw [qq] at ep ec
                        have hlt := (List.getElem?_eq_some_iff.mp qq).1
                        cases zz <;> first
                          | (cases ep; simp only [FS.setE, List.getElem?_set_self hlt] at qs; cases qs)
                          | cases ec)
              subst e9
              exact ⟨f1, _, f2⟩
            obtain ⟨hi, ho⟩ := hi
            have hlt : i < s'.env.length := (List.getElem?_eq_some_iff.mp q).1
            -- the slot is the frame's own again
            have x5 : Rel K (mb (mz m' m) m) σ' H' (s'.setE i (.own (.lkd kvs'))) := by
              obtain ⟨b, f1, f2, f3⟩ := xd.env i _ q
              rw [hi] at f1; cases f1
              have hlk : (VL.lkF m a (.var i) (upd H a (.frz od (.dK vs))) s2).lew (mz m' m) := (key m' l).lew
              have lL := lkF_L p1 hlk
              refine ⟨xd.pers, fun b o h => xd.lock b o (lL b o h), xd.oh, xd.op, fun b w h => ?_, fun b o h => xd.lp b o (lL b o h), by show (s'.env.set i _).length = _; rw [List.length_set]; exact xd.len, fun j z h => ?_, xd.cells, xd.cnt, fun k I h => insLks xd _ k I h _, xd.zz⟩
              · show m.L b = none
                cases qq : m.L b with
                | none => rfl
                | some o => have := xd.ol b w h; rw [lL b o qq] at this; cases this
              · rcases setE_get (s := s') h with ⟨rfl, rfl⟩ | ⟨hj, h⟩
                · exact ⟨a, hi, f2⟩
                · have y := xd.env j z h
                  cases z with
                  | lck c2 =>
                    obtain ⟨b, g1, g2, g3⟩ := y
                    refine ⟨b, g1, g2, ?_⟩
                    show m.lks j = some b
                    have g3' : m'.lks j = some b := g3
                    rw [l.lks] at g3'
                    have g4 : (VL.lkF m a (.var i) (upd H a (.frz od (.dK vs))) s2).lks j = some b := g3'
                    simp only [VL.lkF] at g4
                    cases qs : s2.env[i]? with
                    | none => rw [qs] at g4; exact g4
                    | some zz =>
                      rw [qs] at g4
                      cases zz with
                      | own c3 => exact (show (if j = i then some a else m.lks j) = some b from g4).symm.trans (if_neg hj) |>.symm
                      | _ => exact g4
                  | _ => exact y
            have hlt2 : i < (s'.setE i (.own (.lkd kvs'))).env.length := by show i < (s'.env.set i _).length; rw [List.length_set]; exact hlt
            have gi : (s'.setE i (.own (.lkd kvs'))).env[i]? = some (.own (.lkd kvs')) := List.getElem?_set_self hlt
            refine go (kvs' := kvs') (s4 := (s'.setE i (.own (.lkd kvs'))).setE i (.own (.dct kvs'))) x5 hi (by simp only [cont, gi]) (by simp only [VL.put0, gi]) ?_ ho
            have e8 : unlockD (.var i) s2 s' = s'.setE i (.own (.dct kvs')) := by simp only [unlockD, q]
            rw [e8]
            show ({ s' with env := s'.env.set i _ } : FS) = { s' with env := (s'.env.set i _).set i _ }
            rw [List.set_set]
          | lst xs => exact stay (by simp only [unlockD, q])
          | dct xs => exact stay (by simp only [unlockD, q])
        | no => exact stay (by simp only [unlockD, q])
        | val d => exact stay (by simp only [unlockD, q])
        | own c => exact stay (by simp only [unlockD, q])
        | pc n => exact stay (by simp only [unlockD, q])
        | ic k j => exact stay (by simp only [unlockD, q])
    | pc n =>
      have hp : RepR K (mb (mz m' m) m) σ' H' (.ref a) (.pc n) := by
        show V.ref a = .ref ((mb (mz m' m) m).al n)
        rw [lm.al]; exact p1
      cases q : cont s' (.pc n) with
      | none => exact stay (by simp only [unlockD, q]; rfl)
      | some c =>
        cases c with
        | lkd kvs' =>
          have ho : ∃ w, (mb (mz m' m) m).O a = some w := by
            obtain ⟨g1, _⟩ := xu.cells n _ q
            have : V.ref a = .ref ((mb (mz m' m) m).al n) := hp
            cases this
            exact ⟨_, g1⟩
          exact go (kvs' := kvs') (s3 := s') xu hp q rfl (by simp only [unlockD, q, VL.put0]; rfl) ho
        | lst xs => exact stay (by simp only [unlockD, q]; rfl)
        | dct xs => exact stay (by simp only [unlockD, q]; rfl)
    | ic k j =>
      have hp : RepR K (mb (mz m' m) m) σ' H' (.ref a) (.ic k j) := by
        obtain ⟨g1, g2, g3⟩ := p1
        exact ⟨by rw [lm.ic k j g2 g3]; exact g1, Nat.lt_of_lt_of_le g2 lm.n, Nat.lt_of_lt_of_le g3 (lm.nc k g2)⟩
      cases q : cont s' (.ic k j) with
      | none => exact stay (by simp only [unlockD, q]; rfl)
      | some c =>
        cases c with
        | lkd kvs' =>
          have q0 := q
          simp only [cont] at q0
          cases qI : s'.g[k]? with
          | none => rw [qI] at q0; cases q0
          | some I =>
            rw [qI] at q0
            have ho : ∃ w, (mb (mz m' m) m).O a = some w := by
              obtain ⟨h1, _, h3⟩ := hp
              have := ((xu.ins k I qI).cells j _ h3 q0).1
              cases h1
              exact ⟨_, this⟩
            exact go (kvs' := kvs') (s3 := s') xu hp q (by simp only [VL.put0, qI]; rfl) (by simp only [unlockD, q, VL.put0, qI]; rfl) ho
        | lst xs => exact stay (by simp only [unlockD, q]; rfl)
        | dct xs => exact stay (by simp only [unlockD, q]; rfl)
    | val d =>
      have hp : RepR K (mb (mz m' m) m) σ' H' (.ref a) (.val d) := RepD.mono lm.P lm.n lm.io p1
      cases d with
      | ins k =>
        cases q : cont s' (.val (.ins k)) with
        | none => exact stay (by simp only [unlockD, q]; rfl)
        | some c =>
          cases c with
          | lkd kvs' =>
            have q0 := q
            simp only [cont] at q0
            cases qI : s'.g[k]? with
            | none => rw [qI] at q0; cases q0
            | some I =>
              rw [qI] at q0
              simp only [] at q0
              split at q0
              · rename_i hb
                have ho : ∃ w, (mb (mz m' m) m).O a = some w := by
                  obtain ⟨_, z | ⟨c', z, g1, _⟩⟩ := (xu.ins k I qI).box hb
                  · rw [z] at q0; cases q0
                  · cases hp; exact ⟨_, g1⟩
                exact go (kvs' := kvs') (s3 := s') xu hp q (by simp only [VL.put0, qI, if_pos hb]; rfl) (by simp only [unlockD, q, VL.put0, qI, if_pos hb]; rfl) ho
              · cases q0
          | lst xs => exact stay (by simp only [unlockD, q]; rfl)
          | dct xs => exact stay (by simp only [unlockD, q]; rfl)
      | dct xs => exact absurd rfl (hd xs)
      | lst xs => cases e
      | non => cases e
      | bl _ => cases e
      | int _ => cases e
      | str _ => cases e
      | frz _ => cases e
      | tup _ => cases e
  · obtain ⟨e1, e2, e3, e4, e5, _⟩ := lkF_eq m a r (upd H a (.frz od (.dK vs))) s2
    exact ⟨fun b o h => by show (lkF m a r _ s2).P b = some o; rw [e1]; exact h, by show m.n ≤ (lkF m a r _ s2).n; rw [e4]; exact Nat.le_refl _, fun k _ => by show (lkF m a r _ s2).io k = m.io k; rw [e5]⟩
theorem lock_tmp {NF : Addr → Prop} {a : Addr} {c : C} {vs : List (Key × V)} {od : Obj} (hn : NF a) (x : Rel K m σ H s) (p : RepR K m σ H (.ref a) (.tmp c)) (ha : H a = some (.dK vs)) :
    ∃ m1 bk, Back K NF m m1 (fun s => s) (fun s => s) bk ∧ Rel K m1 σ (upd H a (.frz od (.dK vs))) s ∧ m1.Z a = some (.frz od (.dK vs)) ∧ m.kn m1 := by
  obtain ⟨a', ea, h1, h2, h3, _⟩ := p
  cases ea
  have hz : m.Z a = none := by
    cases q : m.Z a with
    | none => rfl
    | some o => obtain ⟨q1, od', kv', q2⟩ := x.zz a o q; rw [ha, q2] at q1; cases q1
  have ne : ∀ {b w}, m.O b = some w → b ≠ a := fun {b w} h z => by rw [z, h1] at h; cases h
  let F : HO := .frz od (.dK vs)
  let m1 : Mp := { m with L := fun b => if b = a then some F else m.L b, Z := fun b => if b = a then some F else m.Z b }
  have insE : ∀ {m0 : Mp} {L' : Hp} {Z' : Addr → Option HO} {H0 H1 : Hp} {k I}, (∀ b w, w.isI k → m0.O b = some w → H1 b = H0 b) → InstOk K m0 H0 k I → InstOk K { m0 with L := L', Z := Z' } H1 k I := fun {m0 L' Z' H0 H1 k I} h y =>
    InstOk.mono (m := m0) (m' := { m0 with L := L', Z := Z' }) ⟨fun _ _ h => h, Nat.le_refl _, fun _ _ => rfl⟩ rfl rfl rfl (fun _ _ => rfl) (fun _ _ _ h => h) h y
  have relE : ∀ {m0 : Mp} {L' : Hp} {Z' : Addr → Option HO} {H0 H1 : Hp} {σ0 : St} {s0 : FS}, Rel K m0 σ0 H0 s0 → (∀ b w, m0.O b = some w → H1 b = H0 b) → (∀ b o, m0.P b = some o → H1 b = H0 b) → (∀ b o, L' b = some o → H1 b = some o) → (∀ b w, m0.O b = some w → L' b = none) →
      (∀ b o, L' b = some o → m0.P b = none) → (∀ b o, Z' b = some o → H1 b = some o ∧ ∃ od kvs, o = .frz od (.dK kvs)) → Rel K { m0 with L := L', Z := Z' } σ0 H1 s0 := fun {m0 L' Z' H0 H1 σ0 s0} x0 g1 g2 g3 g4 g5 g6 => by
    refine ⟨fun b o h => (g2 b o h).trans (x0.pers b o h), g3, fun b w h => by rw [g1 b w h]; exact x0.oh b w h, x0.op, g4, g5, x0.len, fun i z e => ?_, fun n c e => ?_, x0.cnt, fun k I e => insE (fun b w _ h => g1 b w h) (x0.ins k I e), g6⟩
    · have y := x0.env i z e
      cases z with
      | own c => obtain ⟨b, f1, f2, u, f3, f4⟩ := y; exact ⟨b, f1, f2, u, (g1 _ _ f2).trans f3, f4⟩
      | lck c => obtain ⟨b, f1, ⟨f2, u, f3, f4⟩, f5⟩ := y; exact ⟨b, f1, ⟨f2, u, (g1 _ _ f2).trans f3, f4⟩, f5⟩
      | _ => exact y
    · obtain ⟨f2, u, f3, f4⟩ := x0.cells n c e
      exact ⟨f2, u, (g1 _ _ f2).trans f3, f4⟩
  have x1 : Rel K m1 σ (upd H a F) s := by
    refine relE x (fun b w h => upd_ne (ne h)) (fun b o h => upd_ne fun z => by rw [z, h2] at h; cases h) (fun b o h => ?_) (fun b w h => ?_) (fun b o h => ?_) (fun b o h => ?_)
    · have h' : (if b = a then some F else m.L b) = some o := h
      by_cases hb : b = a
      · rw [if_pos hb] at h'; cases h'; rw [hb, upd_same]
      · rw [if_neg hb] at h'; rw [upd_ne hb]; exact x.lock b o h'
    · show (if b = a then some F else m.L b) = none
      rw [if_neg (ne h)]; exact x.ol b w h
    · have h' : (if b = a then some F else m.L b) = some o := h
      by_cases hb : b = a
      · rw [hb]; exact h2
      · rw [if_neg hb] at h'; exact x.lp b o h'
    · have h' : (if b = a then some F else m.Z b) = some o := h
      by_cases hb : b = a
      · rw [if_pos hb] at h'; cases h'; rw [hb]; exact ⟨upd_same, od, vs, rfl⟩
      · rw [if_neg hb] at h'; rw [upd_ne hb]; exact x.zz b o h'
  have facts : ∀ m', m1.le m' → (m'.L a = some F) ∧ (∀ b o, m.L b = some o → m'.L b = some o) ∧ (∀ b o, m.Z b = some o → b ≠ a ∧ m'.Z b = some o) := fun m' l => by
    refine ⟨by rw [l.L]; exact if_pos rfl, fun b o h => ?_, fun b o h => ?_⟩
    · rw [l.L]
      show (if b = a then some F else m.L b) = some o
      rw [if_neg fun z => ?_]; exact h
      rw [z, h3] at h; cases h
    · have hb : b ≠ a := fun z => by rw [z, hz] at h; cases h
      refine ⟨hb, ?_⟩
      rw [l.Z]
      show (if b = a then some F else m.Z b) = some o
      rw [if_neg hb]; exact h
  refine ⟨m1, fun m' => { m' with L := m.L, Z := m.Z }, ⟨fun m' l => ⟨l.P, rfl, l.al, l.n, l.io, l.nc, l.ic, l.lks, rfl⟩, fun m' l σ' H' s' x' => ?_, fun m' l σ' H' s' x' => ?_, fun m' l => ⟨fun _ _ h => h, Nat.le_refl _, fun _ _ => rfl⟩⟩, x1, if_pos rfl, ⟨fun _ _ h => h, Nat.le_refl _, fun _ _ => rfl⟩⟩
  · obtain ⟨f1, f2, f3⟩ := facts m' l
    have hf := x'.lock a F f1
    have ne' : ∀ {b w}, m'.O b = some w → b ≠ a := fun {b w} h z => by have := x'.ol b w h; rw [z, f1] at this; cases this
    refine ⟨upd H' a (.dK vs), .inr ⟨a, od, .dK vs, hn, hf, rfl⟩, relE x' (fun b w h => upd_ne (ne' h)) (fun b o h => upd_ne fun z => ?_) (fun b o h => ?_) (fun b w h => ?_) (fun b o h => x'.lp b o (f2 b o h)) (fun b o h => ?_), fun v r' q => ?_⟩
    · have := x'.lp a F f1; rw [z, this] at h; cases h
    · rw [upd_ne fun z => ?_]; exact x'.lock b o (f2 b o h)
      rw [z, h3] at h; cases h
    · cases qq : m.L b with
      | none => rfl
      | some o => have := x'.ol b w h; rw [f2 b o qq] at this; cases this
    · obtain ⟨hb, hz'⟩ := f3 b o h
      rw [upd_ne hb]; exact x'.zz b o hz'
    · cases r' with
      | tmp c' =>
        obtain ⟨b, e8, g1, g2, g3, u, hu, rc⟩ := q
        refine ⟨b, e8, g1, g2, ?_, u, ?_, RepC.mono (m := m') (m' := { m' with L := m.L, Z := m.Z }) ⟨fun _ _ h => h, Nat.le_refl _, fun _ _ => rfl⟩ rc⟩
        · show m.L b = none
          cases qq : m.L b with
          | none => rfl
          | some o => rw [f2 b o qq] at g3; cases g3
        · rw [upd_ne fun z => ?_]; exact hu
          rw [z, f1] at g3; cases g3
      | _ => exact q
  · obtain ⟨f1, f2, f3⟩ := facts m' l
    refine relE x' (fun _ _ _ => rfl) (fun _ _ _ => rfl) (fun b o h => x'.lock b o (f2 b o h)) (fun b w h => ?_) (fun b o h => x'.lp b o (f2 b o h)) (fun b o h => x'.zz b o (f3 b o h).2)
    cases qq : m.L b with
    | none => rfl
    | some o => have := x'.ol b w h; rw [f2 b o qq] at this; cases this
/-- the iterator over a locked dict gives the items' images -/
def WalkD (K : PySem.W.Frag) (J : Addr → Obj → List (Key × V) → It) (pr : Key × D → D) : Prop := ∀ (d : Addr) (od : Obj) (vs : List (Key × V)) (kvs : List (Key × D)) (m' : Mp) (σ' : St) (H' : Hp) (s' : FS), Rel K m' σ' H' s' → H' d = some (.frz od (.dK vs)) → RKs K m' vs kvs →
  (∀ i x, (kvs.map pr)[i]? = some x → (J d od vs).go i H' ∧ ∀ y H2, (J d od vs).yld i H' y H2 → ∃ m2, m'.le m2 ∧ Rel K m2 σ' H2 s' ∧ RD K m2 y x) ∧ ∀ i, (kvs.map pr).length ≤ i → (J d od vs).stop i H'
theorem RKs.get : ∀ {vs : List (Key × V)} {kvs : List (Key × D)}, RKs K m vs kvs → ∀ {i : Nat} {k : Key} {d : D}, kvs[i]? = some (k, d) → ∃ v, vs[i]? = some (k, v) ∧ RD K m v d
  | _, _, .nil, i, k, d, h => by simp at h
  | _, _, .cons a r, 0, k, d, h => by
    simp only [List.getElem?_cons_zero, Option.some.injEq, Prod.mk.injEq] at h
    obtain ⟨rfl, rfl⟩ := h
    exact ⟨_, rfl, a⟩
  | _, _, .cons a r, i + 1, k, d, h => by
    simp only [List.getElem?_cons_succ] at h ⊢
    exact RKs.get r h
theorem walk_keysD : WalkD K Itk fun p => kD p.1 := by
  intro d od vs kvs m' σ' H' s' x hf rk
  have hl : vs.length = kvs.length := RepKs.length rk
  refine ⟨fun i y hy => ?_, fun i hi => ⟨hf, by rw [List.length_map] at hi; omega⟩⟩
  rw [List.getElem?_map] at hy
  cases q : kvs[i]? with
  | none => rw [q] at hy; cases hy
  | some p =>
    rw [q] at hy
    cases hy
    obtain ⟨v, hv, _⟩ := RKs.get rk (k := p.1) (d := p.2) q
    refine ⟨⟨hf, (List.getElem?_eq_some_iff.mp hv).1⟩, fun y H2 hy => ?_⟩
    obtain ⟨rfl, k, v', hk, rfl⟩ := hy
    rw [hv] at hk
    cases hk
    exact ⟨m', Mp.le.refl m', x, kD_rep _⟩
end
theorem src_dict {K : PySem.W.Frag} {NF : Addr → Prop} {W : WX} {f : M R} {J : Addr → Obj → List (Key × V) → It} {pr : Key × D → D} (hw : WalkD K J pr) : SrcOk K NF W (iDk J (tLkE NF (toE K W f))) (iD pr f) := by
  intro σ H RJ h
  refine one_src h fun m s H v r x p q => ?_
  cases e : cont s r with
  | none => simp only [e] at q; exact q.elim
  | some c =>
    simp only [e] at q
    cases c with
    | lst xs => exact q.elim
    | lkd xs => exact q.elim
    | dct kvs =>
      obtain ⟨a, o, rfl, ha, vs, rfl, rk⟩ := cont_ok x p e
      refine ⟨a, vs, rfl, ha, fun od hn => ⟨a, od, vs, rfl, upd_same, ?_⟩⟩
      have walk : ∀ {m1 : Mp} {lp : Lp}, m.kn m1 → m1.Z a = some (.frz od (.dK vs)) → lp.xs = kvs.map pr → Walks K (J a od vs) m1 lp := fun {m1 lp} kn hz hx m' σ' H' s' l x' _ => by
        have hf := (x'.zz a _ (by rw [l.Z]; exact hz)).1
        rw [hx]
        exact hw a od vs kvs m' σ' H' s' x' hf (RepKs.mono (fun b o h => l.P b o (kn.P b o h)) (Nat.le_trans kn.n l.n) (fun k hk => (l.io k (Nat.lt_of_lt_of_le hk kn.n)).trans (kn.io k hk)) rk)
      have gen : (∀ c, r ≠ .tmp c) → (∀ d, r ≠ .val (.dct d)) → PostI K W m σ (match put s r (.lkd kvs) with
          | some s2 => Res.ok { xs := kvs.map pr, en := fun _ => lockV r s2, ex := unlockD r s2, exx := unlockV r s2 } s
          | none => .stuck) (fun lp s1 m0 H1 => ∀ J m1 bk H2, Back K NF m0 m1 lp.ex lp.exx bk → Rel K m1 σ H2 (lp.en s1) → Walks K J m1 lp → RJ J H2) → RJ (J a od vs) (upd H a (.frz od (.dK vs))) := fun hr hd q => by
        cases ep : put s r (.lkd kvs) with
        | none => rw [ep] at q; exact q.elim
        | some s2 =>
          rw [ep] at q
          obtain ⟨m1, bk, b, x1, hz, kn⟩ := lock_cell (od := od) hn x p hr hd e ha rk ep
          exact q H m (Mp.le.refl m) x (J a od vs) m1 bk _ b x1 (walk kn hz rfl)
      cases r with
      | tmp c =>
        obtain ⟨m1, bk, b, x1, hz, kn⟩ := lock_tmp (od := od) hn x p ha
        exact q H m (Mp.le.refl m) x (J a od vs) m1 bk _ b x1 (walk kn hz rfl)
      | var i => exact gen (fun _ z => nomatch z) (fun _ z => nomatch z) q
      | pc n => exact gen (fun _ z => nomatch z) (fun _ z => nomatch z) q
      | ic k j => exact gen (fun _ z => nomatch z) (fun _ z => nomatch z) q
      | val d =>
        cases d with
        | dct _ => exact q.elim
        | ins k => exact gen (fun _ z => nomatch z) (fun _ z => nomatch z) q
        | _ => cases e
section
variable {X : Cx} {W : WX} {tg e : Expr} {f : M R} {apos cpos : Pos}
theorem pi_dkeys (h : PE X e (toE X.K W f)) : PI X tg e (iDk Itk (tLkE (NFz X) (toE X.K W f))) := PI_imp (pi_keys (pe_lockEnd h)) fun σ H R ⟨m, s, x, p⟩ => ⟨m, s, x, by
  cases ef : f s with
  | stuck => rw [ef] at p; exact p
  | exc ex s1 => rw [ef] at p; exact p
  | ok r s1 =>
    rw [ef] at p
    intro v H' m' l x' rp
    obtain ⟨d, kvs, h1, h2, h3⟩ := p v H' m' l x' rp
    refine ⟨d, kvs, h1, h2, fun od hn => ?_⟩
    obtain ⟨d', o, kvs', g1, g2, g3⟩ := h3 od hn
    exact ⟨d', o, g1, .inl ⟨kvs', g2, g3⟩⟩⟩
end
end VL
set_option maxRecDepth 100000
set_option maxHeartbeats 4000000
namespace VL
open PySem PySem.Spec L2
open PyProof.Rows hiding St
def iAny2 (f : M R) : M Lp := fun s => match f s with
  | .ok r s1 => match cont s1 r with
    | some (.dct _) => iD (fun p => kD p.1) f s
    | _ => iAny f s
  | _ => iAny f s
theorem src_any2 {K : PySem.W.Frag} {NF : Addr → Prop} {W : WX} {f : M R} : SrcOk K NF W (fun σ H R => (iList K (toE K W f) σ H R ∨ iTup K (toE K W f) σ H R) ∨ iDk Itk (tLkE NF (toE K W f)) σ H R) (iAny2 f) := by
  intro σ H RJ h
  obtain ⟨m, s, x, p⟩ := h
  unfold iAny2 at p
  split at p
  · split at p
    · exact .inr (src_dict walk_keysD σ H RJ ⟨m, s, x, p⟩)
    · exact .inl (src_any (NF := NF) σ H RJ ⟨m, s, x, p⟩)
  · exact .inl (src_any (NF := NF) σ H RJ ⟨m, s, x, p⟩)
theorem pi_any2 {X : Cx} {W : WX} {tg e : Expr} {f : M R} (h : PE X e (toE X.K W f)) : PI X tg e (fun σ H R => (iList X.K (toE X.K W f) σ H R ∨ iTup X.K (toE X.K W f) σ H R) ∨ iDk Itk (tLkE (NFz X) (toE X.K W f)) σ H R) := PI_or (pi_any h) (pi_dkeys h)
def setAll : List Nat → List D → FS → FS
  | i :: is, d :: ds, s => setAll is ds (s.setE i (.val d))
  | _, _, s => s
def gTupD (is : List Nat) (d : D) (s : FS) : Option FS := match d with
  | .tup ds => if ds.length = is.length then some (setAll is ds s) else none
  | _ => none
def gNs : List Nat → TGs
  | [] => gNil
  | i :: is => gCons (gName i) (gNs is)
theorem fill_any {K : PySem.W.Frag} {m : Mp} {σ : St} {H : Hp} {s : FS} {i : Nat} {v : V} {d : D} (x : Rel K m σ H s) (r : RD K m v d) : Rel K m (σ.set i (some v)) H (s.setE i (.val d)) := by
  by_cases hi : i < σ.length
  · exact x.fill ⟨v, set_self hi, r⟩
  · have e1 : s.env.set i (.val d) = s.env := List.set_eq_of_length_le (by rw [x.len]; omega)
    have e2 : σ.set i (some v) = σ := List.set_eq_of_length_le (by omega)
    have e3 : s.setE i (.val d) = s := by unfold FS.setE; rw [e1]
    rw [e2, e3]; exact x
theorem gNs_ok {K : PySem.W.Frag} {m : Mp} {H : Hp} {Q : St → Hp → Prop} : ∀ {is : List Nat} {ds : List D} {vs : List V} {σ : St} {s : FS}, Rel K m σ H s → RDs K m vs ds → ds.length = is.length → (∀ σ', Rel K m σ' H (setAll is ds s) → Q σ' H) → gNs is vs σ H Q
  | [], [], vs, σ, s, x, r, hl, q => by cases r; exact ⟨rfl, q σ x⟩
  | i :: is, d :: ds, vs, σ, s, x, r, hl, q => by
    cases r with
    | cons a r => exact ⟨_, _, rfl, gNs_ok (fill_any x a) r (by simpa using hl) q⟩
  | [], _ :: _, vs, σ, s, x, r, hl, q => by simp at hl
  | _ :: _, [], vs, σ, s, x, r, hl, q => by simp at hl
theorem tup_ok {K : PySem.W.Frag} {m : Mp} {σ : St} {H : Hp} {s s1 : FS} {v : V} {d : D} {is : List Nat} {Q : St → Hp → Prop} {n : Nat} (hn : is.length = n) (x : Rel K m σ H s) (r : RD K m v d) (e : gTupD is d s = some s1) (q : ∀ σ', Rel K m σ' H s1 → Q σ' H) : gTup K n (gNs is) v σ H Q := by
  unfold gTupD at e
  split at e
  · rename_i ds
    split at e
    · rename_i hl
      cases e
      cases r with
      | tup ha ra => exact ⟨_, _, rfl, SqT.of (x.pers _ _ ha), by rw [ra.length, hl, hn], gNs_ok x ra hl q⟩
    · cases e
  · cases e
/-- a, b, .. = e -/
def sTupA (is : List Nat) (f : M R) : SM := fun s => (f s).bindS fun r s1 => match r with
  | .val d => match gTupD is d s1 with
    | some s2 => .next s2
    | none => .stuck
  | _ => .stuck
theorem ss_tupA {X : Cx} {W : WX} {tg e : Expr} {pos : Pos} {f : M R} {is : List Nat} {n : Nat} (he : PE X e (toE X.K W f)) (hg : PG X tg (gTup X.K n (gNs is))) (hn : is.length = n := by rfl) (hs : swapsWithSole [tg] e pos.line X.env = pure false := by rfl) (hw : swappedStores [tg] e X.env = pure none := by rfl)
    (h1 : (assignEach [tg] X.env).map (·.2) = [assign tg X.env] := by rfl) : PS X (.Assign [tg] e pos) (toS X.K W (sTupA is f)) :=
  PS_imp (ps_asg he hg hs hw h1) fun D σ H h => oneS h fun m s H v r x p q => by
    cases r with
    | val d =>
      simp only [] at q
      cases e1 : gTupD is d s with
      | none => rw [e1] at q; exact q.elim
      | some s2 =>
        rw [e1] at q
        exact tup_ok hn x p e1 fun σ' x' => q σ' H m (Mp.le.refl m) x'
    | _ => exact q.elim
structure BackL (K : PySem.W.Frag) (m0 m1 : Mp) (ex : FS → FS) (bk : Mp → Mp) : Prop where
  le : ∀ m', m1.le m' → m0.le (bk m')
  rel : ∀ m', m1.le m' → ∀ σ H s, Rel K m' σ H s → Rel K (bk m') σ H (ex s)
  rep : ∀ m', m1.le m' → ∀ σ H v r, RepR K m' σ H v r → RepR K (bk m') σ H v r
  kn : ∀ m', m1.le m' → m'.kn (bk m')
theorem BackL.to {K : PySem.W.Frag} {NF : Addr → Prop} {m0 m1 : Mp} {ex : FS → FS} {bk : Mp → Mp} (b : BackL K m0 m1 ex bk) : Back K NF m0 m1 ex ex bk := Back.same b.le b.rel b.rep b.kn
theorem BackL.trans {K : PySem.W.Frag} {m0 m1 m2 : Mp} {ex1 ex2 : FS → FS} {bk1 bk2 : Mp → Mp} (a : BackL K m0 m1 ex1 bk1) (b : BackL K m1 m2 ex2 bk2) : BackL K m0 m2 (fun s => ex1 (ex2 s)) (fun m => bk1 (bk2 m)) :=
  ⟨fun m' l => a.le _ (b.le _ l), fun m' l σ H s x => a.rel _ (b.le _ l) σ H _ (b.rel _ l σ H s x), fun m' l σ H v r q => a.rep _ (b.le _ l) σ H v r (b.rep _ l σ H v r q), fun m' l => by
    have k1 := b.kn m' l
    have k2 := a.kn _ (b.le _ l)
    exact ⟨fun p o h => k2.P p o (k1.P p o h), Nat.le_trans k1.n k2.n, fun k hk => (k2.io k (Nat.lt_of_lt_of_le hk k1.n)).trans (k1.io k hk)⟩⟩
end VL
set_option maxRecDepth 100000
set_option maxHeartbeats 4000000
namespace VL
open PySem PySem.Spec L2
open PyProof.Rows hiding St
def flatD : D → Bool
  | .non => true
  | .bl _ => true
  | .int _ => true
  | .str _ => true
  | _ => false
def eqFl : D → D → Bool
  | .non, .non => true
  | .bl a, .bl b => a == b
  | .bl a, .int b => (if a then 1 else 0) == b
  | .int a, .bl b => a == (if b then 1 else 0)
  | .int a, .int b => a == b
  | .str a, .str b => a == b
  | _, _ => false
def inD (d : D) (xs : List D) : Bool := xs.any fun y => eqFl y d
theorem flatD_ok {K : PySem.W.Frag} {m : Mp} {v : V} {d : D} (r : RD K m v d) (h : flatD d = true) : flatV v = true := by
  cases r <;> first | rfl | cases h
theorem eqFl_ok {K : PySem.W.Frag} {m : Mp} {v w : V} {d e : D} (r : RD K m v d) (q : RD K m w e) (h : flatD d = true) (h2 : flatD e = true) : eqV v w = eqFl d e := by
  cases r <;> first
    | (cases h; done)
    | (cases q <;> first
        | rfl
        | (cases h2; done))
theorem inD_ok {K : PySem.W.Frag} {m : Mp} {w : V} {e : D} (q : RD K m w e) (h2 : flatD e = true) : ∀ {vs : List V} {ds : List D}, RDs K m vs ds → ds.all flatD = true → vs.all flatV = true ∧ inV w vs = inD e ds
  | _, _, .nil, _ => ⟨rfl, rfl⟩
  | _, _, .cons (v := v) (d := d) (vs := vs) (ds := ds) a r, h => by
    rw [List.all_cons, Bool.and_eq_true] at h
    obtain ⟨g1, g2⟩ := inD_ok q h2 r h.2
    refine ⟨by rw [List.all_cons, flatD_ok a h.1, g1]; rfl, ?_⟩
    show (eqV v w || inV w vs) = (eqFl d e || inD e ds)
    rw [eqFl_ok a q h.1 h2, g2]
def rDIn (neg : Bool) : R2 := fun y x H Q => ∃ a o, x = .ref a ∧ DGet H a y o ∧ Q (.bl (o.isSome ^^ neg)) H
theorem op_notInD {X : Cx} (hu : X.A.units + 1 < cLine) : OpR X (compareOp .NotIn) (rDIn true) := by
  intro pins s σ H y x iv u Q I ry rx h
  obtain ⟨a, o, rfl, g, q⟩ := h
  obtain rfl : u = Value.ref a := rx
  exact d_notIn hu I g ry fun s3 I3 => ⟨.bl (!o.isSome), H, I3, rfl, by simpa using q⟩
def rIn2 (K : PySem.W.Frag) (neg : Bool) : R2 := fun y x H Q => rIn K neg y x H Q ∨ rDIn neg y x H Q
theorem op_notIn2 {X : Cx} (hu : X.A.units + 1 < cLine) : OpR X (compareOp .NotIn) (rIn2 X.K true) := OpR.or op_notIn_seq (op_notInD hu)
def seqB (s : FS) (r : R) : Option (List D) := match r with
  | .val (.tup xs) => some xs
  | r => seqL s r
theorem seqB_ok {K : PySem.W.Frag} {m : Mp} {σ : St} {H : Hp} {s : FS} {v : V} {r : R} {xs : List D} (x : Rel K m σ H s) (p : RepR K m σ H v r) (e : seqB s r = some xs) : ∃ a vs, v = .ref a ∧ (SqL K H a vs ∨ SqT K H a vs) ∧ RDs K m vs xs := by
  unfold seqB at e
  split at e
  · cases e
    cases p with
    | tup ha ra => exact ⟨_, _, rfl, .inr (SqT.of (x.pers _ _ ha)), ra⟩
  · obtain ⟨a, vs, h1, h2, h3⟩ := seqL_ok x p e
    exact ⟨a, vs, h1, .inl (SqL.of h2), h3⟩
def kIn (neg : Bool) : R → R → M R := fun a b s => match dctK s b with
  | some kvs => match asK a with
    | some k => .ok (.val (.bl ((dval kvs k).isSome ^^ neg))) s
    | none => .stuck
  | none => match seqB s b, a with
    | some xs, .val d => if flatD d = true ∧ xs.all flatD = true then .ok (.val (.bl (inD d xs ^^ neg))) s else .stuck
    | _, _ => .stuck
theorem o2_in {K : PySem.W.Frag} {neg : Bool} : Op2 K (rIn2 K neg) (kIn neg) := by
  intro W σ m s H v1 v2 r1 r2 Q x ps q
  have x2 := x.lk ps.1
  unfold kIn at q
  cases e : dctK s r2 with
  | some kvs =>
    rw [e] at q
    simp only [] at q
    obtain ⟨a, vs, rfl, ha, ra⟩ := dctK_ok x2 ps.2.1 e
    cases e1 : asK r1 with
    | none => rw [e1] at q; exact q.elim
    | some k =>
      rw [e1] at q
      simp only [] at q
      refine .inr ⟨a, valV vs k, rfl, .inl ⟨vs, k, ha, asK_ok ps.1 e1, rfl⟩, ?_⟩
      have hv : (valV vs k).isSome = (dval kvs k).isSome := by
        rcases ra.val (k := k) with ⟨h1, h2⟩ | ⟨d, v, h1, h2, h3⟩ <;> rw [h1, h2]
        all_goals rfl
      rw [hv]
      exact post_val x q .bl
  | none =>
    rw [e] at q
    simp only [] at q
    cases e1 : seqB s r2 with
    | none => rw [e1] at q; exact q.elim
    | some xs =>
      rw [e1] at q
      cases r1 with
      | val d =>
        simp only [] at q
        split at q
        · rename_i hf
          obtain ⟨a, vs, rfl, ha, ra⟩ := seqB_ok x2 ps.2.1 e1
          have p1 : RD K m v1 d := ps.1
          have ra' : RDs K m vs xs := by
            have : lk m v1 (.val d) H = m := by cases v1 <;> rfl
            rw [this] at ra; exact ra
          obtain ⟨g1, g2⟩ := inD_ok p1 hf.1 ra' hf.2
          refine .inl ⟨a, vs, rfl, ha, flatD_ok p1 hf.1, g1, ?_⟩
          have : (if neg = true then !inV v1 vs else inV v1 vs) = (inD d xs ^^ neg) := by rw [g2]; cases neg <;> cases inD d xs <;> rfl
          rw [this]
          exact post_val x q .bl
        · exact q.elim
      | _ => exact q.elim
theorem toE_up {K : PySem.W.Frag} {W : WX} {f : M R} {σ : St} {H : Hp} {R1 R2 : V → Hp → Prop} (i : ∀ v H, R1 v H → R2 v H) : toE K W f σ H R1 → toE K W f σ H R2 := fun ⟨m, s, x, p⟩ => ⟨m, s, x, by
  cases e : f s with
  | stuck => rw [e] at p; exact p
  | ok r s1 => rw [e] at p; exact fun v H' m' l x r => i _ _ (p v H' m' l x r)
  | exc ex s1 => rw [e] at p; exact p⟩
theorem toA1 {K : PySem.W.Frag} {W : WX} {f : M R} {σ : St} {H : Hp} {R' : V → Hp → Prop} (z : toA K W (eCons f eNil) σ H fun vs H => ∀ y, vs = [y] → R' y H) : toE K W f σ H R' :=
  toE_up (fun y H1 (q : toA K W eNil σ H1 fun vs H2 => ∀ z, y :: vs = [z] → R' z H2) => toA_nil q y rfl) (toA_cons z)
/-- o.m(e) of a dict -/
def eDM1 (k : R → R → M R) (fo fk : M R) : M R := fun s => (fo s).bind fun o s1 => if (dctK s1 o).isSome = true then (eCons fk eNil s1).bind fun rs s2 => match rs with
  | [a] => k o a s2
  | _ => .stuck else .stuck
def eDM2 (k : R → R → R → M R) (fo fk fx : M R) : M R := fun s => (fo s).bind fun o s1 => if (dctK s1 o).isSome = true then (eCons fk (eCons fx eNil) s1).bind fun rs s2 => match rs with
  | [a, b] => k o a b s2
  | _ => .stuck else .stuck
def kGet1 : R → R → M R := fun o k s => match dctK s o, asK k with
  | some kvs, some key => .ok (.val ((dval kvs key).getD .non)) s
  | _, _ => .stuck
theorem RepR.le {K : PySem.W.Frag} {m m' : Mp} {σ : St} {H : Hp} {v : V} {r : R} (h : isTmp r = false) (l : m.le m') (p : RepR K m σ H v r) : RepR K m' σ H v r := by
  cases r with
  | val d => exact RepD.mono l.P l.n l.io p
  | tmp c => cases h
  | var i => exact p
  | pc n => show v = .ref (m'.al n); rw [l.al]; exact p
  | ic k j => obtain ⟨h1, h2, h3⟩ := p; exact ⟨by rw [l.ic k j h2 h3]; exact h1, Nat.lt_of_lt_of_le h2 l.n, Nat.lt_of_lt_of_le h3 (l.nc k h2)⟩
section
variable {X : Cx} {W : WX} {o e f : Expr} {fo fk fx : M R} {apos cpos : Pos}
theorem isD_of {K : PySem.W.Frag} {m : Mp} {σ : St} {H : Hp} {s : FS} {v : V} {r : R} (x : Rel K m σ H s) (p : RepR K m σ H v r) (h : (dctK s r).isSome = true) : ∃ a, v = .ref a ∧ IsD H a := by
  obtain ⟨kvs, e⟩ := Option.isSome_iff_exists.mp h
  obtain ⟨a, vs, rfl, ha, _⟩ := dctK_ok x p e
  exact ⟨a, rfl, .inl ⟨vs, ha⟩⟩
theorem se_dget1 (hu : X.A.units + 1 < cLine) (ho : PE X o (toE X.K W fo)) (he : PE X e (toE X.K W fk)) (m : M1 X o "get" apos e cpos := by exact ⟨rfl, rfl, rfl, rfl⟩) : PE X (.Call (.Attribute o "get" apos) [e] [] cpos) (toE X.K W (eDM1 kGet1 fo fk)) :=
  PE_imp (pe_dget1 hu ho he m) fun σ H Q h => by
    refine one h fun m s H v r x p q => ?_
    split at q
    · rename_i hd
      obtain ⟨a, rfl, hi⟩ := isD_of x p hd
      refine ⟨a, rfl, hi, toA1 (thenA (k := fun rs s2 => match rs with | [k] => kGet1 r k s2 | _ => .stuck) x p q (fun _ _ _ _ => rfl) fun m s H vs rs x p q y ey => ?_)⟩
      subst ey
      match rs, p, q with
      | [k], p, q =>
        simp only [kGet1] at q
        cases e1 : dctK s r with
        | none => rw [e1] at q; exact q.elim
        | some kvs =>
          cases e2 : asK k with
          | none => rw [e1, e2] at q; exact q.elim
          | some key =>
            rw [e1, e2] at q
            obtain ⟨b, vs, eb, hb, rb⟩ := dctK_ok x p.1 e1
            cases eb
            refine ⟨valV vs key, .inl ⟨vs, key, hb, asK_ok p.2.1 e2, rfl⟩, ?_⟩
            simp only [] at q
            rcases rb.val (k := key) with ⟨h1, h2⟩ | ⟨d, v, h1, h2, h3⟩
            · rw [h1] at q; rw [h2]; exact post_val x q .non
            · rw [h1] at q; rw [h2]; exact post_val x q h3
      | [], p, q => exact q.elim
      | _ :: _ :: _, p, q => exact q.elim
    · exact q.elim
end
end VL
set_option maxRecDepth 100000
set_option maxHeartbeats 4000000
namespace VL
open PySem PySem.Spec L2
open PyProof.Rows hiding St
def sortI (ns : List Int) : List Int := ns.mergeSort fun a b => decide (a ≤ b)
theorem sortI_perm (ns : List Int) : (sortI ns).Perm ns := List.mergeSort_perm _ _
theorem sortI_sorted (ns : List Int) : (sortI ns).Pairwise (· ≤ ·) := by
  have h := List.pairwise_mergeSort (le := fun a b : Int => decide (a ≤ b)) (fun a b c h1 h2 => by simp at h1 h2 ⊢; omega) (fun a b => by simp; omega) ns
  exact h.imp fun h => by simpa using h
theorem sortI_uniq {ns ms : List Int} (h : ms.Perm ns) (s : ms.Pairwise (· ≤ ·)) : ms = sortI ns :=
  List.Perm.eq_of_pairwise (le := (· ≤ ·)) (fun a b _ _ h1 h2 => Int.le_antisymm h1 h2) s (sortI_sorted ns) (h.trans (sortI_perm ns).symm)
theorem sortI_len (ns : List Int) : (sortI ns).length = ns.length := (sortI_perm ns).length_eq
theorem sortI_mem {ns : List Int} {a : Int} : a ∈ sortI ns ↔ a ∈ ns := (sortI_perm ns).mem_iff
/-- pairs of ints, by the first, then by the second -/
def lexLe (p q : Int × Int) : Bool := decide (p.1 < q.1) || (decide (p.1 = q.1) && decide (p.2 ≤ q.2))
def sortP (ps : List (Int × Int)) : List (Int × Int) := ps.mergeSort lexLe
theorem lexLe_iff {p q : Int × Int} : lexLe p q = true ↔ p.1 < q.1 ∨ (p.1 = q.1 ∧ p.2 ≤ q.2) := by simp [lexLe]
theorem lexLe_trans (a b c : Int × Int) (h1 : lexLe a b = true) (h2 : lexLe b c = true) : lexLe a c = true := by rw [lexLe_iff] at *; omega
theorem lexLe_total (a b : Int × Int) : (lexLe a b || lexLe b a) = true := by rw [Bool.or_eq_true, lexLe_iff, lexLe_iff]; omega
theorem sortP_perm (ps : List (Int × Int)) : (sortP ps).Perm ps := List.mergeSort_perm _ _
theorem sortP_sorted (ps : List (Int × Int)) : (sortP ps).Pairwise fun p q => lexLe p q = true := List.pairwise_mergeSort lexLe_trans lexLe_total ps
theorem sortP_uniq {ps qs : List (Int × Int)} (h : qs.Perm ps) (s : qs.Pairwise fun p q => lexLe p q = true) : qs = sortP ps :=
  List.Perm.eq_of_pairwise (le := fun p q => lexLe p q = true) (fun a b _ _ h1 h2 => by rw [lexLe_iff] at h1 h2; exact Prod.ext (by omega) (by omega)) s (sortP_sorted ps) (h.trans (sortP_perm ps).symm)
def pairsOf : List D → Option (List (Int × Int))
  | [] => some []
  | .tup [.int i, .int j] :: ds => (pairsOf ds).map fun ps => (i, j) :: ps
  | _ :: _ => none
def pairD (p : Int × Int) : D := .tup [.int p.1, .int p.2]
theorem pairsOf_eq : ∀ {ds : List D} {ps : List (Int × Int)}, pairsOf ds = some ps → ds = ps.map pairD
  | [], ps, h => by cases h; rfl
  | d :: ds, ps, h => by
    unfold pairsOf at h
    split at h
    · rename_i heq; cases heq
    · rename_i i j ds' heq
      cases heq
      cases q : pairsOf ds with
      | none => rw [q] at h; cases h
      | some qs => rw [q] at h; cases h; rw [pairsOf_eq q]; rfl
    · cases h
def keysI : List (Key × D) → Option (List Int)
  | [] => some []
  | (.inl i, _) :: ks => (keysI ks).map (i :: ·)
  | (.inr _, _) :: _ => none
theorem keysI_eq : ∀ {kvs : List (Key × D)} {ks : List Int}, keysI kvs = some ks → kvs.map (·.1) = ks.map Sum.inl
  | [], ks, h => by cases h; rfl
  | (.inl i, d) :: kvs, ks, h => by
    simp only [keysI] at h
    cases q : keysI kvs with
    | none => rw [q] at h; cases h
    | some qs => rw [q] at h; cases h; simp only [List.map_cons, keysI_eq q]
  | (.inr _, _) :: _, ks, h => by cases h
def kSorted : R → M R := fun a s => match seqL s a with
  | some xs => match intsOf xs with
    | some ns => .ok (.tmp (.lst ((sortI ns).map .int))) s
    | none => match pairsOf xs with
      | some ps => .ok (.tmp (.lst ((sortP ps).map pairD))) s
      | none => .stuck
  | none => match dctK s a with
    | some kvs => match keysI kvs with
      | some ks => if ks.length < 64 then .ok (.tmp (.lst ((sortI ks).map .int))) s else .stuck
      | none => .stuck
    | none => .stuck
def rSortedAll (K : PySem.W.Frag) : List V → Hp → VK → Prop := fun xs H Q => (rSortedI K xs H Q ∨ rSortedPO K xs H Q) ∨ (∃ (a : Addr) (kvs : List (Key × V)) (ks : List Int), xs = [.ref a] ∧ Rd H a (.dK kvs) ∧ kvs.map (·.1) = ks.map Sum.inl ∧ ks.length < 64 ∧
    ∀ (ys : List Int) (p : Addr), ys.Perm ks → ys.Pairwise (· ≤ ·) → H p = none → Q (.ref p) (upd H p (.lst (ys.map V.int))))
theorem cr_sortedAll {X : Cx} (hc : X.calm = true) : CallR X (.builtin "sorted") (rSortedAll X.K) := CallR.or (CallR.or cr_sortedI cr_sortedPO) (call_sortedDI hc)
section
variable {K : PySem.W.Frag} {m : Mp}
theorem RDs.ints {ns : List Int} : ∀ {vs : List V}, RDs K m vs (ns.map D.int) → vs = ns.map V.int := by
  induction ns with
  | nil => intro vs r; cases r; rfl
  | cons n ns ih => intro vs r; cases r with | cons a r => cases a; rw [List.map_cons, ← ih r]
theorem RDs.ofInts (ns : List Int) : RDs K m (ns.map V.int) (ns.map D.int) := by
  induction ns with
  | nil => exact .nil
  | cons n ns ih => exact .cons .int ih
theorem RDs.perm {xs ys : List V} (h : ys.Perm xs) : ∀ {ds : List D}, RDs K m xs ds → ∃ es, es.Perm ds ∧ RDs K m ys es := by
  induction h with
  | nil => intro ds r; cases r; exact ⟨[], .refl _, .nil⟩
  | cons x h ih =>
    intro ds r
    cases r with
    | cons a r =>
      obtain ⟨es, h1, h2⟩ := ih r
      exact ⟨_ :: es, h1.cons _, .cons a h2⟩
  | swap x y l =>
    intro ds r
    cases r with
    | cons a r => cases r with
      | cons b r => exact ⟨_ :: _ :: _, List.Perm.swap _ _ _, .cons b (.cons a r)⟩
  | trans h1 h2 ih1 ih2 =>
    intro ds r
    obtain ⟨es, g1, g2⟩ := ih2 r
    obtain ⟨fs, g3, g4⟩ := ih1 g2
    exact ⟨fs, g3.trans g1, g4⟩
/-- the pair at an address -/
def keyH (H : Hp) (v : V) : Int × Int := match v with
  | .ref t => match H t with
    | some (.tup [.int i, .int j]) => (i, j)
    | _ => (0, 0)
  | _ => (0, 0)
theorem keyH_of {H : Hp} {v : V} {p : Int × Int} (hp : ∀ a o, m.P a = some o → H a = some o) (r : RD K m v (pairD p)) : (∃ t, v = .ref t ∧ H t = some (.tup [.int p.1, .int p.2])) ∧ keyH H v = p := by
  cases r with
  | tup ha ra =>
    cases ra with
    | cons a ra =>
      cases ra with
      | cons b ra =>
        cases ra
        cases a
        cases b
        have h := hp _ _ ha
        refine ⟨⟨_, rfl, h⟩, ?_⟩
        simp only [keyH, h]
theorem pairs_back {qs : List D} {ps : List (Int × Int)} (h : qs.Perm (ps.map pairD)) : ∃ rs : List (Int × Int), qs = rs.map pairD ∧ rs.Perm ps := by
  have hex : ∀ q ∈ qs, ∃ p, q = pairD p := fun q hq => by
    have := h.mem_iff.mp hq
    obtain ⟨p, _, rfl⟩ := List.mem_map.mp this
    exact ⟨p, rfl⟩
  have : ∃ rs : List (Int × Int), qs = rs.map pairD := by
    clear h
    induction qs with
    | nil => exact ⟨[], rfl⟩
    | cons q qs ih =>
      obtain ⟨rs, e⟩ := ih fun q hq => hex q (List.mem_cons_of_mem _ hq)
      obtain ⟨p, e2⟩ := hex q List.mem_cons_self
      exact ⟨p :: rs, by rw [e, e2]; rfl⟩
  obtain ⟨rs, rfl⟩ := this
  refine ⟨rs, rfl, ?_⟩
  let back : D → Int × Int := fun d => match d with | .tup [.int i, .int j] => (i, j) | _ => (0, 0)
  have hb : ∀ l : List (Int × Int), (l.map pairD).map back = l := fun l => by
    rw [List.map_map]
    exact (List.map_congr_left (fun p _ => rfl)).trans (List.map_id _)
  have := h.map back
  rw [hb, hb] at this
  exact this
theorem n_sorted : OpN K (rSortedAll K) (k1 kSorted) := opN1 fun W σ m s H v r Q x p q => by
  unfold kSorted at q
  cases e : seqL s r with
  | some xs =>
    rw [e] at q
    simp only [] at q
    obtain ⟨a, vs, rfl, ha, ra⟩ := seqL_ok x p e
    cases e1 : intsOf xs with
    | some ns =>
      rw [e1] at q
      have ex := intsOf_eq e1
      subst ex
      refine .inl (.inl ⟨a, ns, rfl, ?_, fun ns' l hp hs n => ?_⟩)
      · rw [← RDs.ints ra]; exact SqL.of ha
      · rw [sortI_uniq hp hs]
        exact post_tmp x q n ⟨_, rfl, RDs.ofInts _⟩
    | none =>
      rw [e1] at q
      simp only [] at q
      cases e2 : pairsOf xs with
      | none => rw [e2] at q; exact q.elim
      | some ps =>
        rw [e2] at q
        have ex := pairsOf_eq e2
        subst ex
        refine .inl (.inr ⟨a, vs, keyH H, rfl, SqL.of ha, fun z hz => ?_, fun ys l hs hb n => ?_⟩)
        · obtain ⟨i, hi⟩ := List.getElem?_of_mem hz
          obtain ⟨d, hd, rd⟩ := ra.getV hi
          obtain ⟨p', _, rfl⟩ := List.mem_map.mp (List.mem_of_getElem? hd)
          obtain ⟨⟨t, ev, ht⟩, hk⟩ := keyH_of x.pers rd
          exact ⟨t, ev, by rw [hk]; exact ht⟩
        · obtain ⟨es, g1, g2⟩ := RDs.perm hb.perm ra
          obtain ⟨rs, rfl, g3⟩ := pairs_back g1
          have : rs = sortP ps := sortP_uniq g3 (by
            have hz : ∀ {ys : List V} {rs : List (Int × Int)}, RDs K m ys (rs.map pairD) → ys.map (keyH H) = rs := fun {ys} => by
              induction ys with
              | nil => intro rs r; cases rs with | nil => rfl | cons _ _ => cases r
              | cons y ys ih => intro rs r; cases rs with
                | nil => cases r
                | cons q rs => cases r with | cons a r => rw [List.map_cons, ih r, (keyH_of x.pers a).2]
            rw [← hz g2]
            rw [List.pairwise_map]
            refine hs.imp fun {u w} h => ?_
            have h' : SrtO.lexB (keyH H w) (keyH H u) = false := h
            rw [SrtO.lexB_no] at h'
            rw [lexLe_iff]
            omega)
          subst this
          exact post_tmp x q n ⟨_, rfl, g2⟩
  | none =>
    rw [e] at q
    simp only [] at q
    cases e1 : dctK s r with
    | none => rw [e1] at q; exact q.elim
    | some kvs =>
      rw [e1] at q
      simp only [] at q
      cases e2 : keysI kvs with
      | none => rw [e2] at q; exact q.elim
      | some ks =>
        rw [e2] at q
        simp only [] at q
        split at q
        · rename_i hl
          obtain ⟨a, vs, rfl, ha, ra⟩ := dctK_ok x p e1
          refine .inr ⟨a, vs, ks, rfl, ha, by rw [ra.keys]; exact keysI_eq e2, hl, fun ys l hp hs n => ?_⟩
          rw [sortI_uniq hp hs]
          exact post_tmp x q n ⟨_, rfl, RDs.ofInts _⟩
        · exact q.elim
def kDictOf : R → M R := fun a s => match dctK s a with
  | some kvs => .ok (.tmp (.dct kvs)) s
  | none => .stuck
theorem n_dictOf : OpN K (fun xs H Q => ∃ (a : Addr) (kvs : List (Key × V)), xs = [.ref a] ∧ Rd H a (.dK kvs) ∧ ∀ p, H p = none → Q (.ref p) (upd H p (.dK kvs))) (k1 kDictOf) := opN1 fun W σ m s H v r Q x p q => by
  unfold kDictOf at q
  cases e : dctK s r with
  | none => rw [e] at q; exact q.elim
  | some kvs =>
    rw [e] at q
    obtain ⟨a, vs, rfl, ha, ra⟩ := dctK_ok x p e
    exact ⟨a, vs, rfl, ha, fun l n => post_tmp x q n ⟨_, rfl, ra⟩⟩
end
def sPar (i j : Nat) (fa : M (List R)) : SM := fun s => (fa s).bindS fun rs s1 => match rs with
  | [.val d, .val e] => .next ((s1.setE i (.val d)).setE j (.val e))
  | _ => .stuck
end VL
set_option maxRecDepth 100000
set_option maxHeartbeats 4000000
namespace VL
open PySem PySem.Spec L2
open PyProof.Rows hiding St
open Classical in
noncomputable def compD (chk : FS → Prop) (own : List Nat) (g : D → FS → Option FS) (t : M Bool) (ek e : M R) : List D → List (Key × D) → FS → Res (List (Key × D))
  | [], acc, s => if chk s then .ok acc s else .stuck
  | d :: ds, acc, s => if chk s ∧ ownOk own s = true then (match g d (wipeE own s) with
    | none => .stuck
    | some s1 => match t s1 with
      | .ok b s2 => if b = true then (match ek s2 with
        | .ok rk s3 => (match asK rk with
          | some k => (match e s3 with
            | .ok r s4 => (match frzR r s4 with
              | some (dd, s5) => if acc.length < sizeLine then compD chk own g t ek e ds (dput acc k dd) (restE own s s5) else .stuck
              | none => .stuck)
            | _ => .stuck)
          | none => .stuck)
        | _ => .stuck) else compD chk own g t ek e ds acc (restE own s s2)
      | _ => .stuck) else .stuck
noncomputable def eDc (f : M Lp) (own : List Nat) (g : D → FS → Option FS) (t : M Bool) (ek e : M R) : M R := fun s => (f s).bind fun lp s1 =>
  match compD lp.chk own g t ek e lp.xs [] (lp.en s1) with
  | .ok acc s2 => .ok (.tmp (.dct acc)) (lp.ex s2)
  | _ => .stuck
theorem dc_ok {K : PySem.W.Frag} {W : WX} {wi : TI} {f : M Lp} {gT : TG} {g : D → FS → Option FS} {t : M Bool} {ek e : M R} {ow : List Nat} {NF : Addr → Prop} (hf : SrcOk K NF W wi f) (hgk : TgOkC K gT g ow) {σ : St} {H : Hp} {Q : VK} (h : toE K W (eDc f ow g t ek e) σ H Q) :
    tDc wi gT (toT K W0 t) (toE K W0 ek) (toE K W0 e) ow σ H (fun v => unQ NF (Q v)) := by
    obtain ⟨m, s, x, q⟩ := h
    refine hf σ H _ ⟨m, s, x, ?_⟩
    unfold eDc at q
    cases e0 : f s with
    | stuck => rw [e0] at q; exact q.elim
    | exc ex s1 => rw [e0] at q; exact q
    | ok lp s1 =>
      rw [e0] at q
      intro H1 m0 l0 x0 J m1 bk HH b x1 hk Da nD
      -- what is wanted at the end
      have fin : ∀ acc s2, compD lp.chk ow g t ek e lp.xs [] (lp.en s1) = .ok acc s2 → ∀ H' m', m1.le m' → Rel K m' σ H' s2 → RepR K m' σ H' (.ref Da) (.tmp (.dct acc)) → unQ NF (Q (.ref Da)) H' := fun acc s2 ec H' m' l x' r' => by
        have q' : Post K W m σ (match compD lp.chk ow g t ek e lp.xs [] (lp.en s1) with
          | .ok acc s2 => .ok (.tmp (.dct acc)) (lp.ex s2)
          | _ => .stuck) (RpE K σ) Q := q
        rw [ec] at q'
        obtain ⟨H2, u, x2, r2⟩ := b.rel _ l _ _ _ x'
        exact ⟨H2, u, q' _ H2 _ (l0.trans (b.le _ l)) x2 (r2 _ _ r')⟩
      have nst : ∃ acc s2, compD lp.chk ow g t ek e lp.xs [] (lp.en s1) = .ok acc s2 := by
        have q' : Post K W m σ (match compD lp.chk ow g t ek e lp.xs [] (lp.en s1) with
          | .ok acc s2 => .ok (.tmp (.dct acc)) (lp.ex s2)
          | _ => .stuck) (RpE K σ) Q := q
        cases ec : compD lp.chk ow g t ek e lp.xs [] (lp.en s1) with
        | ok acc s2 => exact ⟨acc, s2, rfl⟩
        | stuck => rw [ec] at q'; exact q'.elim
        | exc ex s2 => rw [ec] at q'; exact q'.elim
      obtain ⟨accF, sF, eF⟩ := nst
      have fin := fin accF sF eF
      refine ⟨fun i n H => n = lp.xs.length - i ∧ i ≤ lp.xs.length ∧ ∃ m' s' acc, m1.le m' ∧ Rel K m' σ H s' ∧ RepR K m' σ H (.ref Da) (.tmp (.dct acc)) ∧ compD lp.chk ow g t ek e (lp.xs.drop i) acc s' = .ok accF sF, ⟨_, rfl, Nat.zero_le _, m1, lp.en s1, [], Mp.le.refl m1, x1.fresh nD, ?_, eF⟩, ?_⟩
      · obtain ⟨n1, n2, n3⟩ := x1.none3 nD
        exact ⟨Da, rfl, n1, n2, n3, _, upd_same, _, rfl, .nil⟩
      rintro i n H ⟨rfl, hi, m', s', acc, l, x', rD, q⟩
      cases hd : lp.xs.drop i with
      | nil =>
        rw [hd] at q
        unfold compD at q
        split at q
        · rename_i hc
          cases q
          have hlen : lp.xs.length ≤ i := by
            have := congrArg List.length hd
            rw [List.length_drop, List.length_nil] at this
            omega
          exact .inl ⟨(hk m' σ H _ l.lew x' hc).2 i hlen, fin H m' l x' rD⟩
        · cases q
      | cons d ds =>
        rw [hd] at q
        unfold compD at q
        split at q
        · rename_i hc
          obtain ⟨hchk, hown⟩ := hc
          have hlt : i < lp.xs.length := by
            have := congrArg List.length hd
            rw [List.length_drop, List.length_cons] at this
            omega
          have hdi : lp.xs[i]? = some d := by
            have : (lp.xs.drop i)[0]? = some d := by rw [hd]; rfl
            rw [List.getElem?_drop] at this
            simpa using this
          have hds : lp.xs.drop (i + 1) = ds := by
            rw [← List.drop_drop, hd]; rfl
          have xL := x'.lk rD
          have lL : m'.lew (lk m' (.ref Da) (.tmp (.dct acc)) H) := ⟨fun _ _ h => h, fun a o h => by
            show (if a = Da then H Da else m'.L a) = some o
            obtain ⟨a', e1, h1, h2, h3, _⟩ := rD
            cases e1
            by_cases ha : a = Da
            · rw [ha, h3] at h; cases h
            · rw [if_neg ha]; exact h, rfl, Nat.le_refl _, fun _ _ => rfl, fun _ _ => Nat.le_refl _, fun _ _ _ _ => rfl, rfl, rfl⟩
          have lew : m1.lew (lk m' (.ref Da) (.tmp (.dct acc)) H) := ⟨l.P, fun a o h => lL.L a o (by rw [l.L]; exact h), l.al, l.n, l.io, l.nc, l.ic, l.lks, l.Z⟩
          obtain ⟨hgo, hyl⟩ := (hk _ σ H s' lew xL hchk).1 i d hdi
          -- back from the lock, at the block's end
          have back : ∀ {m6 : Mp} {σ6 : St} {H6 : Hp} {s6 : FS}, (lk m' (.ref Da) (.tmp (.dct acc)) H).le m6 → Rel K m6 σ6 H6 s6 → L2.wipe σ6 ow = L2.wipe σ ow →
              Rel K (m6.setL m'.L) σ H6 (restE ow s' s6) ∧ RepR K (m6.setL m'.L) σ H6 (.ref Da) (.tmp (.dct acc)) ∧ m1.le (m6.setL m'.L) := fun {m6 σ6 H6 s6} l6 x6 w6 => by
            have l6w : m'.lew m6 := ⟨fun a o h => l6.P a o h, fun a o h => by rw [l6.L]; exact lL.L a o h, l6.al, l6.n, l6.io, l6.nc, l6.ic, l6.lks, l6.Z⟩
            have xr : Rel K m6 σ H6 (restE ow s' s6) := Rel.restore x' hown l6w x6 w6
            have hr := lk_rep (L := m'.L) rfl rD l6 xr
            refine ⟨xr.setL fun a o h => ?_, hr.1, ?_⟩
            · rw [l6.L]; exact lL.L a o h
            · have z := lk_le (Mp.le.refl m') l6
              exact l.trans z
          refine .inr ⟨hgo, fun H' => ∃ m'' s'' acc', m1.le m'' ∧ Rel K m'' σ H' s'' ∧ RepR K m'' σ H' (.ref Da) (.tmp (.dct acc')) ∧ compD lp.chk ow g t ek e ds acc' s'' = .ok accF sF, fun H' ⟨m'', s'', acc', l2, x2, r2, q2⟩ => ⟨lp.xs.length - (i + 1), by omega, rfl, hlt, m'', s'', acc', l2, x2, r2, by rw [hds]; exact q2⟩, fun y H2 hy => ?_⟩
          obtain ⟨m2, l2, x2, ry⟩ := hyl y H2 hy
          cases eg : g d (wipeE ow s') with
          | none => rw [eg] at q; cases q
          | some sg =>
            rw [eg] at q
            simp only [] at q
            refine hgk m2 (L2.wipe σ ow) H2 (wipeE ow s') sg y d _ (x2.wipe ow) ry eg fun σ3 m3 l3 w3 x3 => ⟨w3.trans (wipe_idem ow σ), m3, sg, x3, ?_⟩
            cases et : t sg with
            | stuck => rw [et] at q; cases q
            | exc ex st => rw [et] at q; cases q
            | ok bb st =>
              rw [et] at q
              simp only [] at q
              intro kk H3 m4 l4 x4 ekb
              have ek' : kk = bb := ekb
              subst ek'
              cases kk with
              | false =>
                rw [if_neg (by decide)] at q ⊢
                obtain ⟨b1, b2, b3⟩ := back ((l2.trans l3).trans l4) x4 (w3.trans (wipe_idem ow σ))
                exact ⟨_, _, acc, b3, b1, b2, q⟩
              | true =>
                rw [if_pos rfl] at q ⊢
                refine ⟨m4, st, x4, ?_⟩
                cases ek1 : ek st with
                | stuck => rw [ek1] at q; cases q
                | exc ex se => rw [ek1] at q; cases q
                | ok rk sk =>
                  rw [ek1] at q
                  simp only [] at q
                  intro zk H4k m5k l5k x5k rzk
                  cases ekk : asK rk with
                  | none => rw [ekk] at q; cases q
                  | some key =>
                  rw [ekk] at q
                  simp only [] at q
                  refine ⟨m5k, sk, x5k, ?_⟩
                  cases ee : e sk with
                  | stuck => rw [ee] at q; cases q
                  | exc ex se => rw [ee] at q; cases q
                  | ok r se =>
                    rw [ee] at q
                    simp only [] at q
                    intro z H4 m5 l5 x5 rz
                    cases ef : frzR r se with
                    | none => rw [ef] at q; cases q
                    | some pr =>
                      obtain ⟨dd, s4⟩ := pr
                      rw [ef] at q
                      simp only [] at q
                      split at q
                      · rename_i hlen
                        obtain ⟨m6, l6, x6, rdd, _⟩ := rz.frz x5 ef
                        obtain ⟨b1, b2, b3⟩ := back (((((l2.trans l3).trans l4).trans l5k).trans l5).trans l6) x6 (w3.trans (wipe_idem ow σ))
                        obtain ⟨a', e1, h1, h2, h3, o, ho, vs, rfl, rv⟩ := id b2
                        cases e1
                        refine ⟨vs, key, asK_ok rzk ekk, ho, by rw [rv.length]; exact hlen, _, _, dput acc key dd, b3, b1.keep (fun a w hw => upd_ne fun z => ?_) (fun a u hu => ?_) (fun a u hu => ?_) (fun a u hu => ⟨by rw [upd_ne fun z => ?_]; exact (b1.zz a u hu).1; exact (by obtain ⟨q1, od, kvs, q2⟩ := b1.zz _ u hu; rw [z, ho, q2] at q1; cases q1), (b1.zz a u hu).2⟩), ⟨Da, rfl, h1, h2, h3, _, upd_same, _, rfl, rv.put rdd⟩, q⟩
                        · rw [z, h1] at hw; cases hw
                        · rw [upd_ne fun z => ?_]; exact b1.pers a u hu
                          rw [z, h2] at hu; cases hu
                        · rw [upd_ne fun z => ?_]; exact b1.lock a u hu
                          rw [z, h3] at hu; cases hu
                      · cases q
        · cases q
section
variable {X : Cx} {W : WX} {pos : Pos}
theorem se_dc {kx vx tg iter : Expr} {ifs : List Expr} {scope : Scope} {own : List (Str × Nat)} {wi : TI} {f : M Lp} {gT : TG} {g : D → FS → Option FS} {t : M Bool} {ek e : M R} (hc : X.calm = true) (hN : X.N.Nodup) (hi : PI X tg iter wi) (hf : SrcOk X.K (NFz X) W wi f)
    (ok : BlkOk X.N X.env.scope scope own)
    (hg : ∀ (s : Shared) (H : Hp) (C : Addr) (cl : List (Str × Addr)) (fp : List Addr), PG (X.blk s H scope (compEnvC scope cl C X.env) fp) tg gT) (hgk : TgOkC X.K gT g (own.map (·.2)))
    (ht : ∀ (s : Shared) (H : Hp) (C : Addr) (cl : List (Str × Addr)) (fp : List Addr), PTs (X.blk s H scope (compEnvC scope cl C X.env) fp) ifs (toT X.K W0 t))
    (hk : ∀ (s : Shared) (H : Hp) (C : Addr) (cl : List (Str × Addr)) (fp : List Addr), PE (X.blk s H scope (compEnvC scope cl C X.env) fp) kx (toE X.K W0 ek))
    (he : ∀ (s : Shared) (H : Hp) (C : Addr) (cl : List (Str × Addr)) (fp : List Addr), PE (X.blk s H scope (compEnvC scope cl C X.env) fp) vx (toE X.K W0 e)) (hs : ∀ x, foldedSetIterable iter X.env x = pure x := by intro _; rfl) :
    PE X (.DictComp kx vx [⟨tg, iter, ifs, 0⟩] scope pos) (toE X.K W (eDc f (own.map (·.2)) g t ek e)) :=
  PE_imp (pe_un (pe_dc hc hN hi ok hg ht hk he hs)) fun σ H Q h => dc_ok hf hgk h
end
section
variable {Q : R → FS → Prop} {X : Ex → FS → Prop} {s : FS}
theorem compD_w {chk : FS → Prop} {own : List Nat} {g : D → FS → Option FS} {t : M Bool} {ek e : M R} {Qc : List (Key × D) → FS → Prop} (I : Nat → List (Key × D) → FS → Prop) : ∀ (xs : List D) (n : Nat) (acc : List (Key × D)) (s : FS), I n acc s → acc.length ≤ n → n + xs.length ≤ sizeLine →
    (∀ i d acc s, xs[i]? = some d → I (n + i) acc s → (chk s ∧ ownOk own s = true) ∧ ∃ s1, g d (wipeE own s) = some s1 ∧ wp (t s1) (fun b s2 => (b = true → wp (ek s2) (fun rk s3 => ∃ k, asK rk = some k ∧ wp (e s3) (fun r s4 => ∃ dd s5, frzR r s4 = some (dd, s5) ∧ I (n + i + 1) (dput acc k dd) (restE own s s5)) XN) XN) ∧ (b = false → I (n + i + 1) acc (restE own s s2))) XN) →
    (∀ acc s, I (n + xs.length) acc s → chk s ∧ Qc acc s) → wp (compD chk own g t ek e xs acc s) Qc XN
  | [], n, acc, s, h, hl, hn, hs, he => by
    obtain ⟨h1, h2⟩ := he acc s h
    unfold compD; rw [if_pos h1]; exact h2
  | d :: ds, n, acc, s, h, hl, hn, hs, he => by
    obtain ⟨h1, s1, e1, w⟩ := hs 0 d acc s rfl h
    rw [List.length_cons] at hn
    unfold compD; rw [if_pos h1]; simp only [e1]
    have go : ∀ acc2 s2, I (n + 1) acc2 s2 → acc2.length ≤ n + 1 → wp (compD chk own g t ek e ds acc2 s2) Qc XN := fun acc2 s2 h2 hl2 => compD_w I ds (n + 1) acc2 s2 h2 hl2 (by omega) (fun i d acc s hd hi => by
      have := hs (i + 1) d acc s hd (by rw [show n + (i + 1) = n + 1 + i by omega]; exact hi)
      rw [show n + (i + 1) = n + 1 + i by omega] at this; exact this) (fun acc s h => he acc s (by rw [List.length_cons, show n + (ds.length + 1) = n + 1 + ds.length by omega]; exact h))
    cases et : t s1 with
    | stuck => rw [et] at w; exact w.elim
    | exc _ _ => rw [et] at w; exact w.elim
    | ok b s2 =>
      rw [et] at w
      cases b with
      | false => exact go acc _ (w.2 rfl) (by omega)
      | true =>
        have w2 := w.1 rfl
        simp only [if_true]
        cases ek1 : ek s2 with
        | stuck => rw [ek1] at w2; exact w2.elim
        | exc _ _ => rw [ek1] at w2; exact w2.elim
        | ok rk s3 =>
          rw [ek1] at w2
          obtain ⟨k, hk, w3⟩ := w2
          simp only [hk]
          cases ee : e s3 with
          | stuck => rw [ee] at w3; exact w3.elim
          | exc _ _ => rw [ee] at w3; exact w3.elim
          | ok r s4 =>
            rw [ee] at w3
            obtain ⟨dd, s5, e5, w5⟩ := w3
            simp only [e5]
            rw [if_pos (by omega)]
            refine go _ _ w5 ?_
            unfold dput
            split
            · rw [List.length_map]; omega
            · rw [List.length_append, List.length_singleton]; omega
/-- {k: e for ..}: I i acc holds ahead of the i-th item -/
theorem w_dc {f : M Lp} {own : List Nat} {g : D → FS → Option FS} {t : M Bool} {ek e : M R} (h : wp (f s) (fun lp s1 => lp.xs.length ≤ sizeLine ∧ ∃ I : Nat → List (Key × D) → FS → Prop, I 0 [] (lp.en s1) ∧
    (∀ i d acc s, lp.xs[i]? = some d → I i acc s → (lp.chk s ∧ ownOk own s = true) ∧ ∃ s1, g d (wipeE own s) = some s1 ∧ wp (t s1) (fun b s2 => (b = true → wp (ek s2) (fun rk s3 => ∃ k, asK rk = some k ∧ wp (e s3) (fun r s4 => ∃ dd s5, frzR r s4 = some (dd, s5) ∧ I (i + 1) (dput acc k dd) (restE own s s5)) XN) XN) ∧ (b = false → I (i + 1) acc (restE own s s2))) XN) ∧
    (∀ acc s, I lp.xs.length acc s → lp.chk s ∧ Q (.tmp (.dct acc)) (lp.ex s))) X) : wp (eDc f own g t ek e s) Q X := by
  unfold eDc
  refine w_bind (wp_mono h fun lp s1 ⟨hl, I, h0, hs, he⟩ => ?_)
  have w := compD_w (chk := lp.chk) (own := own) (g := g) (t := t) (ek := ek) (e := e) (Qc := fun acc s => Q (.tmp (.dct acc)) (lp.ex s)) I lp.xs 0 [] (lp.en s1) h0 (Nat.le_refl _) (by omega) (fun i d acc s hd hi => by rw [Nat.zero_add] at hi ⊢; exact hs i d acc s hd hi) (fun acc s h => he acc s (by rw [Nat.zero_add] at h; exact h))
  cases ec : compD lp.chk own g t ek e lp.xs [] (lp.en s1) with
  | stuck => rw [ec] at w; exact w.elim
  | exc _ _ => rw [ec] at w; exact w.elim
  | ok acc s2 => rw [ec] at w; exact w
end
end VL
set_option maxRecDepth 100000
set_option maxHeartbeats 4000000
namespace VL
open PySem PySem.Spec L2
open PyProof.Rows hiding St
structure OkM (P : Program) (w : World) (K : PySem.W.Frag) (mg : Str → Option Value) (base : Heap) (k : Nat) (cls m : Str) (ps : List Str) (d : Den) (fd : FuncData) : Prop where
  F : FnOk P w K mg base (L2.CX P w) k (He.ma K (He.ga K cls) m) fd ps (spOf K d)
  c : Cls K (He.ga K cls)
  me : Meth K (He.ga K cls) m (He.ma K (He.ga K cls) m)
  ne : cls ≠ boxN
structure OkC (P : Program) (w : World) (K : PySem.W.Frag) (mg : Str → Option Value) (base : Heap) (k : Nat) (cls : Str) (ps : List Str) (d : Den) (fd : FuncData) : Prop where
  F : FnOk P w K mg base (L2.CX P w) k (He.ma K (He.ga K cls) "__init__") fd ps (spOf K d)
  mkk : Mk K (He.ga K cls) (He.ma K (He.ga K cls) "__init__")
  m : mg cls = some (.ref (He.ga K cls))
  ne : cls ≠ boxN
/-- how a def binds its arguments when the last ones, dvs, are left out -/
def Bd (K : PySem.W.Frag) (fd : FuncData) (ps : List Str) (dvs : List V) : Prop := ∃ ds, Vals dvs ds ∧ Binds K fd ps ds
theorem Bd.all {K : PySem.W.Frag} {fd : FuncData} {ps : List Str} (h : Binds K fd ps []) : Bd K fd ps [] := ⟨[], .nil, h⟩
section
variable {X : Cx} {W : WX} {k : Nat} {fd : FuncData} {ps : List Str} {d : Den} {cls m : Str} {o e : Expr} {es : List Expr} {apos pos p : Pos} {fo : M R} {fa : M (List R)} {pl : Sem Bool} {dvs : List V} {dd : List D}
theorem se_methO (O : OkM X.prog X.w X.K X.mg X.base k cls m ps d fd) (hb : Bd X.K fd ps dvs) (hdd : Flat dvs dd) (hr : Room k X.A) (tk : Takes X W) (he : PE X o (toE X.K W fo)) (ha : PA X (e :: es) (toA X.K W fa))
    (hst : starEach (e :: es) X.env = (false, eval e X.env) :: starEach es X.env := by rfl) (hpl : (backTo pos (starEach es X.env)).any (·.1) = false := by rfl)
    (ht : eval (.Call (.Attribute o m apos) (e :: es) [] pos) X.env = (do
      let ov ← eval o X.env
      standAt apos.atName
      let (f, first) ← holding [ov] (getMethod ov m pl)
      callWith pos f first (backTo pos (starEach (e :: es) X.env)) (backToKw pos (keywordEach [] X.env))) := by rfl) :
    PE X (.Call (.Attribute o m apos) (e :: es) [] pos) (toE X.K W (eMeth cls m d dd fo fa)) := by
  obtain ⟨ds, h1, h2⟩ := hb
  exact se_methI (pl := pl) O.ne he O.c O.me O.F hr h2 h1 hdd tk ha hst hpl ht
theorem se_methO0 (O : OkM X.prog X.w X.K X.mg X.base k cls m ps d fd) (hb : Bd X.K fd ps dvs) (hdd : Flat dvs dd) (hr : Room k X.A) (tk : Takes X W) (he : PE X o (toE X.K W fo))
    (ht : eval (.Call (.Attribute o m apos) [] [] pos) X.env = (do
      let ov ← eval o X.env
      standAt apos.atName
      let (f, first) ← holding [ov] (getMethod ov m pl)
      callWith pos f first (backTo pos (starEach [] X.env)) (backToKw pos (keywordEach [] X.env))) := by rfl) :
    PE X (.Call (.Attribute o m apos) [] [] pos) (toE X.K W (eMeth cls m d dd fo eNil)) := by
  obtain ⟨ds, h1, h2⟩ := hb
  exact se_methI0 (pl := pl) O.ne he O.c O.me O.F hr h2 h1 hdd tk ht
/-- f(..) with its last arguments left out -/
def eCallD (d : Den) (dd : List D) (fa : M (List R)) : M R := fun s => (fa s).bind fun rs s1 => callR d (rs ++ dd.map .val) s1
end
def kSlLo : R → R → M R := fun o l s => kSlK true false [o, l] s
def kSlHi : R → R → M R := fun o l s => kSlK false true [o, l] s
theorem ClsOk.nil {K : PySem.W.Frag} {f : Str} : ClsOk K [] f := fun c h => by cases h
theorem ClsOk.cons {K : PySem.W.Frag} {c : Str} {cl : List Str} {f : Str} (h : c ≠ boxN) (h1 : Cls K (He.ga K c)) (h2 : NoAttr K (He.ga K c) f) (r : ClsOk K cl f) : ClsOk K (c :: cl) f := fun d hd => by
  rcases List.mem_cons.mp hd with rfl | hd
  · exact ⟨h, h1, h2⟩
  · exact r d hd
def tL (K : PySem.W.Frag) (W : WX) : List (M R) → TA
  | [] => tNil
  | f :: fs => tCons (toE K W f) (tL K W fs)
def eL : List (M R) → M (List R)
  | [] => eNil
  | f :: fs => eCons f (eL fs)
theorem toA_up {K : PySem.W.Frag} {W : WX} {f : M (List R)} {σ : St} {H : Hp} {R1 R2 : List V → Hp → Prop} (i : ∀ v H, R1 v H → R2 v H) : toA K W f σ H R1 → toA K W f σ H R2 := fun ⟨m, s, x, p⟩ => ⟨m, s, x, by
  cases e : f s with
  | stuck => rw [e] at p; exact p
  | ok r s1 => rw [e] at p; exact fun v H' m' l x r => i _ _ (p v H' m' l x r)
  | exc ex s1 => rw [e] at p; exact p⟩
theorem tL_of {K : PySem.W.Frag} {W : WX} : ∀ {fs : List (M R)} {σ : St} {H : Hp} {Q : List V → Hp → Prop}, toA K W (eL fs) σ H (fun vs H => vs.length = fs.length → Q vs H) → tL K W fs σ H Q
  | [], σ, H, Q, h => toA_nil h rfl
  | f :: fs, σ, H, Q, h => by
    refine toE_up (fun v H1 q => ?_) (toA_cons h)
    exact tL_of (fs := fs) (toA_up (fun vs H2 q hl => q (by rw [List.length_cons, List.length_cons, hl])) q)
theorem tL_app {K : PySem.W.Frag} {W : WX} : ∀ {fs gs : List (M R)} {σ : St} {H : Hp} {Q : List V → List V → Hp → Prop}, tL K W (fs ++ gs) σ H (fun vs H => ∀ a b, vs = a ++ b → a.length = fs.length → b.length = gs.length → Q a b H) → True →
    tL K W fs σ H fun a H1 => tL K W gs σ H1 fun b H2 => a.length = fs.length → b.length = gs.length → Q a b H2
  | [], gs, σ, H, Q, h, _ => by
    show tL K W gs σ H _
    have : ∀ {gs : List (M R)} {σ H} {R1 R2 : List V → Hp → Prop}, (∀ v H, R1 v H → R2 v H) → tL K W gs σ H R1 → tL K W gs σ H R2 := fun {gs} => by
      induction gs with
      | nil => intro σ H R1 R2 i h; exact i _ _ h
      | cons g gs ih => intro σ H R1 R2 i h; exact toE_up (fun v H1 q => ih (fun vs H2 => i _ _) q) h
    exact this (fun b H2 q h1 h2 => q [] b rfl rfl h2) h
  | f :: fs, gs, σ, H, Q, h, _ => by
    refine toE_up (fun v H1 q => ?_) h
    have up : ∀ {gs : List (M R)} {σ H} {R1 R2 : List V → Hp → Prop}, (∀ v H, R1 v H → R2 v H) → tL K W gs σ H R1 → tL K W gs σ H R2 := fun {gs} => by
      induction gs with
      | nil => intro σ H R1 R2 i h; exact i _ _ h
      | cons g gs ih => intro σ H R1 R2 i h; exact toE_up (fun v H1 q => ih (fun vs H2 => i _ _) q) h
    have z := tL_app (fs := fs) (gs := gs) (Q := fun a b H => Q (v :: a) b H) (up (fun vs H2 q a b e h1 h2 => q (v :: a) b (by rw [e]; rfl) (by rw [List.length_cons, List.length_cons, h1]) h2) q) trivial
    exact up (fun a H2 q => up (fun b H3 q h1 h2 => q (by simpa using h1) h2) q) z
structure Bk (K : PySem.W.Frag) (fd : FuncData) (ps : List Str) (n : Nat) (ks : List Str) : Prop where
  b : KBn K fd ps n ks (fun us ws => us ++ ws) (fun us ws => us ++ ws)
theorem kbinds0 {K : PySem.W.Frag} {x qual : Str} {params : Arguments} {body : List Stmt} {scope : Scope} {kws : List (Str × V)} {f : Addr} {fd : FuncData} {ps : List Str} (F : FunD K x qual params body scope [] kws f fd) (n : Nat) (ks : List Str)
    (h : ∀ (kV doc pm : Value) (an : Option Addr) (cdv ct : Value) (us ws : List Value), us.length = n → ws.length = ks.length → bindArgs (PySem.W.fnOf x qual params body scope .none kV doc pm an cdv ct) ⟨us, ks.zip ws⟩ = pure (ps.zip (us ++ ws))) : Bk K fd ps n ks := by
  obtain ⟨oc, od, dV, kV, doc, pm, an, cdv, ct, osl, rfl, lk, hcd, hD, hK⟩ := F.ex
  rcases hD with ⟨_, rfl⟩ | ⟨e, _⟩
  · exact ⟨⟨fun s us ws X l1 l2 => .of_eq (h kV doc pm an cdv ct us ws l1 l2), fun r1 r2 => r1.append r2⟩⟩
  · exact absurd rfl e
section
variable {X : Cx} {W : WX} {k n : Nat} {fd : FuncData} {ps ks : List Str} {d : Den} {cls : Str} {e : Expr} {es : List Expr} {kws : List Keyword} {pos p : Pos} {fs gs : List (M R)}
def tMakeNS (C : Addr) (n m : Nat) (sp : Sp) (gV : List V → List V → List V) (E : St → XK) (t tk : TA) : TE := fun σ H Q => t σ H fun vs H1 => tk σ H1 fun zs H2 => vs.length = n ∧ zs.length = m ∧
  ∀ x dx, H2 x = none → H2 dx = none → dx ≠ x → sp (gV (.ref x :: vs) zs) (upd (upd H2 dx (.own x)) x (.ins C dx [])) (fun v H3 => v = .non ∧ Q (.ref x) H3) (E σ)
theorem pe_makeNS {CX : CXT} {f C : Addr} {sp : Sp} {E : St → XK} {x : Str} {t tk : TA} {g : List Value → List Value → List Value} {gV : List V → List V → List V}
    (M : Mk X.K C f) (F : FnOk X.prog X.w X.K X.mg X.base CX k f fd ps sp) (hr : Room (k + 1) X.A) (hg : Gl X x) (hm : X.mg x = some (.ref C)) (hb : KBn X.K fd ps (n + 1) ks g gV) (hx : ∀ σ, PassesAt CX X σ (E σ))
    (ha : PA X (e :: es) t) (hkw : PK X kws tk) (hall : (backToKw pos (keywordEach kws X.env)).all (·.1.isSome) = true := by rfl) (hks : (backToKw pos (keywordEach kws X.env)).filterMap (·.1) = ks := by rfl)
    (hdb : (x == ("__debug__" : Str)) = false := by decide) (he : starEach (e :: es) X.env = (false, eval e X.env) :: starEach es X.env := by rfl)
    (hpl : ((backTo pos (starEach (e :: es) X.env)).any (·.1) || (backToKw pos (keywordEach kws X.env)).any (·.1.isNone)) = false := by rfl) :
    PE X (.Call (.Name x p) (e :: es) kws pos) (tMakeNS C n ks.length sp gV E t tk) := by
  refine ⟨fun pins s σ H Q I h => ?_⟩
  refine wpAny_Call_Name_kw (ld_glob I hg hm ?_ hdb)
  refine PySem.W.callWith_KW (h₀ := X.base) I.ok.mod.kin M.kp hall (thn (ha.run pos pins s σ H _ I h) fun us s1 ⟨vs, H1, I1, r, q⟩ => ?_) hpl he
  refine thn (hkw.run pos pins s1 σ H1 _ I1 q) fun ws s2 ⟨zs, H2, I2, rz, l1, l2, q2⟩ => ⟨I2.kIn, ?_⟩
  rw [hks]
  have hq := q2 (s2.heap.objs.size + 1) s2.heap.objs.size (I2.hok.fresh (Nat.le_succ _)) (I2.hok.fresh (Nat.le_refl _)) (Nat.ne_of_lt (Nat.lt_succ_self _))
  have I3 := Inv.made (C := C) I2
  have r1 : Vals (V.ref (s2.heap.objs.size + 1) :: vs) (Value.ref (s2.heap.objs.size + 1) :: us) := .cons rfl r
  have r2 := hb.rel r1 rz
  have e1 : (Value.ref (s2.heap.objs.size + 1) :: us).length = n + 1 := r1.length.symm.trans (congrArg Nat.succ l1)
  have e2 : ws.length = ks.length := rz.length.symm.trans l2
  refine wpAny_call (make_map (f := f) I2.kIn M.makes M.init (beq_iff_eq.mp M.fn) (codeAny_mono (F.run _ X.stack _ _ ⟨Value.ref (s2.heap.objs.size + 1) :: us, ks.zip ws⟩ (g (Value.ref (s2.heap.objs.size + 1) :: us) ws) _ _ (E σ) (hr.make C us (ks.zip ws))
    (I3.env0.make C us (ks.zip ws)) (hb.to _ (Value.ref (s2.heap.objs.size + 1) :: us) ws I3.kIn e1 e2) r2 hq) fun r s' hq' => ?_))
  cases r with
  | error e => exact hx σ pins _ _ e s' I3 hq'
  | ok fl =>
    cases fl with
    | ret u =>
      obtain ⟨v, H', I4, rv, ev, q3⟩ := I3.after hq'
      subst ev
      exact ⟨rv, ⟨V.ref (s2.heap.objs.size + 1), H', I4, rfl, q3⟩⟩
    | next => exact False.elim hq'
    | brk => exact False.elim hq'
    | cont => exact False.elim hq'
/-- C(e, .., k = v, ..): all parameters given, in their order -/
theorem se_makeK (O : OkC X.prog X.w X.K X.mg X.base k cls ps d fd) (hb : Bk X.K fd ps (n + 1) ks) (hr : Room (k + 1) X.A) (hg : Gl X cls) (tk : Takes X W) (ha : PA X (e :: es) (tL X.K W fs)) (hkw : PK X kws (tL X.K W gs)) (hn : fs.length = n := by rfl) (hm : gs.length = ks.length := by rfl)
    (hall : (backToKw pos (keywordEach kws X.env)).all (·.1.isSome) = true := by rfl) (hks : (backToKw pos (keywordEach kws X.env)).filterMap (·.1) = ks := by rfl)
    (hdb : (cls == ("__debug__" : Str)) = false := by decide) (he : starEach (e :: es) X.env = (false, eval e X.env) :: starEach es X.env := by rfl)
    (hpl : ((backTo pos (starEach (e :: es) X.env)).any (·.1) || (backToKw pos (keywordEach kws X.env)).any (·.1.isNone)) = false := by rfl) :
    PE X (.Call (.Name cls p) (e :: es) kws pos) (toE X.K W (eMake cls d [] (eL (fs ++ gs)))) :=
  PE_imp (pe_makeNS O.mkk O.F hr hg O.m hb.b (fun σ => passAt tk σ) ha hkw hall hks hdb he hpl) fun σ H Q h => by
    have up : ∀ {gs : List (M R)} {σ H} {R1 R2 : List V → Hp → Prop}, (∀ v H, R1 v H → R2 v H) → tL X.K W gs σ H R1 → tL X.K W gs σ H R2 := fun {gs} => by
      induction gs with
      | nil => intro σ H R1 R2 i h; exact i _ _ h
      | cons g gs ih => intro σ H R1 R2 i h; exact toE_up (fun v H1 q => ih (fun vs H2 => i _ _) q) h
    have len : ∀ {gs : List (M R)} {σ H} {R1 : List V → Hp → Prop}, tL X.K W gs σ H R1 → tL X.K W gs σ H fun vs H => vs.length = gs.length ∧ R1 vs H := fun {gs} => by
      induction gs with
      | nil => intro σ H R1 h; exact ⟨rfl, h⟩
      | cons g gs ih => intro σ H R1 h; exact toE_up (fun v H1 q => up (fun vs H2 q => ⟨by rw [List.length_cons, List.length_cons, q.1], q.2⟩) (ih q)) h
    have main : toA X.K W (eL (fs ++ gs)) σ H fun vs H2 => ∀ x dx, H2 x = none → H2 dx = none → dx ≠ x → spOf X.K d (.ref x :: vs) (upd (upd H2 dx (.own x)) x (.ins (He.ga X.K cls) dx [])) (fun v H3 => v = .non ∧ Q (.ref x) H3) (WE W σ) := by
      refine many h fun m s H vs rs x p q a dx n1 n2 ne => ?_
      have ha1 := x.none3 n1
      have hd1 := x.none3 n2
      have x1 := (x.fresh (o := .own a) n2).fresh (p := a) (o := .ins (He.ga X.K cls) dx []) (by rw [upd_ne (Ne.symm ne)]; exact n1)
      have x2 := x1.adopt (cls := cls) O.ne ne ha1 hd1 upd_same (by rw [upd_ne ne]; exact upd_same)
      have hH : ∀ b, b ≠ a → b ≠ dx → upd (upd H dx (.own a)) a (.ins (He.ga X.K cls) dx []) b = H b := fun b h1 h2 => by rw [upd_ne h1, upd_ne h2]
      have hio : (adM m a dx).io s.g.length = a := if_pos x.cnt.symm
      have hk : s.g.length < (adM m a dx).n := by show _ < m.n + 1; rw [x.cnt]; omega
      rw [show (rs ++ ([] : List D).map R.val) = rs by simp] at q
      refine callR_ok (W := W) (Q := fun v H2 => v = .non ∧ Q (.ref a) H2) (rs := .val (.ins s.g.length) :: rs) x2 ⟨?_, RepRs.adopt n1 n2 hH p⟩ ?_
      · have z : RepD X.K (adM m a dx).P (adM m a dx).io (adM m a dx).n (.ref ((adM m a dx).io s.g.length)) (.ins s.g.length) := .ins hk
        rw [hio] at z; exact z
      · cases ec : callR d (.val (.ins s.g.length) :: rs) { s with g := s.g ++ [⟨cls, [], []⟩] } with
        | stuck => rw [ec] at q; exact q.elim
        | exc ex s2 => rw [ec] at q; exact fun c d H' m' l x => q c d H' m' (adM_le.trans l) x
        | ok r s2 =>
          rw [ec] at q
          intro v H' m' l x' pr
          cases r with
          | val dd =>
            cases dd with
            | non =>
              cases pr
              refine ⟨rfl, q (.ref a) H' m' (adM_le.trans l) x' ?_⟩
              have z : RepD X.K m'.P m'.io m'.n (.ref (m'.io s.g.length)) (.ins s.g.length) := .ins (Nat.lt_of_lt_of_le hk l.n)
              rw [l.io _ hk, hio] at z; exact z
            | _ => exact q.elim
          | _ => exact q.elim
    have z := tL_app (fs := fs) (gs := gs) (Q := fun a b H2 => ∀ x dx, H2 x = none → H2 dx = none → dx ≠ x → spOf X.K d (.ref x :: (a ++ b)) (upd (upd H2 dx (.own x)) x (.ins (He.ga X.K cls) dx [])) (fun v H3 => v = .non ∧ Q (.ref x) H3) (WE W σ))
      (tL_of (toA_up (fun vs H2 q _ a b e _ _ => by subst e; exact q) main)) trivial
    show tL X.K W fs σ H fun vs H1 => tL X.K W gs σ H1 fun zs H2 => vs.length = n ∧ zs.length = ks.length ∧ ∀ x dx, H2 x = none → H2 dx = none → dx ≠ x → spOf X.K d ((.ref x :: vs) ++ zs) (upd (upd H2 dx (.own x)) x (.ins (He.ga X.K cls) dx [])) (fun v H3 => v = .non ∧ Q (.ref x) H3) (WE W σ)
    refine up (fun a H1 ⟨la, q⟩ => up (fun b H2 ⟨lb, q⟩ => ⟨la.trans hn, lb.trans hm, q la lb⟩) (len q)) (len z)
theorem sk_nil : PK X [] (tL X.K W []) := pk_nil
theorem sk_cons {nm : Option Str} {kpos : Pos} {f : M R} (ha : PE X e (toE X.K W f)) (hr : PK X kws (tL X.K W fs)) : PK X (⟨nm, e, kpos⟩ :: kws) (tL X.K W (f :: fs)) := pk_cons ha hr
theorem sl_nil : PA X [] (tL X.K W []) := pa_nil
theorem sl_cons {f : M R} (ha : PE X e (toE X.K W f)) (hr : PA X es (tL X.K W fs)) (hs : starEach (e :: es) X.env = (false, eval e X.env) :: starEach es X.env := by rfl) : PA X (e :: es) (tL X.K W (f :: fs)) := pa_cons ha hr hs
end
end VL
set_option maxRecDepth 100000
set_option maxHeartbeats 4000000
namespace VL
open PySem PySem.Spec L2
open PyProof.Rows hiding St
section
variable {K : PySem.W.Frag} {m : Mp} {σ : St} {H H' : Hp} {s : FS}
theorem Rel.grow (x : Rel K m σ H s) (h : ∀ b o, H b = some o → H' b = some o) : Rel K m σ H' s := by
  have ho : ∀ a w, m.O a = some w → H' a = H a := fun a w e => by
    cases q : H a with
    | none => exact absurd q (x.oh a w e)
    | some o => exact h a o q
  exact x.keep ho (fun a o e => h a o (x.pers a o e)) (fun a o e => h a o (x.lock a o e)) (fun a o e => ⟨h a o (x.zz a o e).1, (x.zz a o e).2⟩)
/-- many new objects become data for good -/
theorem Rel.settles (x : Rel K m σ H' s) (T : Addr → Prop) [DecidablePred T] (h1 : ∀ a, T a → m.O a = none ∧ m.L a = none ∧ m.P a = none) :
    ∃ m2, Rel K m2 σ H' s ∧ m.le m2 ∧ (∀ a o, T a → H' a = some o → m2.P a = some o) ∧ m2.O = m.O ∧ m2.L = m.L ∧ (∀ a, ¬ T a → m2.P a = m.P a) := by
  have hP : ∀ b u, m.P b = some u → (if T b then H' b else m.P b) = some u := fun b u q => by
    rw [if_neg fun z => ?_]; exact q
    rw [(h1 b z).2.2] at q; cases q
  have kn : m.kn { m with P := fun b => if T b then H' b else m.P b } := ⟨hP, Nat.le_refl _, fun _ _ => rfl⟩
  refine ⟨{ m with P := fun b => if T b then H' b else m.P b }, ⟨fun b u q => ?_, x.lock, x.oh, fun b w q => ?_, x.ol, fun b u q => ?_, x.len, fun i z q => ?_, fun n c q => ?_, x.cnt, fun k I q => ?_, x.zz⟩, ⟨hP, rfl, rfl, Nat.le_refl _, fun _ _ => rfl, fun _ _ => Nat.le_refl _, fun _ _ _ _ => rfl, rfl, rfl⟩,
    fun a o t e => ?_, rfl, rfl, fun a t => ?_⟩
  · have q' : (if T b then H' b else m.P b) = some u := q
    split at q'
    · exact q'
    · exact x.pers b u q'
  · show (if T b then H' b else m.P b) = none
    rw [if_neg fun z => ?_]; exact x.op b w q
    have q' : m.O b = some w := q
    rw [(h1 b z).1] at q'; cases q'
  · show (if T b then H' b else m.P b) = none
    rw [if_neg fun z => ?_]; exact x.lp b u q
    have q' : m.L b = some u := q
    rw [(h1 b z).2.1] at q'; cases q'
  · have y := x.env i z q
    cases z with
    | val d => obtain ⟨v, e1, r⟩ := y; exact ⟨v, e1, RepD.mono kn.P kn.n kn.io r⟩
    | own c => obtain ⟨b, e1, o1, u, hu, r⟩ := y; exact ⟨b, e1, o1, u, hu, r.mono kn⟩
    | lck c => obtain ⟨b, e1, ⟨o1, u, hu, r⟩, l⟩ := y; exact ⟨b, e1, ⟨o1, u, hu, r.mono kn⟩, l⟩
    | _ => exact y
  · obtain ⟨o1, u, hu, r⟩ := x.cells n c q
    exact ⟨o1, u, hu, r.mono kn⟩
  · exact (x.ins k I q).mono kn rfl rfl rfl (fun _ _ => rfl) (fun _ _ _ h => h) (fun _ _ _ _ => rfl)
  · show (if T a then H' a else m.P a) = some o
    rw [if_pos t]; exact e
  · show (if T a then H' a else m.P a) = m.P a
    rw [if_neg t]
end
def itD (p : Key × D) : D := .tup [kD p.1, p.2]
def kItems : R → M R := fun r s => match cont s r with
  | some (.dct kvs) => .ok (.tmp (.lst (kvs.map itD))) s
  | _ => .stuck
theorem items_rep {K : PySem.W.Frag} {m : Mp} {H : Hp} : ∀ {vs : List (Key × V)} {ds : List (Key × D)} {ts : List Addr}, RKs K m vs ds → Paired (fun (t : Addr) (q : Key × V) => m.P t = some (.tup [kV q.1, q.2])) ts vs → RDs K m (ts.map V.ref) (ds.map itD)
  | _, _, _, .nil, .nil => .nil
  | _, _, _, .cons (k := k) r rs, .cons h hs => .cons (.tup h (.cons (kD_rep k) (.cons r .nil))) (items_rep (H := H) rs hs)
section
variable {X : Cx} {W : WX} {p apos cpos pos : Pos} {e : Expr} {f : M R}
open Classical in
theorem se_items (hc : X.calm = true) (hg : Gl X "list") (hm : X.mg "list" = none) (he : PE X e (toE X.K W f)) (hv : bootBuiltins "list" = some (.type "list") := by rfl) (hbase : attributeBase e "items" X.env (eval e X.env) = eval e X.env := by rfl) (hline : (apos.endLine == cpos.line) = true := by rfl)
    (hs : starEach [.Call (.Attribute e "items" apos) [] [] cpos] X.env = (false, eval (.Call (.Attribute e "items" apos) [] [] cpos) X.env) :: starEach [] X.env := by rfl) :
    PE X (.Call (.Name "list" p) [.Call (.Attribute e "items" apos) [] [] cpos] [] pos) (toE X.K W (eU kItems f)) :=
  PE_imp (LiI.pe_listItems hc he hg hm hv hbase hline hs) fun σ H Q h => by
    show toE X.K W f σ H fun x H1 => LiI.rItemsL x H1 Q
    refine one h fun m s H v r x p q => ?_
    unfold kItems at q
    cases e : cont s r with
    | none => rw [e] at q; exact q.elim
    | some c =>
      rw [e] at q
      cases c with
      | dct kvs =>
        have e' : dctW s r = some kvs := by unfold dctW; rw [e]
        obtain ⟨a, vs, rfl, ha, ra⟩ := dctW_ok x p e'
        refine ⟨a, vs, rfl, ha, fun H' l ts hg hl ht hlt hl' hts => ?_⟩
        have x1 := x.grow hg
        obtain ⟨m2, x2, l2, hP, eO, eL, nP⟩ := x1.settles (fun b => b ∈ ts) fun b hb => by
          obtain ⟨n1, n2, n3⟩ := x.none3 (ht b hb); exact ⟨n1, n3, n2⟩
        have hts2 : Paired (fun (t : Addr) (q : Key × V) => m2.P t = some (.tup [kV q.1, q.2])) ts vs := by
          have : ∀ {as : List Addr} {kv : List (Key × V)}, (∀ t ∈ as, t ∈ ts) → Paired (fun (t : Addr) (q : Key × V) => H' t = some (.tup [kV q.1, q.2])) as kv → Paired (fun (t : Addr) (q : Key × V) => m2.P t = some (.tup [kV q.1, q.2])) as kv := fun {as} => by
            induction as with
            | nil => intro kv _ h; cases h; exact .nil
            | cons t as ih =>
              intro kv hm h
              cases h with
              | cons h1 h2 => exact .cons (hP _ _ (hm _ List.mem_cons_self) h1) (ih (fun t ht => hm t (List.mem_cons_of_mem _ ht)) h2)
          exact this (fun _ h => h) hts
        have rr : RDs X.K m2 (ts.map V.ref) (kvs.map itD) := items_rep (H := H') (RKs.mono l2 ra) hts2
        obtain ⟨n1, n2, n3⟩ := x.none3 hl
        exact q (.ref l) H' m2 l2 x2 ⟨l, rfl, by rw [eO]; exact n1, by rw [nP l hlt]; exact n2, by rw [eL]; exact n3, _, hl', ⟨_, rfl, rr⟩⟩
      | _ => exact q.elim
end
end VL
set_option maxRecDepth 100000
set_option maxHeartbeats 4000000
namespace VL
open PySem PySem.Spec L2
open PyProof.Rows hiding St
noncomputable def b__law_tape : SM := (sSeq (sSet 1 (eLc (iAny (eVar 0)) [2] (gSet 2) mYes (eCB (k1 kAbs) (eCons (eCB (k1 kInt) (eCons (eVar 2) eNil)) eNil))))
  (sSeq (sIf (eT (eB (kEqN false) (eCB (k1 kLen) (eCons (eVar 1) eNil)) (eD (.int 0))))
  (sSet 1 (eLst (eCons (eD (.int 0)) eNil)))
  sNil)
  (sRet (eLst (eCons (eVar 1) (eCons (eD (.int 0)) (eCons (eB kIx (eVar 1) (eD (.int 0))) (eCons (eD (.int 0)) (eCons (eD (.int 0)) eNil)))))))))
noncomputable def d__law_tape : Den := mkDen 1 2 b__law_tape
noncomputable def b__law_pick : SM := (sSeq (sSet 2 (eB kIx (eVar 0) (eD (.int 0))))
  (sSeq (sSet 3 (eB kIx (eVar 2) (eB kIx (eVar 0) (eD (.int 1)))))
  (sSeq (sSet 4 (eB kAdd (eB kIx (eVar 0) (eD (.int 3))) (eB kMul (eD (.int 61)) (eB kIx (eVar 0) (eD (.int 4))))))
  (sSeq (sIf (mAnd (eT (eB (kII pGe) (eVar 3) (eB (kII pPow) (eD (.int 10)) (eD (.int 18))))) (eT (eB (kEqN false) (eB kIx (eVar 0) (eD (.int 4))) (eD (.int 0)))))
  (sSeq (sSet 5 (eB (kII pMod) (eCB (k1 kInt) (eCons (eB kIx (eVar 0) (eD (.int 2))) eNil)) (eVar 1)))
  (sSeq (sSetIt (eVar 0) (eD (.int 2)) (eB (kII pDiv) (eB kIx (eVar 0) (eD (.int 2))) (eVar 1)))
  (sSet 6 (eB (kEqN false) (eB kIx (eVar 0) (eD (.int 2))) (eD (.int 0))))))
  (sSeq (sSet 7 (eB (kII pMod) (eCB (k1 kInt) (eCons (eB kAdd (eB kAdd (eVar 3) (eB kMul (eD (.int 7919)) (eVar 4))) (eD (.int 13))) eNil)) (eD (.int 2147483647))))
  (sSeq (sSet 7 (eB (kII pMod) (eCB (k1 kInt) (eCons (eB kMul (eVar 7) (eB kAdd (eVar 7) (eD (.int 48271)))) eNil)) (eD (.int 2147483629))))
  (sSeq (sSet 7 (eB (kII pMod) (eCB (k1 kInt) (eCons (eB kAdd (eB kMul (eVar 7) (eB kAdd (eVar 7) (eD (.int 69621)))) (eB kMul (eD (.int 31)) (eVar 4))) eNil)) (eD (.int 2147483647))))
  (sSeq (sSet 5 (eB (kII pMod) (eCB (k1 kInt) (eCons (eB (kII pDiv) (eVar 7) (eD (.int 9))) eNil)) (eVar 1)))
  (sSet 6 (eB (kEqN false) (eB (kII pMod) (eCB (k1 kInt) (eCons (eVar 4) eNil)) (eD (.int 12))) (eD (.int 11)))))))))
  (sSeq (sSetIt (eVar 0) (eD (.int 3)) (eB kAdd (eB kIx (eVar 0) (eD (.int 3))) (eD (.int 1))))
  (sSeq (sIf (eT (eVar 6))
  (sSeq (sSetIt (eVar 0) (eD (.int 3)) (eD (.int 0)))
  (sSeq (sSetIt (eVar 0) (eD (.int 1)) (eB kAdd (eB kIx (eVar 0) (eD (.int 1))) (eD (.int 1))))
  (sSeq (sIf (eT (eB (kEqN false) (eB kIx (eVar 0) (eD (.int 1))) (eCB (k1 kLen) (eCons (eVar 2) eNil))))
  (sSeq (sSetIt (eVar 0) (eD (.int 1)) (eD (.int 0)))
  (sSetIt (eVar 0) (eD (.int 4)) (eB kAdd (eB kIx (eVar 0) (eD (.int 4))) (eD (.int 1)))))
  sNil)
  (sSetIt (eVar 0) (eD (.int 2)) (eB kIx (eVar 2) (eB kIx (eVar 0) (eD (.int 1))))))))
  sNil)
  (sRet (eVar 5))))))))
noncomputable def d__law_pick : Den := mkDen 2 6 b__law_pick
noncomputable def b__law_size : SM := (sSeq (sSet 2 (eCall d__law_pick (eCons (eVar 0) (eCons (eD (.int 8)) eNil))))
  (sSeq (sSet 3 (eCB (k2 (kII pMax)) (eCons (eD (.int 1)) (eCons (eVar 1) eNil))))
  (sSeq (sIf (eT (eB (kEqN false) (eVar 2) (eD (.int 0))))
  (sRet (eVar 3))
  sNil)
  (sSeq (sIf (eT (eB (kEqN false) (eVar 2) (eD (.int 7))))
  (sRet (eB kAdd (eVar 3) (eCall d__law_pick (eCons (eVar 0) (eCons (eD (.int 999999900)) eNil)))))
  sNil)
  (sSeq (sIf (eT (eB (kEqN false) (eVar 2) (eD (.int 6))))
  (sRet (eB kAdd (eVar 3) (eCall d__law_pick (eCons (eVar 0) (eCons (eD (.int 300)) eNil)))))
  sNil)
  (sRet (eB kAdd (eB kAdd (eVar 3) (eD (.int 1))) (eCall d__law_pick (eCons (eVar 0) (eCons (eD (.int 14)) eNil))))))))))
noncomputable def d__law_size : Den := mkDen 2 2 b__law_size
noncomputable def b__law_wide : SM := (sRet (eB (kII pMod) (eCB (k1 kInt) (eCons (eB kAdd (eB kMul (eCall d__law_pick (eCons (eVar 0) (eCons (eD (.int 32000)) eNil))) (eD (.int 32000))) (eCall d__law_pick (eCons (eVar 0) (eCons (eD (.int 32000)) eNil)))) eNil)) (eVar 1)))
noncomputable def d__law_wide : Den := mkDen 2 0 b__law_wide
noncomputable def b__law_circle : SM := (sSeq (sSet 2 (eCB (k2 (kII pMax)) (eCons (eD (.int 1)) (eCons (eVar 1) eNil))))
  (sSeq (sSet 3 (eCall d__law_pick (eCons (eVar 0) (eCons (eD (.int 8)) eNil))))
  (sSeq (sIf (eT (eB (kEqN false) (eVar 3) (eD (.int 0))))
  (sRet (eB (kII pSub) (eD (.int 1000000000)) (eCall d__law_pick (eCons (eVar 0) (eCons (eD (.int 3)) eNil)))))
  sNil)
  (sSeq (sIf (eT (eB (kEqN false) (eVar 3) (eD (.int 1))))
  (sRet (eB kAdd (eVar 2) (eCall d__law_wide (eCons (eVar 0) (eCons (eB (kII pSub) (eD (.int 1000000001)) (eVar 2)) eNil)))))
  sNil)
  (sRet (eCall d__law_size (eCons (eVar 0) (eCons (eVar 1) eNil))))))))
noncomputable def d__law_circle : Den := mkDen 2 2 b__law_circle
noncomputable def b__law_place : SM := (sSeq (sSet 2 (eCall d__law_pick (eCons (eVar 0) (eCons (eD (.int 8)) eNil))))
  (sSeq (sIf (eT (eB (kEqN false) (eVar 2) (eD (.int 0))))
  (sRet (eD (.int 0)))
  sNil)
  (sSeq (sIf (eT (eB (kEqN false) (eVar 2) (eD (.int 1))))
  (sRet (eB (kII pSub) (eVar 1) (eD (.int 1))))
  sNil)
  (sRet (eCall d__law_wide (eCons (eVar 0) (eCons (eVar 1) eNil)))))))
noncomputable def d__law_place : Den := mkDen 2 1 b__law_place
noncomputable def b__law_near : SM := (sSeq (sSet 3 (eCall d__law_pick (eCons (eVar 0) (eCons (eD (.int 8)) eNil))))
  (sSeq (sIf (eT (eB (kII pLt) (eVar 3) (eD (.int 2))))
  (sRet (eVar 2))
  sNil)
  (sSeq (sIf (eT (eB (kEqN false) (eVar 3) (eD (.int 2))))
  (sRet (eB (kII pMod) (eCB (k1 kInt) (eCons (eB kAdd (eVar 2) (eD (.int 1))) eNil)) (eVar 1)))
  sNil)
  (sSeq (sIf (eT (eB (kEqN false) (eVar 3) (eD (.int 3))))
  (sRet (eB (kII pMod) (eCB (k1 kInt) (eCons (eB (kII pSub) (eB kAdd (eVar 2) (eVar 1)) (eD (.int 1))) eNil)) (eVar 1)))
  sNil)
  (sRet (eCall d__law_place (eCons (eVar 0) (eCons (eVar 1) eNil))))))))
noncomputable def d__law_near : Den := mkDen 3 1 b__law_near
noncomputable def b__law_same (drec : Den) : SM := (sSeq (sIf (eT (eB (kIsN false) (eVar 1) (eD .non)))
  (sRet (eB (kIsN false) (eVar 0) (eD .non)))
  sNil)
  (sSeq (sIf (eT (eB (kIsN false) (eVar 1) (eD (.bl true))))
  (sRet (eB (kIsN false) (eVar 0) (eD (.bl true))))
  sNil)
  (sSeq (sIf (eT (eB (kIsN false) (eVar 1) (eD (.bl false))))
  (sRet (eB (kIsN false) (eVar 0) (eD (.bl false))))
  sNil)
  (sSeq (sIf (eT (eIsT "int" (eVar 1)))
  (sRet (eAnd (eIsT "int" (eVar 0)) (eAnd (eNot (eIsT "bool" (eVar 0))) (eB (kEqN false) (eVar 0) (eVar 1)))))
  sNil)
  (sSeq (sIf (eT (eIsT "str" (eVar 1)))
  (sRet (eAnd (eIsT "str" (eVar 0)) (eB (kEqN false) (eVar 0) (eVar 1))))
  sNil)
  (sSeq (sIf (eT (eIsT "dict" (eVar 1)))
  (sRet (eAnd (eIsT "dict" (eVar 0)) (eCall drec (eCons (eU kItems (eVar 0)) (eCons (eU kItems (eVar 1)) eNil)))))
  sNil)
  (sSeq (sIf (mAnd (eT (eIsT "tuple" (eVar 1))) (mNot (eT (eIsT "tuple" (eVar 0)))))
  (sRet (eD (.bl false)))
  sNil)
  (sSeq (sIf (mAnd (eT (eIsT "list" (eVar 1))) (mNot (eT (eIsT "list" (eVar 0)))))
  (sRet (eD (.bl false)))
  sNil)
  (sSeq (sIf (eT (eB (kEqN true) (eCB (k1 kLen) (eCons (eVar 0) eNil)) (eCB (k1 kLen) (eCons (eVar 1) eNil))))
  (sRet (eD (.bl false)))
  sNil)
  (sSeq (sFor (iR1 (eCons (eCB (k1 kLen) (eCons (eVar 1) eNil)) eNil)) (gSet 2)
  (sIf (mNot (eT (eCall drec (eCons (eB kIx (eVar 0) (eVar 2)) (eCons (eB kIx (eVar 1) (eVar 2)) eNil)))))
  (sRet (eD (.bl false)))
  sNil))
  (sRet (eD (.bl true)))))))))))))
noncomputable def dn__law_same : Nat → Den
  | 0 => stuckDen
  | k + 1 => mkDen 2 1 (b__law_same (dn__law_same k))
noncomputable def d__law_same : Den := dn__law_same 12
noncomputable def b_far : SM := (sSeq (sSet 3 (eB (kII pMod) (eB (kII pSub) (eVar 2) (eVar 1)) (eVar 0)))
  (sSeq (sIf (eT (eB (kEqN false) (eVar 3) (eD (.int 0))))
  (sRet (eVar 0))
  sNil)
  (sRet (eVar 3))))
noncomputable def d_far : Den := mkDen 3 1 b_far
local macro_rules | `(tactic| wtm_at "vl") => `(tactic| first
  | with_reducible refine v_seq ?_
  | with_reducible refine v_k_next ?_
  | with_reducible refine v_k_ret ?_
  | with_reducible refine v_k_brk ?_
  | with_reducible refine v_k_cont ?_
  | with_reducible refine v_set ?_
  | with_reducible refine v_if ?_
  | with_reducible refine v_ret ?_
  | with_reducible refine v_retN ?_
  | with_reducible refine v_nil ?_
  | with_reducible refine v_brk ?_
  | with_reducible refine v_cont ?_
  | with_reducible refine v_e ?_
  | with_reducible refine v_it ?_
  | with_reducible refine v_aug ?_
  | (with_reducible refine v_sl_val ?_; try dsimp only [List.set, FS.setE, C.toD])
  | (with_reducible refine v_sl_tmp ?h ?q; (case h => with_unfolding_all exact Nat.le_of_ble_eq_true rfl); (case' q => try dsimp only [List.set, FS.setE, C.toD]))
  | (with_reducible refine v_sl_pc ?_; try dsimp only [List.set, FS.setE, C.toD])
  | (with_reducible refine v_sl_ic ?_; try dsimp only [List.set, FS.setE, C.toD])
  | (with_reducible refine' w_var_val ?h0 ?q; (case h0 => with_unfolding_all rfl))
  | (with_reducible refine' w_var_own ?h0 ?q; (case h0 => with_unfolding_all rfl))
  | (with_reducible refine' w_var_pc ?h0 ?q; (case h0 => with_unfolding_all rfl))
  | (with_reducible refine' w_var_lck ?h0 ?q; (case h0 => with_unfolding_all rfl))
  | (with_reducible refine' w_var_ic ?h0 ?q; (case h0 => with_unfolding_all rfl))
  | with_reducible refine w_d ?_
  | with_reducible refine w_bin ?_
  | with_reducible refine w_cons ?_
  | with_reducible refine w_nil ?_
  | with_reducible refine w_T ?_
  | with_reducible refine w_asB ?_
  | with_reducible refine w_add ?_
  | with_reducible refine w_sub ?_
  | with_reducible refine w_lt ?_
  | with_reducible refine w_le ?_
  | with_reducible refine w_gt ?_
  | with_reducible refine w_ge ?_
  | with_reducible refine w_eqi ?_
  | with_reducible refine w_nei ?_
  | with_reducible refine w_mod ?_ ?_
  | with_reducible refine w_div ?_ ?_ ?_
  | with_reducible refine w_pow (by decide) ?_
  | with_reducible refine w_mul ?_ ?_
  | with_reducible refine w_addI ?_
  | with_reducible refine w_max ?_
  | with_reducible refine w_min ?_
  | with_reducible refine w_un ?_
  | with_reducible refine w_neg ?_
  | (with_reducible refine' w_ixl ?h0 ?h1 ?q; (case h0 => with_unfolding_all rfl); (case h1 => with_unfolding_all rfl))
  | (with_reducible refine' w_ixl ?h ?h2 ?q; (case h => with_unfolding_all rfl); (case' h2 => with_reducible refine atI_ints ?_ ?_))
  | (with_reducible refine' w_ixt ?h0 ?q; (case h0 => with_unfolding_all rfl))
  | with_reducible refine w_mand ?_
  | with_reducible refine w_mor ?_
  | with_reducible refine w_mnot ?_
  | with_reducible refine w_yes ?_
  | with_reducible refine w_eand ?_
  | with_reducible refine w_eor ?_
  | with_reducible refine w_enot ?_
  | with_reducible refine w_eif ?_
  | with_reducible refine w_ch ?_
  | with_reducible refine w_lst ?_
  | with_reducible refine w_tup ?_
  | with_reducible refine w_dict0 ?_
  | with_reducible refine w_cb ?_
  | with_reducible refine w_k1 ?_
  | with_reducible refine w_k2 ?_
  | with_reducible refine w_abs ?_
  | with_reducible refine w_int ?_
  | with_reducible refine w_intb ?_
  | (with_reducible refine' w_lenl ?h0 ?q; (case h0 => with_unfolding_all rfl))
  | with_reducible refine w_lent ?_
  | with_reducible refine w_isT ?_
  | with_reducible refine w_eCall ?_
  | with_reducible refine w_eqb ?_
  | with_reducible refine w_eqs ?_
  | with_reducible refine i_true ?_
  | with_reducible refine i_false ?_
  | with_reducible refine i_not ?_
  | with_reducible refine i_dec (fun _ => ?_) (fun _ => ?_)
  | with_reducible refine f_next ?_
  | with_reducible refine f_val ?_
  | with_reducible refine f_tmp ?_
  | with_reducible refine f_pc ?_
  | (with_reducible refine' f_var ?h0 ?q; (case h0 => with_unfolding_all rfl))
  | (with_reducible refine' i_lt ?h0 ?q; (case h0 => with_unfolding_all rfl))
  | (with_reducible refine' i_lf ?h0 ?q; (case h0 => with_unfolding_all rfl))
  | (with_reducible refine' x_it ?h ?h2 ?q; (case h => with_unfolding_all rfl); (case h2 => (with_reducible refine' setItem_lst ?a ?b ?c; (case a => with_unfolding_all rfl); (case b => with_unfolding_all rfl); (case c => with_unfolding_all rfl))); (case' q => try dsimp only [List.set, FS.setE, C.toD, Int.reduceToNat]))
  | (with_reducible refine' x_frz ?h0 ?h1 ?q; (case h0 => with_unfolding_all rfl); (case h1 => with_unfolding_all rfl); (case' q => try dsimp only [List.set, FS.setE, C.toD]))
  | (with_reducible refine' x_call ?h0 ?h1 ?q; (case h0 => with_unfolding_all rfl); (case h1 => with_unfolding_all rfl); (case' q => try dsimp only [List.set, FS.setE, C.toD]))
  | (with_reducible refine' x_back ?h0 ?q; (case h0 => with_unfolding_all rfl); (case' q => try dsimp only [List.set, FS.setE, C.toD]))
  | (with_reducible refine' x_ty ?h0 ?q; (case h0 => with_unfolding_all rfl))
  | (with_reducible refine' x_frz1 ?h0 ?q; (case h0 => with_unfolding_all rfl); (case' q => try dsimp only [List.set, FS.setE, C.toD]))
  | with_reducible refine x_r1 ⟨?_, ?_⟩ ?_
  | with_reducible refine x_r2 ⟨?_, ?_, ?_, ?_⟩ ?_
  | with_reducible refine w_m ?_
  | (with_reducible refine' x_has ?h0 ?q; (case h0 => with_unfolding_all rfl))
  | (with_reducible refine' w_app ?h ?h1 ?h2 ?h3 ?h4 ?q; (case h => with_unfolding_all rfl); (case h1 => with_unfolding_all rfl); (case h3 => rfl); (case h4 => with_unfolding_all rfl); (case' q => try dsimp only [List.set, FS.setE, C.toD]))
  | with_reducible refine w_isT ?_
  | (with_reducible refine' w_is ?h0 ?q; (case h0 => with_unfolding_all rfl))
  | (with_reducible refine' w_call ?h0 ?q; (case h0 => with_unfolding_all rfl); (case' q => try dsimp only [List.nil_append, List.cons_append, List.length_nil, List.length_cons, Nat.reduceAdd]))
  | (with_reducible refine' w_listOf ?h0 ?q; (case h0 => with_unfolding_all rfl))
  | (with_reducible refine' w_tupOf ?h0 ?q; (case h0 => with_unfolding_all rfl))
  | (with_reducible show @LE.le Int _ _ _; omega)
  | (with_reducible show @LT.lt Int _ _ _; omega)
  | fail)
theorem tape_w {ns : List Int} {cs : List C} {g : List Inst} {Q X} (h : ns.length ≤ sizeLine) (q : ∀ c, TapeOk c → Q (.tmp c) cs g) : wpD (d__law_tape [.val (.frz (ns.map D.int))] cs g) Q X := by
  refine v_den rfl ?_
  unfold b__law_tape
  simp only [List.map, List.replicate, argS, List.cons_append, List.nil_append]
  wtm_at "vl"
  wtm_at "vl"
  with_reducible refine w_lc_map (mapI fun i => if i < 0 then -i else i) ?_
  with_reducible refine w_any ?_
  wtm_at "vl"
  dsimp only [anyQ, wipeE]
  refine ⟨by rw [List.length_map]; exact h, ⟨trivial, rfl⟩, fun d hd => ?_, ?_⟩
  · obtain ⟨i, _, rfl⟩ := List.mem_map.mp hd
    refine ⟨_, rfl, ?_⟩
    dsimp only [FS.setE, List.set]
    repeat' wtm_at "vl"
    exact ⟨rfl, rfl⟩
  · rw [mapI_ints]
    generalize ns.map (fun i : Int => if i < 0 then -i else i) = ms
    repeat' wtm_at "vl"
    all_goals first
      | omega
      | (simp only [List.length_map] at *; omega)
      | (refine q _ ⟨ms, _, _, _, _, rfl, ?_, ?_⟩ <;> (simp only [List.length_map] at *; omega))
      | exact q _ ⟨[0], 0, 0, 0, 0, rfl, by decide, by decide⟩
      | trace_state
theorem pick_w {c : C} {size : Int} {g : List Inst} {Q X} (hc : TapeOk c) (h1 : 0 < size) (h2 : size < 1073741824) (q : ∀ n c, 0 ≤ n → n < size → TapeOk c → Q (.val (.int n)) [c] g) : wpD (d__law_pick [.pc 0, .val (.int size)] [c] g) Q X := by
  obtain ⟨ms, p, v, k, t, rfl, hp, hp2⟩ := hc
  refine v_den rfl ?_
  unfold b__law_pick
  simp only [List.map_cons, List.map_nil, List.replicate, argS, List.cons_append, List.nil_append]
  repeat' wtm_at "vl"
  all_goals first
    | omega
    | (simp only [List.length_map] at *; omega)
    | (refine q _ _ (Int.emod_nonneg _ (by omega)) (Int.emod_lt_of_pos _ h1) ⟨ms, _, _, _, _, rfl, ?_, ?_⟩ <;> (try simp only [List.length_map] at *) <;> omega)
local macro_rules | `(tactic| wtm_at "vl") => `(tactic| first
  | with_reducible refine pick_w (by assumption) ?_ ?_ (fun _ _ _ _ _ => ?_))
theorem size_w {c : C} {count : Int} {g : List Inst} {Q X} (hc : TapeOk c) (h1 : count ≤ 100) (q : ∀ n c, 1 ≤ n → count ≤ n → n ≤ 1000000000 → TapeOk c → Q (.val (.int n)) [c] g) : wpD (d__law_size [.pc 0, .val (.int count)] [c] g) Q X := by
  refine v_den rfl ?_
  unfold b__law_size
  simp only [List.map_cons, List.map_nil, List.replicate, argS, List.cons_append, List.nil_append]
  repeat' wtm_at "vl"
  all_goals first
    | omega
    | (refine q _ _ ?_ ?_ ?_ (by assumption) <;> (repeat' split) <;> omega)
theorem wide_w {c : C} {size : Int} {g : List Inst} {Q X} (hc : TapeOk c) (h1 : 0 < size) (q : ∀ n c, 0 ≤ n → n < size → TapeOk c → Q (.val (.int n)) [c] g) : wpD (d__law_wide [.pc 0, .val (.int size)] [c] g) Q X := by
  refine v_den rfl ?_
  unfold b__law_wide
  simp only [List.map_cons, List.map_nil, List.replicate, argS, List.cons_append, List.nil_append]
  repeat' wtm_at "vl"
  all_goals first
    | omega
    | exact q _ _ (Int.emod_nonneg _ (by omega)) (Int.emod_lt_of_pos _ h1) (by assumption)
local macro_rules | `(tactic| wtm_at "vl") => `(tactic| first
  | with_reducible refine size_w (by assumption) ?_ (fun _ _ _ _ _ _ => ?_)
  | with_reducible refine wide_w (by assumption) ?_ (fun _ _ _ _ _ => ?_))
theorem circle_w {c : C} {count : Int} {g : List Inst} {Q X} (hc : TapeOk c) (h1 : count ≤ 100) (q : ∀ n c, 1 ≤ n → count ≤ n → n ≤ 1000000000 → TapeOk c → Q (.val (.int n)) [c] g) : wpD (d__law_circle [.pc 0, .val (.int count)] [c] g) Q X := by
  refine v_den rfl ?_
  unfold b__law_circle
  simp only [List.map_cons, List.map_nil, List.replicate, argS, List.cons_append, List.nil_append]
  repeat' wtm_at "vl"
  all_goals first
    | omega
    | (refine q _ _ ?_ ?_ ?_ (by assumption) <;> (repeat' split) <;> omega)
    | ((repeat' split at *) <;> first | omega | (refine q _ _ ?_ ?_ ?_ (by assumption) <;> omega))
theorem place_w {c : C} {size : Int} {g : List Inst} {Q X} (hc : TapeOk c) (h1 : 0 < size) (q : ∀ n c, 0 ≤ n → n < size → TapeOk c → Q (.val (.int n)) [c] g) : wpD (d__law_place [.pc 0, .val (.int size)] [c] g) Q X := by
  refine v_den rfl ?_
  unfold b__law_place
  simp only [List.map_cons, List.map_nil, List.replicate, argS, List.cons_append, List.nil_append]
  repeat' wtm_at "vl"
  all_goals first
    | omega
    | (refine q _ _ ?_ ?_ (by assumption) <;> omega)
local macro_rules | `(tactic| wtm_at "vl") => `(tactic| first
  | with_reducible refine place_w (by assumption) ?_ (fun _ _ _ _ _ => ?_))
theorem near_w {c : C} {size p : Int} {g : List Inst} {Q X} (hc : TapeOk c) (h1 : 0 < size) (h2 : 0 ≤ p) (h3 : p < size) (q : ∀ n c, 0 ≤ n → n < size → TapeOk c → Q (.val (.int n)) [c] g) : wpD (d__law_near [.pc 0, .val (.int size), .val (.int p)] [c] g) Q X := by
  refine v_den rfl ?_
  unfold b__law_near
  simp only [List.map_cons, List.map_nil, List.replicate, argS, List.cons_append, List.nil_append]
  repeat' wtm_at "vl"
  all_goals first
    | omega
    | (refine q _ _ ?_ ?_ (by assumption) <;> omega)
    | exact q _ _ (Int.emod_nonneg _ (by omega)) (Int.emod_lt_of_pos _ h1) (by assumption)
def farI (n s e : Int) : Int := if (e - s) % n = 0 then n else (e - s) % n
theorem far_w {n s e : Int} {cs : List C} {g : List Inst} {Q X} (h : 0 < n) (q : Q (.val (.int (farI n s e))) cs g) : wpD (d_far [.val (.int n), .val (.int s), .val (.int e)] cs g) Q X := by
  refine v_den rfl ?_
  unfold b_far
  simp only [List.map_cons, List.map_nil, List.replicate, argS, List.cons_append, List.nil_append]
  repeat' wtm_at "vl"
  all_goals first
    | omega
    | (unfold farI at q; simp only [*, if_true, if_false] at q; exact q)
end VL
set_option maxRecDepth 100000
set_option maxHeartbeats 4000000
namespace VL
open PySem PySem.Spec L2
open PyProof.Rows hiding St
local macro_rules | `(tactic| wtm_at "vl") => `(tactic| first
  | with_reducible refine v_seq ?_
  | with_reducible refine v_k_next ?_
  | with_reducible refine v_k_ret ?_
  | with_reducible refine v_k_brk ?_
  | with_reducible refine v_k_cont ?_
  | with_reducible refine v_set ?_
  | with_reducible refine v_if ?_
  | with_reducible refine v_ret ?_
  | with_reducible refine v_retN ?_
  | with_reducible refine v_nil ?_
  | with_reducible refine v_brk ?_
  | with_reducible refine v_cont ?_
  | with_reducible refine v_e ?_
  | with_reducible refine v_it ?_
  | with_reducible refine v_aug ?_
  | (with_reducible refine v_sl_val ?_; try dsimp only [List.set, FS.setE, C.toD])
  | (with_reducible refine v_sl_tmp ?h ?q; (case h => with_unfolding_all exact Nat.le_of_ble_eq_true rfl); (case' q => try dsimp only [List.set, FS.setE, C.toD]))
  | (with_reducible refine v_sl_pc ?_; try dsimp only [List.set, FS.setE, C.toD])
  | (with_reducible refine v_sl_ic ?_; try dsimp only [List.set, FS.setE, C.toD])
  | (with_reducible refine' w_var_val ?h0 ?q; (case h0 => with_unfolding_all rfl))
  | (with_reducible refine' w_var_own ?h0 ?q; (case h0 => with_unfolding_all rfl))
  | (with_reducible refine' w_var_pc ?h0 ?q; (case h0 => with_unfolding_all rfl))
  | (with_reducible refine' w_var_lck ?h0 ?q; (case h0 => with_unfolding_all rfl))
  | (with_reducible refine' w_var_ic ?h0 ?q; (case h0 => with_unfolding_all rfl))
  | with_reducible refine w_d ?_
  | with_reducible refine w_bin ?_
  | with_reducible refine w_cons ?_
  | with_reducible refine w_nil ?_
  | with_reducible refine w_T ?_
  | with_reducible refine w_asB ?_
  | with_reducible refine w_add ?_
  | with_reducible refine w_sub ?_
  | with_reducible refine w_lt ?_
  | with_reducible refine w_le ?_
  | with_reducible refine w_gt ?_
  | with_reducible refine w_ge ?_
  | with_reducible refine w_eqi ?_
  | with_reducible refine w_nei ?_
  | with_reducible refine w_mod ?_ ?_
  | with_reducible refine w_div ?_ ?_ ?_
  | with_reducible refine w_pow (by decide) ?_
  | with_reducible refine w_mul ?_ ?_
  | with_reducible refine w_addI ?_
  | with_reducible refine w_max ?_
  | with_reducible refine w_min ?_
  | with_reducible refine w_un ?_
  | with_reducible refine w_neg ?_
  | (with_reducible refine' w_ixl ?h0 ?h1 ?q; (case h0 => with_unfolding_all rfl); (case h1 => with_unfolding_all rfl))
  | (with_reducible refine' w_ixl ?h ?h2 ?q; (case h => with_unfolding_all rfl); (case' h2 => with_reducible refine atI_ints ?_ ?_))
  | (with_reducible refine' w_ixt ?h0 ?q; (case h0 => with_unfolding_all rfl))
  | with_reducible refine w_mand ?_
  | with_reducible refine w_mor ?_
  | with_reducible refine w_mnot ?_
  | with_reducible refine w_yes ?_
  | with_reducible refine w_eand ?_
  | with_reducible refine w_eor ?_
  | with_reducible refine w_enot ?_
  | with_reducible refine w_eif ?_
  | with_reducible refine w_ch ?_
  | with_reducible refine w_lst ?_
  | with_reducible refine w_tup ?_
  | with_reducible refine w_dict0 ?_
  | with_reducible refine w_cb ?_
  | with_reducible refine w_k1 ?_
  | with_reducible refine w_k2 ?_
  | with_reducible refine w_abs ?_
  | with_reducible refine w_int ?_
  | with_reducible refine w_intb ?_
  | (with_reducible refine' w_lenl ?h0 ?q; (case h0 => with_unfolding_all rfl))
  | with_reducible refine w_lent ?_
  | with_reducible refine w_isT ?_
  | with_reducible refine w_eCall ?_
  | with_reducible refine w_eqb ?_
  | with_reducible refine w_eqs ?_
  | with_reducible refine i_true ?_
  | with_reducible refine i_false ?_
  | with_reducible refine i_not ?_
  | with_reducible refine i_dec (fun _ => ?_) (fun _ => ?_)
  | with_reducible refine f_next ?_
  | with_reducible refine f_val ?_
  | with_reducible refine f_tmp ?_
  | with_reducible refine f_pc ?_
  | (with_reducible refine' f_var ?h0 ?q; (case h0 => with_unfolding_all rfl))
  | (with_reducible refine' i_lt ?h0 ?q; (case h0 => with_unfolding_all rfl))
  | (with_reducible refine' i_lf ?h0 ?q; (case h0 => with_unfolding_all rfl))
  | (with_reducible refine' x_it ?h ?h2 ?q; (case h => with_unfolding_all rfl); (case h2 => (with_reducible refine' setItem_lst ?a ?b ?c; (case a => with_unfolding_all rfl); (case b => with_unfolding_all rfl); (case c => with_unfolding_all rfl))); (case' q => try dsimp only [List.set, FS.setE, C.toD, Int.reduceToNat]))
  | (with_reducible refine' x_frz ?h0 ?h1 ?q; (case h0 => with_unfolding_all rfl); (case h1 => with_unfolding_all rfl); (case' q => try dsimp only [List.set, FS.setE, C.toD]))
  | (with_reducible refine' x_call ?h0 ?h1 ?q; (case h0 => with_unfolding_all rfl); (case h1 => with_unfolding_all rfl); (case' q => try dsimp only [List.set, FS.setE, C.toD]))
  | (with_reducible refine' x_back ?h0 ?q; (case h0 => with_unfolding_all rfl); (case' q => try dsimp only [List.set, FS.setE, C.toD]))
  | (with_reducible refine' x_ty ?h0 ?q; (case h0 => with_unfolding_all rfl))
  | (with_reducible refine' x_frz1 ?h0 ?q; (case h0 => with_unfolding_all rfl); (case' q => try dsimp only [List.set, FS.setE, C.toD]))
  | with_reducible refine x_r1 ⟨?_, ?_⟩ ?_
  | with_reducible refine x_r2 ⟨?_, ?_, ?_, ?_⟩ ?_
  | with_reducible refine w_m ?_
  | (with_reducible refine' x_has ?h0 ?q; (case h0 => with_unfolding_all rfl))
  | (with_reducible refine' w_app ?h ?h1 ?h2 ?h3 ?h4 ?q; (case h => with_unfolding_all rfl); (case h1 => with_unfolding_all rfl); (case h3 => rfl); (case h4 => with_unfolding_all rfl); (case' q => try dsimp only [List.set, FS.setE, C.toD]))
  | with_reducible refine w_isT ?_
  | (with_reducible refine' w_is ?h0 ?q; (case h0 => with_unfolding_all rfl))
  | (with_reducible refine' w_call ?h0 ?q; (case h0 => with_unfolding_all rfl); (case' q => try dsimp only [List.nil_append, List.cons_append, List.length_nil, List.length_cons, Nat.reduceAdd]))
  | (with_reducible refine' w_listOf ?h0 ?q; (case h0 => with_unfolding_all rfl))
  | (with_reducible refine' w_tupOf ?h0 ?q; (case h0 => with_unfolding_all rfl))
  | (with_reducible show @LE.le Int _ _ _; omega)
  | (with_reducible show @LT.lt Int _ _ _; omega)
  | fail)
def okD : Nat → D → Prop
  | 0, _ => False
  | _ + 1, .non => True
  | _ + 1, .bl _ => True
  | _ + 1, .int _ => True
  | _ + 1, .str _ => True
  | n + 1, .lst xs => xs.length ≤ sizeLine ∧ ∀ x, x ∈ xs → okD n x
  | n + 1, .tup xs => xs.length ≤ sizeLine ∧ ∀ x, x ∈ xs → okD n x
  | n + 1, .dct kvs => okD n (.lst (kvs.map itD))
  | _, _ => False
def rdC : C → Option D
  | .lst xs => some (.lst xs)
  | .dct kvs => some (.dct kvs)
  | .lkd _ => none
def rdD (cs : List C) : R → Option D
  | .val d => some d
  | .pc i => match cs[i]? with
    | some c => rdC c
    | none => none
  | _ => none
/-- a reads as the list xs -/
def LA (cs : List C) (xs : List D) (a : R) : Prop := a = .val (.lst xs) ∨ ∃ i, a = .pc i ∧ cs[i]? = some (.lst xs)
theorem LA.of {cs : List C} {xs : List D} {a : R} (h : rdD cs a = some (.lst xs)) : LA cs xs a := by
  unfold rdD at h
  split at h
  · cases h; exact .inl rfl
  · rename_i i
    split at h
    · rename_i c e
      cases c with
      | lst ys => cases h; exact .inr ⟨i, rfl, e⟩
      | dct kvs => cases h
      | lkd kvs => cases h
    · cases h
  · cases h
section
variable {cs : List C} {xs : List D} {a : R} {Q : R → FS → Prop} {X : Ex → FS → Prop} {s : FS} {j : Nat}
theorem LA.var (h : LA cs xs a) (e : s.env[j]? = some (argS a)) (q : Q a s) : wp (eVar j s) Q X := by
  rcases h with rfl | ⟨i, rfl, _⟩
  · exact w_var_val e q
  · exact w_var_pc e q
theorem LA.seq (h : LA cs xs a) (e : s.pcs = cs) : seqL s a = some xs := by
  rcases h with rfl | ⟨i, rfl, h⟩
  · rfl
  · have z : cont s (.pc i) = s.pcs[i]? := rfl
    unfold seqL; rw [z, e, h]
theorem LA.ty (h : LA cs xs a) (e : s.pcs = cs) : tyD s a = some "list" := by
  rcases h with rfl | ⟨i, rfl, h⟩
  · rfl
  · have z : cont s (.pc i) = s.pcs[i]? := rfl
    unfold tyD; simp only [z, e, h]
theorem LA.isn (h : LA cs xs a) (q : Q (.val (.bl false)) s) : wp (kIsN false a (.val .non) s) Q X := by
  rcases h with rfl | ⟨i, rfl, h⟩
  · exact q
  · exact q
theorem LA.isb {b : Bool} (h : LA cs xs a) (q : Q (.val (.bl false)) s) : wp (kIsN false a (.val (.bl b)) s) Q X := by
  rcases h with rfl | ⟨i, rfl, h⟩
  · exact q
  · exact q
theorem LA.isT {T : String} {f : M R} (h : wp (f s) (fun r s1 => LA cs xs r ∧ s1.pcs = cs ∧ Q (.val (.bl (isTy "list" T))) s1) X) : wp (eIsT T f s) Q X :=
  w_isT (wp_mono h fun r s1 ⟨h1, h2, q⟩ => ⟨_, h1.ty h2, q⟩)
end
theorem same_lst {n : Nat} {xs : List D} {a b : R} {cs : List C} {g : List Inst} {Q : R → List C → List Inst → Prop} {X : Ex → List C → List Inst → Prop}
    (ih : ∀ {d : D} {Q : R → List C → List Inst → Prop} {X : Ex → List C → List Inst → Prop}, d ∈ xs → Q (.val (.bl true)) [] g → wpD (dn__law_same n [.val d, .val d] [] g) Q X) (hl : xs.length ≤ sizeLine)
    (ha : LA cs xs a) (hb : LA cs xs b) (q : Q (.val (.bl true)) cs g) : wpD (dn__law_same (n + 1) [a, b] cs g) Q X := by
  unfold dn__law_same
  refine v_den rfl ?_
  unfold b__law_same
  simp only [List.map_cons, List.map_nil, List.replicate, List.cons_append, List.nil_append]
  have hz : sizeLine = 16777216 := rfl
  repeat' first
    | (with_reducible refine ha.var ?_ ?_; (with_unfolding_all rfl))
    | (with_reducible refine hb.var ?_ ?_; (with_unfolding_all rfl))
    | with_reducible refine ha.isn ?_
    | with_reducible refine hb.isn ?_
    | with_reducible refine ha.isb ?_
    | with_reducible refine hb.isb ?_
    | (with_reducible refine w_lenl (ha.seq ?_) ?_; (with_unfolding_all rfl))
    | (with_reducible refine w_lenl (hb.seq ?_) ?_; (with_unfolding_all rfl))
    | (with_reducible refine LA.isT (cs := cs) (xs := xs) ?_)
    | exact absurd rfl (by assumption)
    | (refine ⟨ha, rfl, ?_⟩)
    | (refine ⟨hb, rfl, ?_⟩)
    | wtm_at "vl"
  with_reducible refine v_for ?_
  with_reducible refine w_r1 ?_
  repeat' first
    | (with_reducible refine ha.var ?_ ?_; (with_unfolding_all rfl))
    | (with_reducible refine hb.var ?_ ?_; (with_unfolding_all rfl))
    | (with_reducible refine w_lenl (ha.seq ?_) ?_; (with_unfolding_all rfl))
    | (with_reducible refine w_lenl (hb.seq ?_) ?_; (with_unfolding_all rfl))
    | omega
    | wtm_at "vl"
  refine ⟨fun i s => ∃ z, s = ⟨[argS a, argS b, z], cs, g⟩, ⟨_, rfl⟩, fun i d s hd ⟨z, e⟩ => ?_, fun s ⟨z, e⟩ => ?_⟩
  · subst e
    obtain ⟨hi, rfl⟩ := rgD_get hd
    refine ⟨trivial, _, rfl, ?_⟩
    dsimp only [FS.setE, List.set]
    have hi' : (i : Int) < xs.length := by have := Int.toNat_natCast xs.length; omega
    have hx : atI xs (0 + (i : Int)) = some (xs[i]'(by omega)) := by
      rw [Int.zero_add, atI_nat' (by omega) hi']; simp
    repeat' first
      | (with_reducible refine w_ixl (ha.seq ?_) hx ?_; (with_unfolding_all rfl))
      | (with_reducible refine w_ixl (hb.seq ?_) hx ?_; (with_unfolding_all rfl))
      | (with_reducible refine ih (List.getElem_mem _) ?_)
      | (with_reducible refine ha.var ?_ ?_; (with_unfolding_all rfl))
      | (with_reducible refine hb.var ?_ ?_; (with_unfolding_all rfl))
      | (with_reducible refine w_lenl (ha.seq ?_) ?_; (with_unfolding_all rfl))
      | (with_reducible refine w_lenl (hb.seq ?_) ?_; (with_unfolding_all rfl))
      | wtm_at "vl"
    exact ⟨_, rfl⟩
  · subst e
    refine ⟨trivial, ?_⟩
    repeat' wtm_at "vl"
    exact q
/-- a reads as the dict kvs -/
def DA (cs : List C) (kvs : List (Key × D)) (a : R) : Prop := a = .val (.dct kvs) ∨ ∃ i, a = .pc i ∧ cs[i]? = some (.dct kvs)
theorem DA.of {cs : List C} {kvs : List (Key × D)} {a : R} (h : rdD cs a = some (.dct kvs)) : DA cs kvs a := by
  unfold rdD at h
  split at h
  · cases h; exact .inl rfl
  · rename_i i
    split at h
    · rename_i c e
      cases c with
      | lst ys => cases h
      | dct kvs => cases h; exact .inr ⟨i, rfl, e⟩
      | lkd kvs => cases h
    · cases h
  · cases h
section
variable {cs : List C} {kvs : List (Key × D)} {a : R} {Q : R → FS → Prop} {X : Ex → FS → Prop} {s : FS} {j : Nat}
theorem DA.var (h : DA cs kvs a) (e : s.env[j]? = some (argS a)) (q : Q a s) : wp (eVar j s) Q X := by
  rcases h with rfl | ⟨i, rfl, _⟩
  · exact w_var_val e q
  · exact w_var_pc e q
theorem DA.cont (h : DA cs kvs a) (e : s.pcs = cs) : cont s a = some (.dct kvs) := by
  rcases h with rfl | ⟨i, rfl, h⟩
  · rfl
  · show s.pcs[i]? = _
    rw [e, h]
theorem DA.ty (h : DA cs kvs a) (e : s.pcs = cs) : tyD s a = some "dict" := by
  have hc := h.cont e
  rcases h with rfl | ⟨i, rfl, h⟩
  · rfl
  · unfold tyD; simp only [hc]
theorem DA.isn (h : DA cs kvs a) (q : Q (.val (.bl false)) s) : wp (kIsN false a (.val .non) s) Q X := by
  rcases h with rfl | ⟨i, rfl, h⟩
  · exact q
  · exact q
theorem DA.isb {b : Bool} (h : DA cs kvs a) (q : Q (.val (.bl false)) s) : wp (kIsN false a (.val (.bl b)) s) Q X := by
  rcases h with rfl | ⟨i, rfl, h⟩
  · exact q
  · exact q
theorem DA.isT {T : String} {f : M R} (h : wp (f s) (fun r s1 => DA cs kvs r ∧ s1.pcs = cs ∧ Q (.val (.bl (isTy "dict" T))) s1) X) : wp (eIsT T f s) Q X :=
  w_isT (wp_mono h fun r s1 ⟨h1, h2, q⟩ => ⟨_, h1.ty h2, q⟩)
theorem w_items {a : R} {kvs : List (Key × D)} (h : VL.cont s a = some (.dct kvs)) (q : Q (.tmp (.lst (kvs.map itD))) s) : wp (kItems a s) Q X := by
  unfold kItems; rw [h]; exact q
end
theorem same_dct {n : Nat} {kvs : List (Key × D)} {a b : R} {cs : List C} {g : List Inst} {Q : R → List C → List Inst → Prop} {X : Ex → List C → List Inst → Prop}
    (ih : ∀ {Q : R → List C → List Inst → Prop} {X : Ex → List C → List Inst → Prop}, Q (.val (.bl true)) [.lst (kvs.map itD), .lst (kvs.map itD)] g → wpD (dn__law_same n [.pc 0, .pc 1] [.lst (kvs.map itD), .lst (kvs.map itD)] g) Q X)
    (ha : DA cs kvs a) (hb : DA cs kvs b) (q : Q (.val (.bl true)) cs g) : wpD (dn__law_same (n + 1) [a, b] cs g) Q X := by
  unfold dn__law_same
  refine v_den rfl ?_
  unfold b__law_same
  simp only [List.map_cons, List.map_nil, List.replicate, List.cons_append, List.nil_append]
  repeat' first
    | (with_reducible refine ha.var ?_ ?_; (with_unfolding_all rfl))
    | (with_reducible refine hb.var ?_ ?_; (with_unfolding_all rfl))
    | with_reducible refine ha.isn ?_
    | with_reducible refine hb.isn ?_
    | with_reducible refine ha.isb ?_
    | with_reducible refine hb.isb ?_
    | (with_reducible refine DA.isT (cs := cs) (kvs := kvs) ?_)
    | (with_reducible refine w_items (ha.cont ?_) ?_; (with_unfolding_all rfl))
    | (with_reducible refine w_items (hb.cont ?_) ?_; (with_unfolding_all rfl))
    | (refine ⟨ha, rfl, ?_⟩)
    | (refine ⟨hb, rfl, ?_⟩)
    | (with_reducible refine ih ?_)
    | wtm_at "vl"
  exact q
theorem same_tup {n : Nat} {xs : List D} {cs : List C} {g : List Inst} {Q : R → List C → List Inst → Prop} {X : Ex → List C → List Inst → Prop}
    (ih : ∀ {d : D} {Q : R → List C → List Inst → Prop} {X : Ex → List C → List Inst → Prop}, d ∈ xs → Q (.val (.bl true)) [] g → wpD (dn__law_same n [.val d, .val d] [] g) Q X) (hl : xs.length ≤ sizeLine)
    (q : Q (.val (.bl true)) cs g) : wpD (dn__law_same (n + 1) [.val (.tup xs), .val (.tup xs)] cs g) Q X := by
  unfold dn__law_same
  refine v_den rfl ?_
  unfold b__law_same
  simp only [List.map_cons, List.map_nil, List.replicate, argS, List.cons_append, List.nil_append]
  have hz : sizeLine = 16777216 := rfl
  repeat' first
    | wtm_at "vl"
  · rename_i h
    exact absurd rfl h
  with_reducible refine v_for ?_
  with_reducible refine w_r1 ?_
  repeat' first
    | omega
    | wtm_at "vl"
  refine ⟨fun i s => ∃ z, s = ⟨[.val (.tup xs), .val (.tup xs), z], cs, g⟩, ⟨_, rfl⟩, fun i d s hd ⟨z, e⟩ => ?_, fun s ⟨z, e⟩ => ?_⟩
  · subst e
    obtain ⟨hi, rfl⟩ := rgD_get hd
    refine ⟨trivial, _, rfl, ?_⟩
    dsimp only [FS.setE, List.set]
    have hi' : (i : Int) < xs.length := by have := Int.toNat_natCast xs.length; omega
    have hx : atI xs (0 + (i : Int)) = some (xs[i]'(by omega)) := by
      rw [Int.zero_add, atI_nat' (by omega) hi']; simp
    repeat' first
      | with_reducible refine w_ixt hx ?_
      | (with_reducible refine ih (List.getElem_mem _) ?_)
      | wtm_at "vl"
    exact ⟨_, rfl⟩
  · subst e
    refine ⟨trivial, ?_⟩
    repeat' wtm_at "vl"
    exact q
theorem same_w {a b : R} {cs : List C} {g : List Inst} {Q : R → List C → List Inst → Prop} {X : Ex → List C → List Inst → Prop} : ∀ {n : Nat} {d : D}, okD n d → rdD cs a = some d → rdD cs b = some d → Q (.val (.bl true)) cs g → wpD (dn__law_same n [a, b] cs g) Q X := by
  intro n
  induction n generalizing a b cs Q X with
  | zero => intro d h; cases d <;> exact h.elim
  | succ n ih =>
    intro d h h1 h2 q
    have plain : (∀ xs, d ≠ .lst xs) → (∀ kvs, d ≠ .dct kvs) → ∀ {r : R}, rdD cs r = some d → r = .val d := fun n1 n2 r h => by
      unfold rdD at h
      split at h
      · cases h; rfl
      · split at h
        · rename_i c _
          cases c with
          | lst xs => cases h; exact absurd rfl (n1 _)
          | dct xs => cases h; exact absurd rfl (n2 _)
          | lkd xs => cases h
        · cases h
      · cases h
    cases d with
    | lst xs => exact same_lst (fun {d Q X} hd q => ih (h.2 d hd) rfl rfl q) h.1 (LA.of h1) (LA.of h2) q
    | tup xs =>
      rw [plain (fun _ z => nomatch z) (fun _ z => nomatch z) h1, plain (fun _ z => nomatch z) (fun _ z => nomatch z) h2]
      exact same_tup (fun {d Q X} hd q => ih (h.2 d hd) rfl rfl q) h.1 q
    | dct kvs => exact same_dct (fun {Q X} q => ih h rfl rfl q) (DA.of h1) (DA.of h2) q
    | frz xs => exact h.elim
    | ins k => exact h.elim
    | non =>
      rw [plain (fun _ z => nomatch z) (fun _ z => nomatch z) h1, plain (fun _ z => nomatch z) (fun _ z => nomatch z) h2]
      unfold dn__law_same
      refine v_den rfl ?_
      unfold b__law_same
      simp only [List.map_cons, List.map_nil, List.replicate, argS, List.cons_append, List.nil_append]
      repeat' first
        | wtm_at "vl"
      exact q
    | bl b =>
      rw [plain (fun _ z => nomatch z) (fun _ z => nomatch z) h1, plain (fun _ z => nomatch z) (fun _ z => nomatch z) h2]
      unfold dn__law_same
      refine v_den rfl ?_
      unfold b__law_same
      simp only [List.map_cons, List.map_nil, List.replicate, argS, List.cons_append, List.nil_append]
      cases b <;> (repeat' first
        | wtm_at "vl") <;> exact q
    | int i =>
      rw [plain (fun _ z => nomatch z) (fun _ z => nomatch z) h1, plain (fun _ z => nomatch z) (fun _ z => nomatch z) h2]
      unfold dn__law_same
      refine v_den rfl ?_
      unfold b__law_same
      simp only [List.map_cons, List.map_nil, List.replicate, argS, List.cons_append, List.nil_append]
      repeat' first
        | wtm_at "vl"
      rw [decide_eq_true rfl]
      exact q
    | str i =>
      rw [plain (fun _ z => nomatch z) (fun _ z => nomatch z) h1, plain (fun _ z => nomatch z) (fun _ z => nomatch z) h2]
      unfold dn__law_same
      refine v_den rfl ?_
      unfold b__law_same
      simp only [List.map_cons, List.map_nil, List.replicate, argS, List.cons_append, List.nil_append]
      repeat' first
        | wtm_at "vl"
      rw [decide_eq_true rfl]
      exact q
theorem same_d {a b : R} {d : D} {cs : List C} {g : List Inst} {Q : R → List C → List Inst → Prop} {X : Ex → List C → List Inst → Prop} (h : okD 12 d) (h1 : rdD cs a = some d) (h2 : rdD cs b = some d) (q : Q (.val (.bl true)) cs g) : wpD (d__law_same [a, b] cs g) Q X := same_w h h1 h2 q
end VL
set_option maxRecDepth 100000
set_option maxHeartbeats 4000000
namespace VL
open PySem PySem.Spec L2
open PyProof.Rows hiding St
section
variable {Q : R → FS → Prop} {X : Ex → FS → Prop} {s : FS}
theorem w_callD {d : Den} {dd : List D} {fa : M (List R)} (h : wp (fa s) (fun rs s1 => wp (callR d (rs ++ dd.map .val) s1) Q X) X) : wp (eCallD d dd fa s) Q X := w_bind h
theorem w_ind {neg : Bool} {a b : R} {kvs : List (Key × D)} {k : Key} (h : dctK s b = some kvs) (hk : asK a = some k) (q : Q (.val (.bl ((dval kvs k).isSome ^^ neg))) s) : wp (kIn neg a b s) Q X := by
  unfold kIn
  rw [h]; simp only [hk]; exact q
theorem w_ixd {a b : R} {kvs : List (Key × D)} {k : Key} {d : D} (h : dctK s a = some kvs) (hk : asK b = some k) (e : dval kvs k = some d) (q : Q (.val d) s) : wp (kIx a b s) Q X := by
  unfold kIx
  rw [h]; simp only [hk, e]; exact q
theorem seqL_dctK {r : R} {kvs} (h : dctK s r = some kvs) : seqL s r = none := by
  unfold dctK at h; unfold seqL
  cases e : cont s r with
  | none => rfl
  | some c =>
    rw [e] at h
    cases c with
    | lst xs => cases h
    | _ => rfl
theorem w_lend {a : R} {kvs : List (Key × D)} (h : dctK s a = some kvs) (q : Q (.val (.int kvs.length)) s) : wp (kLen a s) Q X := by
  have e : seqL s a = none := seqL_dctK h
  unfold kLen
  rw [e, h]
  cases a with
  | val d => cases d <;> first | exact q | cases h
  | _ => exact q
theorem w_dm1 {k : R → R → M R} {fo fk : M R} (h : wp (fo s) (fun o s1 => (dctK s1 o).isSome = true ∧ wp (fk s1) (fun a s2 => wp (k o a s2) Q X) X) X) : wp (eDM1 k fo fk s) Q X := by
  unfold eDM1
  refine w_bind (wp_mono h fun o s1 ⟨h1, h2⟩ => ?_)
  rw [if_pos h1]
  exact w_bind (w_cons (wp_mono h2 fun a s2 h => w_nil h))
theorem w_dm2 {k : R → R → R → M R} {fo fk fx : M R} (h : wp (fo s) (fun o s1 => (dctK s1 o).isSome = true ∧ wp (fk s1) (fun a s2 => wp (fx s2) (fun b s3 => wp (k o a b s3) Q X) X) X) X) : wp (eDM2 k fo fk fx s) Q X := by
  unfold eDM2
  refine w_bind (wp_mono h fun o s1 ⟨h1, h2⟩ => ?_)
  rw [if_pos h1]
  exact w_bind (w_cons (wp_mono h2 fun a s2 h => w_cons (wp_mono h fun b s3 h => w_nil h)))
theorem w_get1 {o a : R} {kvs : List (Key × D)} {k : Key} (h : dctK s o = some kvs) (hk : asK a = some k) (q : Q (.val ((dval kvs k).getD .non)) s) : wp (kGet1 o a s) Q X := by
  unfold kGet1; simp only [h, hk]; exact q
theorem w_sortI {a : R} {ns : List Int} (h : seqL s a = some (ns.map D.int)) (q : Q (.tmp (.lst ((sortI ns).map .int))) s) : wp (kSorted a s) Q X := by
  unfold kSorted; rw [h]; simp only [intsOf_map]; exact q
theorem w_sortD {a : R} {kvs : List (Key × D)} {ks : List Int} (h : dctK s a = some kvs) (hk : keysI kvs = some ks) (hl : ks.length < 64) (q : Q (.tmp (.lst ((sortI ks).map .int))) s) : wp (kSorted a s) Q X := by
  have e : seqL s a = none := seqL_dctK h
  unfold kSorted; rw [e]; simp only [h, hk, if_pos hl]; exact q
theorem w_dictOf {a : R} {kvs : List (Key × D)} (h : dctK s a = some kvs) (q : Q (.tmp (.dct kvs)) s) : wp (kDictOf a s) Q X := by
  unfold kDictOf; rw [h]; exact q
theorem w_sll {a : R} {lo hi : Option Int} {xs : List D} (h : seqL s a = some xs) (q : Q (.tmp (.lst (cutD xs lo hi))) s) : wp (kSl a lo hi s) Q X := by
  unfold kSl; rw [h]; exact q
theorem w_slt {lo hi : Option Int} {xs : List D} (q : Q (.val (.tup (cutD xs lo hi))) s) : wp (kSl (.val (.tup xs)) lo hi s) Q X := q
theorem w_slLo {o : R} {i : Int} (h : wp (kSl o (some i) none s) Q X) : wp (kSlLo o (.val (.int i)) s) Q X := h
theorem w_slHi {o : R} {i : Int} (h : wp (kSl o none (some i) s) Q X) : wp (kSlHi o (.val (.int i)) s) Q X := h
end
section
variable {Q : SRes → Prop} {s : FS}
theorem v_par {i j : Nat} {fa : M (List R)} (h : wp (fa s) (fun rs s1 => ∃ d e, rs = [.val d, .val e] ∧ Q (.next ((s1.setE i (.val d)).setE j (.val e)))) (fun e s => Q (.exc e s))) : wpS (sPar i j fa s) Q := by
  unfold sPar
  refine w_bindS (wp_mono h fun rs s1 ⟨d, e, h1, q⟩ => ?_)
  subst h1; exact q
theorem v_tupA {is : List Nat} {f : M R} (h : wp (f s) (fun r s1 => ∃ d s2, r = .val d ∧ gTupD is d s1 = some s2 ∧ Q (.next s2)) (fun e s => Q (.exc e s))) : wpS (sTupA is f s) Q := by
  unfold sTupA
  refine w_bindS (wp_mono h fun r s1 ⟨d, s2, h1, h2, q⟩ => ?_)
  subst h1; simp only [h2]; exact q
/-- while: I n holds ahead of each test, n counts down -/
theorem v_while {t : M Bool} {b : SM} (I : Nat → FS → Prop) {n : Nat} (h0 : I n s)
    (hs : ∀ n s, I n s → wp (t s) (fun k s1 => (k = true → wpS (b s1) (fun r => match r with
      | .next s2 => ∃ m, m < n ∧ I m s2
      | .cont s2 => ∃ m, m < n ∧ I m s2
      | .brk s2 => Q (.next s2)
      | r => Q r)) ∧ (k = false → Q (.next s1))) (fun e s => Q (.exc e s))) : wpS (sWhile t b s) Q := by
  have key : ∀ n s, I n s → ∃ k r, whileN t b k s = r ∧ r ≠ .stuck ∧ wpS r Q := by
    intro n
    induction n using Nat.strongRecOn with
    | _ n ih =>
      intro s h
      have w := hs n s h
      cases e : t s with
      | stuck => rw [e] at w; exact w.elim
      | exc ex s1 => rw [e] at w; exact ⟨1, .exc ex s1, by unfold whileN; rw [e]; rfl, (fun z => nomatch z), w⟩
      | ok k s1 =>
        rw [e] at w
        cases k with
        | false => exact ⟨1, .next s1, by unfold whileN; rw [e]; rfl, (fun z => nomatch z), w.2 rfl⟩
        | true =>
          have w1 := w.1 rfl
          have un : ∀ k, whileN t b (k + 1) s = (match b s1 with
            | .next s2 => whileN t b k s2
            | .cont s2 => whileN t b k s2
            | .brk s2 => .next s2
            | .ret r s2 => .ret r s2
            | .exc e s2 => .exc e s2
            | .stuck => .stuck) := fun k => by
            show (t s).bindS _ = _
            rw [e]; rfl
          cases e2 : b s1 with
          | stuck => rw [e2] at w1; exact w1.elim
          | next s2 =>
            rw [e2] at w1
            obtain ⟨m, hm, hi⟩ := w1
            obtain ⟨k, r, h1, h2, h3⟩ := ih m hm s2 hi
            exact ⟨k + 1, r, by rw [un, e2]; exact h1, h2, h3⟩
          | cont s2 =>
            rw [e2] at w1
            obtain ⟨m, hm, hi⟩ := w1
            obtain ⟨k, r, h1, h2, h3⟩ := ih m hm s2 hi
            exact ⟨k + 1, r, by rw [un, e2]; exact h1, h2, h3⟩
          | brk s2 => rw [e2] at w1; exact ⟨1, .next s2, by rw [un, e2], (fun z => nomatch z), w1⟩
          | ret r s2 => rw [e2] at w1; exact ⟨1, .ret r s2, by rw [un, e2], (fun z => nomatch z), w1⟩
          | exc ex s2 => rw [e2] at w1; exact ⟨1, .exc ex s2, by rw [un, e2], (fun z => nomatch z), w1⟩
  obtain ⟨k, r, h1, h2, h3⟩ := key n s h0
  rw [sWhile_eq h1 h2]; exact h3
theorem setItem_dct {s s5 : FS} {o i : R} {kvs : List (Key × D)} {k : Key} {d : D} (h : dctW s o = some kvs) (hk : asK i = some k) (hl : kvs.length < sizeLine) (hp : put s o (.dct (dput kvs k d)) = some s5) : setItem o i d s = some s5 := by
  unfold setItem
  simp only [h, hk, if_pos hl]; exact hp
end
section
variable {X : Ex → FS → Prop} {s : FS} {Q : Lp → FS → Prop}
theorem w_dict {pr : Key × D → D} {f : M R} (h : wp (f s) (fun r s1 => ∃ kvs, cont s1 r = some (.dct kvs) ∧ ((∃ c, r = .tmp c ∧ Q { xs := kvs.map pr } s1) ∨
    (isTmp r = false ∧ (∀ d, r ≠ .val (.dct d)) ∧ ∃ s2, put s1 r (.lkd kvs) = some s2 ∧ Q { xs := kvs.map pr, en := fun _ => lockV r s2, ex := unlockD r s2, exx := unlockV r s2 } s1))) X) : wp (iD pr f s) Q X := by
  unfold iD
  refine w_bind (wp_mono h fun r s1 ⟨kvs, h1, h2⟩ => ?_)
  simp only [h1]
  rcases h2 with ⟨c, rfl, q⟩ | ⟨ht, hd, s2, h2, q⟩
  · exact q
  · cases r with
    | tmp c => cases ht
    | val d =>
      cases d with
      | dct z => exact absurd rfl (hd z)
      | _ => simp only [h2]; exact q
    | _ => simp only [h2]; exact q
end
theorem x_fld {g : List Inst} {k0 : Nat} {cl : List Str} {f : Str} {I : Inst} {x : F} {P : Nat → F → Prop} (h : g[k0]? = some I) (hc : I.cls ∈ cl) (hl : I.fs.lookup f = some x) (q : P k0 x) : ∃ k I x, R.val (.ins k0) = .val (.ins k) ∧ g[k]? = some I ∧ I.cls ∈ cl ∧ I.fs.lookup f = some x ∧ P k x := ⟨k0, I, x, rfl, h, hc, hl, q⟩
theorem x_meth {g : List Inst} {k0 : Nat} {cls m : Str} {I : Inst} {P : Nat → Prop} (h : g[k0]? = some I) (hc : I.cls = cls) (hl : I.fs.lookup m = none) (q : P k0) : ∃ k I, R.val (.ins k0) = .val (.ins k) ∧ g[k]? = some I ∧ (I.cls = cls ∧ I.fs.lookup m = none) ∧ P k := ⟨k0, I, rfl, h, ⟨hc, hl⟩, q⟩
theorem x_stf {k0 : Nat} {cl : List Str} {f : Str} {v : R} {s2 s3 : FS} {I : Inst} {P : FS → Prop} (h : s2.g[k0]? = some I) (hc : I.cls ∈ cl) (hs : storeF k0 f v s2 = some s3) (q : P s3) : ∃ k I s3, R.val (.ins k0) = .val (.ins k) ∧ s2.g[k]? = some I ∧ I.cls ∈ cl ∧ storeF k f v s2 = some s3 ∧ P s3 := ⟨k0, I, s3, rfl, h, hc, hs, q⟩
theorem storeF_val {k : Nat} {f : Str} {d : D} {s : FS} {I : Inst} (h : s.g[k]? = some I) (hl : Nat.ble I.fs.length 64 = true) : storeF k f (.val d) s = some ⟨s.env, s.pcs, s.g.set k ⟨I.cls, putG f (.val d) I.fs, I.cells⟩⟩ := by
  have hl' := Nat.le_of_ble_eq_true hl
  show (match s.g[k]? with | some I => if I.fs.length < 1000 then some _ else none | none => none) = _
  rw [h]; simp only []
  rw [if_pos (by omega)]
theorem storeF_tmp {k : Nat} {f : Str} {c : C} {s : FS} {I : Inst} (h : s.g[k]? = some I) (hl : Nat.ble I.fs.length 64 = true) : storeF k f (.tmp c) s = some ⟨s.env, s.pcs, s.g.set k ⟨I.cls, putG f (.cell I.cells.length) I.fs, I.cells ++ [c]⟩⟩ := by
  have hl' := Nat.le_of_ble_eq_true hl
  show (match s.g[k]? with | some I => if I.fs.length < 1000 then some _ else none | none => none) = _
  rw [h]; simp only []
  rw [if_pos (by omega)]
theorem m_mk {k : Nat} {Q : R → FS → Prop} {s : FS} (q : Q (.val (.ins k)) s) : mkK k Q (.val .non) s := ⟨rfl, q⟩
theorem w_eLn {Q : List R → FS → Prop} {X : Ex → FS → Prop} {s : FS} (q : Q [] s) : wp (eL [] s) Q X := q
theorem w_eLc {Q : List R → FS → Prop} {X : Ex → FS → Prop} {s : FS} {f : M R} {fs : List (M R)} (h : wp (f s) (fun r s1 => wp (eL fs s1) (fun rs s2 => Q (r :: rs) s2) X) X) : wp (eL (f :: fs) s) Q X := w_cons h
theorem x_boxed {c0 : C} {P : C → Prop} (q : P c0) : ∃ c, R.tmp c0 = .tmp c ∧ P c := ⟨c0, rfl, q⟩
def boxI (c : C) : Inst := ⟨boxN, [], [c]⟩
theorem cont_box {s : FS} {k : Nat} {c : C} (h : s.g[k]? = some (boxI c)) : cont s (.val (.ins k)) = some c := by
  show (match s.g[k]? with | some I => if I.cls = boxN then I.cells[0]? else none | none => none) = _
  rw [h]; rfl
theorem seqL_box {s : FS} {k : Nat} {xs : List D} (h : s.g[k]? = some (boxI (.lst xs))) : seqL s (.val (.ins k)) = some xs := by
  unfold seqL; rw [cont_box h]
theorem put_box {s : FS} {k : Nat} {c c2 : C} (h : s.g[k]? = some (boxI c)) (hc : ∀ kvs, c ≠ .lkd kvs) : put s (.val (.ins k)) c2 = some ⟨s.env, s.pcs, s.g.set k (boxI c2)⟩ := by
  unfold put
  rw [cont_box h]
  have e : put0 s (.val (.ins k)) c2 = some ⟨s.env, s.pcs, s.g.set k (boxI c2)⟩ := by
    show (match s.g[k]? with | some I => if I.cls = boxN then some _ else none | none => none) = _
    rw [h]; simp only [boxI, if_true]
  cases c with
  | lkd kvs => exact absurd rfl (hc kvs)
  | _ => exact e
section
variable {Q : R → FS → Prop} {X : Ex → FS → Prop} {s : FS}
theorem w_ixb {k : Nat} {i : Int} {xs : List D} {d : D} (h : s.g[k]? = some (boxI (.lst xs))) (h2 : atI xs i = some d) (q : Q (.val d) s) : wp (kIx (.val (.ins k)) (.val (.int i)) s) Q X := w_ixl (seqL_box h) h2 q
theorem w_lenb {k : Nat} {xs : List D} (h : s.g[k]? = some (boxI (.lst xs))) (q : Q (.val (.int xs.length)) s) : wp (kLen (.val (.ins k)) s) Q X := w_lenl (seqL_box h) q
end
theorem x_itb {v : R} {k : Nat} {i : Int} {j : Nat} {s s4 : FS} {d : D} {xs : List D} {P : FS → Prop} (h1 : frzR v s = some (d, s4)) (h : s4.g[k]? = some (boxI (.lst xs))) (hj : ixN xs.length i = some j) (q : P ⟨s4.env, s4.pcs, s4.g.set k (boxI (.lst (xs.set j d)))⟩) :
    ∃ d s4 s5, frzR v s = some (d, s4) ∧ setItem (.val (.ins k)) (.val (.int i)) d s4 = some s5 ∧ P s5 :=
  ⟨d, s4, _, h1, setItem_lst (seqL_box h) hj (put_box h fun _ z => nomatch z), q⟩
theorem i_st {A B : Prop} {a b : String} (e : decide (Str.ofString a = Str.ofString b) = true) (h : A) : (decide (Str.ofString a = Str.ofString b) = true → A) ∧ (decide (Str.ofString a = Str.ofString b) = false → B) := i_lt e h
theorem i_sf {A B : Prop} {a b : String} (e : decide (Str.ofString a = Str.ofString b) = false) (h : B) : (decide (Str.ofString a = Str.ofString b) = true → A) ∧ (decide (Str.ofString a = Str.ofString b) = false → B) := i_lf e h
theorem l_next {I : Nat → FS → Prop} {i : Nat} {ex exx : FS → FS} {Q : SRes → Prop} {s : FS} (h : I (i + 1) s) : loopK I i ex exx Q (.next s) := h
theorem l_cont {I : Nat → FS → Prop} {i : Nat} {ex exx : FS → FS} {Q : SRes → Prop} {s : FS} (h : I (i + 1) s) : loopK I i ex exx Q (.cont s) := h
theorem l_brk {I : Nat → FS → Prop} {i : Nat} {ex exx : FS → FS} {Q : SRes → Prop} {s : FS} (h : Q (.next (ex s))) : loopK I i ex exx Q (.brk s) := h
theorem l_ret {I : Nat → FS → Prop} {i : Nat} {ex exx : FS → FS} {Q : SRes → Prop} {s : FS} {r : R} (h : Q (.ret r (ex s))) : loopK I i ex exx Q (.ret r s) := h
theorem g_set {g : List Inst} {k : Nat} {I J : Inst} (h : g[k]? = some J) : (g.set k I)[k]? = some I := by
  rw [List.getElem?_set_self (List.getElem?_eq_some_iff.mp h).1]
theorem g_ne {g : List Inst} {k j : Nat} {I J : Inst} (hn : k ≠ j) (h : g[j]? = some J) : (g.set k I)[j]? = some J := by
  rw [List.getElem?_set_ne hn]; exact h
theorem g_same {g : List Inst} {k : Nat} {I : Inst} (h : g[k]? = some I) : g.set k I = g := by
  obtain ⟨h1, h2⟩ := List.getElem?_eq_some_iff.mp h
  subst h2
  exact List.set_getElem_self h1
theorem g_app {g : List Inst} {I : Inst} : (g ++ [I])[g.length]? = some I := by
  rw [List.getElem?_append_right (Nat.le_refl _), Nat.sub_self]; rfl
theorem g_appL {g : List Inst} {I J : Inst} {k : Nat} (h : g[k]? = some J) : (g ++ [I])[k]? = some J := by
  rw [List.getElem?_append_left (List.getElem?_eq_some_iff.mp h).1]; exact h
end VL
set_option maxRecDepth 100000
set_option maxHeartbeats 4000000
namespace VL
open PySem PySem.Spec L2
open PyProof.Rows hiding St
noncomputable def b__law_places : SM := (sSeq (sSet 3 (eLst eNil))
  (sSeq (sFor (iR1 (eCons (eVar 2) eNil)) (gSet 4)
  (sSeq (sSet 5 (eCall d__law_pick (eCons (eVar 0) (eCons (eB (kII pSub) (eVar 1) (eVar 4)) eNil))))
  (sSeq (sFor (iAny (eCB (k1 kSorted) (eCons (eVar 3) eNil))) (gSet 6)
  (sIf (eT (eB (kII pLe) (eVar 6) (eVar 5)))
  (sSet 5 (eB kAdd (eVar 5) (eD (.int 1))))
  sNil))
  (sE (eM "list" kApp (eVar 3) (eCons (eVar 5) eNil))))))
  (sRet (eVar 3))))
noncomputable def d__law_places : Den := mkDen 3 4 b__law_places
noncomputable def b__law_far : SM := (sSeq (sSet 3 (eB (kII pMod) (eCB (k1 kInt) (eCons (eB (kII pSub) (eVar 2) (eVar 1)) eNil)) (eVar 0)))
  (sSeq (sIf (eT (eB (kEqN false) (eVar 3) (eD (.int 0))))
  (sRet (eVar 0))
  sNil)
  (sRet (eVar 3))))
noncomputable def d__law_far : Den := mkDen 3 1 b__law_far
noncomputable def b__law_between : SM := (sSeq (sIf (mOr (eT (eB (kEqN false) (eVar 2) (eVar 1))) (eT (eB (kEqN false) (eVar 2) (eVar 3))))
  (sRet (eD (.bl false)))
  sNil)
  (sRet (eB (kII pLt) (eCall d__law_far (eCons (eVar 0) (eCons (eVar 1) (eCons (eVar 2) eNil)))) (eCall d__law_far (eCons (eVar 0) (eCons (eVar 1) (eCons (eVar 3) eNil)))))))
noncomputable def d__law_between : Den := mkDen 4 0 b__law_between
noncomputable def b_between : SM := (sRet (eB (kII pLt) (eCall d_far (eCons (eVar 0) (eCons (eVar 1) (eCons (eVar 2) eNil)))) (eCall d_far (eCons (eVar 0) (eCons (eVar 1) (eCons (eVar 3) eNil))))))
noncomputable def d_between : Den := mkDen 4 0 b_between
local macro_rules | `(tactic| wtm_at "vl") => `(tactic| first
  | with_reducible refine v_seq ?_
  | with_reducible refine v_k_next ?_
  | with_reducible refine v_k_ret ?_
  | with_reducible refine v_k_brk ?_
  | with_reducible refine v_k_cont ?_
  | with_reducible refine v_set ?_
  | with_reducible refine v_if ?_
  | with_reducible refine v_ret ?_
  | with_reducible refine v_retN ?_
  | with_reducible refine v_nil ?_
  | with_reducible refine v_brk ?_
  | with_reducible refine v_cont ?_
  | with_reducible refine v_e ?_
  | with_reducible refine v_it ?_
  | with_reducible refine v_aug ?_
  | (with_reducible refine v_sl_val ?_; try dsimp only [List.set, FS.setE, C.toD])
  | (with_reducible refine v_sl_tmp ?h ?q; (case h => with_unfolding_all exact Nat.le_of_ble_eq_true rfl); (case' q => try dsimp only [List.set, FS.setE, C.toD]))
  | (with_reducible refine v_sl_pc ?_; try dsimp only [List.set, FS.setE, C.toD])
  | (with_reducible refine v_sl_ic ?_; try dsimp only [List.set, FS.setE, C.toD])
  | (with_reducible refine' w_var_val ?h0 ?q; (case h0 => with_unfolding_all rfl))
  | (with_reducible refine' w_var_own ?h0 ?q; (case h0 => with_unfolding_all rfl))
  | (with_reducible refine' w_var_pc ?h0 ?q; (case h0 => with_unfolding_all rfl))
  | (with_reducible refine' w_var_lck ?h0 ?q; (case h0 => with_unfolding_all rfl))
  | (with_reducible refine' w_var_ic ?h0 ?q; (case h0 => with_unfolding_all rfl))
  | with_reducible refine w_d ?_
  | with_reducible refine w_bin ?_
  | with_reducible refine w_cons ?_
  | with_reducible refine w_nil ?_
  | with_reducible refine w_T ?_
  | with_reducible refine w_asB ?_
  | with_reducible refine w_add ?_
  | with_reducible refine w_sub ?_
  | with_reducible refine w_lt ?_
  | with_reducible refine w_le ?_
  | with_reducible refine w_gt ?_
  | with_reducible refine w_ge ?_
  | with_reducible refine w_eqi ?_
  | with_reducible refine w_nei ?_
  | with_reducible refine w_mod ?_ ?_
  | with_reducible refine w_div ?_ ?_ ?_
  | with_reducible refine w_pow (by decide) ?_
  | with_reducible refine w_mul ?_ ?_
  | with_reducible refine w_addI ?_
  | with_reducible refine w_max ?_
  | with_reducible refine w_min ?_
  | with_reducible refine w_un ?_
  | with_reducible refine w_neg ?_
  | (with_reducible refine' w_ixl ?h0 ?h1 ?q; (case h0 => with_unfolding_all rfl); (case h1 => with_unfolding_all rfl))
  | (with_reducible refine' w_ixl ?h ?h2 ?q; (case h => with_unfolding_all rfl); (case' h2 => with_reducible refine atI_ints ?_ ?_))
  | (with_reducible refine' w_ixt ?h0 ?q; (case h0 => with_unfolding_all rfl))
  | with_reducible refine w_mand ?_
  | with_reducible refine w_mor ?_
  | with_reducible refine w_mnot ?_
  | with_reducible refine w_yes ?_
  | with_reducible refine w_eand ?_
  | with_reducible refine w_eor ?_
  | with_reducible refine w_enot ?_
  | with_reducible refine w_eif ?_
  | with_reducible refine w_ch ?_
  | with_reducible refine w_lst ?_
  | with_reducible refine w_tup ?_
  | with_reducible refine w_dict0 ?_
  | with_reducible refine w_cb ?_
  | with_reducible refine w_k1 ?_
  | with_reducible refine w_k2 ?_
  | with_reducible refine w_abs ?_
  | with_reducible refine w_int ?_
  | with_reducible refine w_intb ?_
  | (with_reducible refine' w_lenl ?h0 ?q; (case h0 => with_unfolding_all rfl))
  | with_reducible refine w_lent ?_
  | with_reducible refine w_isT ?_
  | with_reducible refine w_eCall ?_
  | with_reducible refine w_eqb ?_
  | with_reducible refine w_eqs ?_
  | with_reducible refine i_true ?_
  | with_reducible refine i_false ?_
  | with_reducible refine i_not ?_
  | with_reducible refine i_dec (fun _ => ?_) (fun _ => ?_)
  | with_reducible refine f_next ?_
  | with_reducible refine f_val ?_
  | with_reducible refine f_tmp ?_
  | with_reducible refine f_pc ?_
  | (with_reducible refine' f_var ?h0 ?q; (case h0 => with_unfolding_all rfl))
  | (with_reducible refine' i_lt ?h0 ?q; (case h0 => with_unfolding_all rfl))
  | (with_reducible refine' i_lf ?h0 ?q; (case h0 => with_unfolding_all rfl))
  | (with_reducible refine' x_it ?h ?h2 ?q; (case h => with_unfolding_all rfl); (case h2 => (with_reducible refine' setItem_lst ?a ?b ?c; (case a => with_unfolding_all rfl); (case b => with_unfolding_all rfl); (case c => with_unfolding_all rfl))); (case' q => try dsimp only [List.set, FS.setE, C.toD, Int.reduceToNat]))
  | (with_reducible refine' x_frz ?h0 ?h1 ?q; (case h0 => with_unfolding_all rfl); (case h1 => with_unfolding_all rfl); (case' q => try dsimp only [List.set, FS.setE, C.toD]))
  | (with_reducible refine' x_call ?h0 ?h1 ?q; (case h0 => with_unfolding_all rfl); (case h1 => with_unfolding_all rfl); (case' q => try dsimp only [List.set, FS.setE, C.toD]))
  | (with_reducible refine' x_back ?h0 ?q; (case h0 => with_unfolding_all rfl); (case' q => try dsimp only [List.set, FS.setE, C.toD]))
  | (with_reducible refine' x_ty ?h0 ?q; (case h0 => with_unfolding_all rfl))
  | (with_reducible refine' x_frz1 ?h0 ?q; (case h0 => with_unfolding_all rfl); (case' q => try dsimp only [List.set, FS.setE, C.toD]))
  | with_reducible refine x_r1 ⟨?_, ?_⟩ ?_
  | with_reducible refine x_r2 ⟨?_, ?_, ?_, ?_⟩ ?_
  | with_reducible refine w_m ?_
  | (with_reducible refine' x_has ?h0 ?q; (case h0 => with_unfolding_all rfl))
  | (with_reducible refine' w_app ?h ?h1 ?h2 ?h3 ?h4 ?q; (case h => with_unfolding_all rfl); (case h1 => with_unfolding_all rfl); (case h3 => rfl); (case h4 => with_unfolding_all rfl); (case' q => try dsimp only [List.set, FS.setE, C.toD]))
  | with_reducible refine w_isT ?_
  | (with_reducible refine' w_is ?h0 ?q; (case h0 => with_unfolding_all rfl))
  | (with_reducible refine' w_call ?h0 ?q; (case h0 => with_unfolding_all rfl); (case' q => try dsimp only [List.nil_append, List.cons_append, List.length_nil, List.length_cons, Nat.reduceAdd]))
  | (with_reducible refine' w_listOf ?h0 ?q; (case h0 => with_unfolding_all rfl))
  | (with_reducible refine' w_tupOf ?h0 ?q; (case h0 => with_unfolding_all rfl))
  | (with_reducible show @LE.le Int _ _ _; omega)
  | (with_reducible show @LT.lt Int _ _ _; omega)
  | fail)
local macro_rules | `(tactic| wtm_at "vl") => `(tactic| first
  | with_reducible refine pick_w (by assumption) ?_ ?_ (fun _ _ _ _ _ => ?_)
  | with_reducible refine size_w (by assumption) ?_ (fun _ _ _ _ _ _ => ?_)
  | with_reducible refine wide_w (by assumption) ?_ (fun _ _ _ _ _ => ?_)
  | with_reducible refine place_w (by assumption) ?_ (fun _ _ _ _ _ => ?_)
  | with_reducible refine near_w (by assumption) ?_ ?_ ?_ (fun _ _ _ _ _ => ?_)
  | with_reducible refine circle_w (by assumption) ?_ (fun _ _ _ _ _ _ => ?_)
  | with_reducible refine tape_w (by assumption) (fun _ _ => ?_)
  | with_reducible refine far_w ?_ ?_)
local macro_rules | `(tactic| wtm_at "gk") => `(tactic| first | with_unfolding_all assumption | with_unfolding_all rfl | exact g_app | (apply g_set; wtm_at "gk") | (apply g_appL; wtm_at "gk") | (apply g_ne; (first | assumption | omega); wtm_at "gk"))
local macro_rules | `(tactic| wtm_at "vl") => `(tactic| first
  | (with_reducible refine' i_st ?h0 ?q; (case h0 => decide +kernel))
  | (with_reducible refine' i_sf ?h0 ?q; (case h0 => decide +kernel))
  | (with_reducible refine l_next ?_; try dsimp only)
  | (with_reducible refine l_cont ?_; try dsimp only)
  | with_reducible refine l_brk ?_
  | with_reducible refine l_ret ?_
  | with_reducible refine w_fld ?_
  | (with_reducible refine' x_fld ?h0 ?h1 ?h2 ?q; (case h0 => wtm_at "gk"); (case h1 => with_unfolding_all first | exact List.mem_cons_self | exact List.mem_cons_of_mem _ List.mem_cons_self); (case h2 => with_unfolding_all rfl); (case' q => try dsimp only [fldR]))
  | with_reducible refine w_meth ?_
  | (with_reducible refine' x_meth ?h0 ?h1 ?h2 ?q; (case h0 => wtm_at "gk"); (case h1 => with_unfolding_all rfl); (case h2 => with_unfolding_all rfl); (case' q => try dsimp only [List.map_nil, List.map_cons, List.append_nil, List.cons_append, List.nil_append]))
  | (with_reducible refine w_make ?_; try dsimp only [List.map_nil, List.map_cons, List.append_nil, List.cons_append, List.nil_append, List.length_nil, List.length_cons, Nat.reduceAdd])
  | with_reducible refine m_mk ?_
  | with_reducible refine w_eLc ?_
  | with_reducible refine w_eLn ?_
  | with_reducible refine v_fld ?_
  | (with_reducible refine' x_stf ?h0 ?h1 ?h2 ?q; (case h0 => wtm_at "gk"); (case h1 => with_unfolding_all first | exact List.mem_cons_self | exact List.mem_cons_of_mem _ List.mem_cons_self); (case h2 => first | (with_reducible refine' storeF_val ?a ?b; (case a => wtm_at "gk"); (case b => with_unfolding_all rfl)) | (with_reducible refine' storeF_tmp ?a ?b; (case a => wtm_at "gk"); (case b => with_unfolding_all rfl))); (case' q => try dsimp only [List.set]; try simp only [List.set_set]))
  | with_reducible refine w_box ?_
  | (with_reducible refine x_boxed ?_)
  | (with_reducible refine w_callD ?_; try dsimp only [List.map_nil, List.map_cons, List.append_nil, List.cons_append, List.nil_append])
  | (with_reducible refine' w_app ?h ?h1 ?h2 ?h3 ?h4 ?q; (case h => with_unfolding_all rfl); (case h1 => with_unfolding_all rfl); (case h3 => with_unfolding_all rfl); (case h4 => with_unfolding_all rfl); (case h2 => with_unfolding_all exact Nat.le_of_ble_eq_true rfl); (case' q => try dsimp only [List.set, FS.setE, C.toD, List.nil_append, List.cons_append]))
  | (with_reducible refine' w_app ?h ?h1 ?h2 ?h3 ?h4 ?q; (case h => with_unfolding_all rfl); (case h1 => with_unfolding_all rfl); (case h3 => with_unfolding_all rfl); (case h4 => with_unfolding_all rfl); (case' q => try dsimp only [List.set, FS.setE, C.toD, List.nil_append, List.cons_append]))
  | with_reducible refine v_par ?_
  | with_reducible refine v_tupA ?_
  | with_reducible refine w_dm1 ?_
  | with_reducible refine w_dm2 ?_
  | (with_reducible refine' w_ixb ?h0 ?h1 ?q; (case h0 => wtm_at "gk"); (case h1 => with_unfolding_all rfl))
  | (with_reducible refine' w_lenb ?h0 ?q; (case h0 => wtm_at "gk"))
  | (with_reducible refine' x_itb ?h0 ?h1 ?h2 ?q; (case h0 => with_unfolding_all rfl); (case h1 => wtm_at "gk"); (case h2 => with_unfolding_all rfl); (case' q => try dsimp only [List.set, FS.setE, C.toD, Int.reduceToNat]; try simp only [List.set_set]))
  | fail)
theorem between_w {n s p e : Int} {cs : List C} {g : List Inst} {Q X} (h : 0 < n) (q : Q (.val (.bl (decide (farI n s p < farI n s e)))) cs g) : wpD (d_between [.val (.int n), .val (.int s), .val (.int p), .val (.int e)] cs g) Q X := by
  refine v_den rfl ?_
  unfold b_between
  simp only [List.map_cons, List.map_nil, List.replicate, argS, List.cons_append, List.nil_append]
  repeat' wtm_at "vl"
  all_goals first
    | omega
    | exact q
theorem lfar_w {n s e : Int} {cs : List C} {g : List Inst} {Q X} (h : 0 < n) (q : Q (.val (.int (farI n s e))) cs g) : wpD (d__law_far [.val (.int n), .val (.int s), .val (.int e)] cs g) Q X := by
  refine v_den rfl ?_
  unfold b__law_far
  simp only [List.map_cons, List.map_nil, List.replicate, argS, List.cons_append, List.nil_append]
  repeat' wtm_at "vl"
  all_goals first
    | omega
    | (unfold farI at q; simp only [*, if_true, if_false] at q; exact q)
theorem farI_pos {n s e : Int} (h : 0 < n) : 0 < farI n s e ∧ farI n s e ≤ n := by
  unfold farI
  have h1 := Int.emod_nonneg (e - s) (by omega : n ≠ 0)
  have h2 := Int.emod_lt_of_pos (e - s) h
  split <;> omega
theorem btw_start {n s e : Int} (h : 0 < n) : decide (farI n s s < farI n s e) = false := by
  have e1 : farI n s s = n := by unfold farI; rw [Int.sub_self, Int.zero_emod]; rfl
  have := farI_pos (s := s) (e := e) h
  rw [e1]; exact decide_eq_false (by omega)
theorem btw_end {n s e : Int} : decide (farI n s e < farI n s e) = false := decide_eq_false (by omega)
local macro_rules | `(tactic| wtm_at "vl") => `(tactic| first
  | with_reducible refine between_w ?_ ?_
  | with_reducible refine lfar_w ?_ ?_)
theorem lbetween_w {n s p e : Int} {cs : List C} {g : List Inst} {Q X} (h : 0 < n) (q : Q (.val (.bl (decide (farI n s p < farI n s e)))) cs g) : wpD (d__law_between [.val (.int n), .val (.int s), .val (.int p), .val (.int e)] cs g) Q X := by
  refine v_den rfl ?_
  unfold b__law_between
  simp only [List.map_cons, List.map_nil, List.replicate, argS, List.cons_append, List.nil_append]
  repeat' wtm_at "vl"
  all_goals first
    | omega
    | exact q
    | (subst_vars; first
      | (rw [btw_start h] at q; exact q)
      | (rw [btw_end] at q; exact q))
local macro_rules | `(tactic| wtm_at "vl") => `(tactic| first
  | with_reducible refine lbetween_w ?_ ?_)
/-- the place moved up over the taken ones -/
def bump : List Int → Int → Int
  | [], r => r
  | o :: os, r => bump os (if o ≤ r then r + 1 else r)
theorem bump_ge : ∀ {os : List Int} {r : Int}, r ≤ bump os r ∧ bump os r ≤ r + os.length
  | [], r => by simp [bump]
  | o :: os, r => by
    have := bump_ge (os := os) (r := if o ≤ r then r + 1 else r)
    simp only [bump, List.length_cons]
    split at this <;> rename_i h
    · rw [if_pos h]; omega
    · rw [if_neg h]; omega
theorem bump_big : ∀ {os : List Int} {r : Int}, (∀ o ∈ os, r < o) → bump os r = r
  | [], r, _ => rfl
  | o :: os, r, h => by
    have h1 := h o List.mem_cons_self
    simp only [bump]
    rw [if_neg (by omega)]
    exact bump_big fun o ho => h o (List.mem_cons_of_mem _ ho)
theorem bump_new : ∀ {os : List Int} {r : Int}, os.Pairwise (· ≤ ·) → bump os r ∉ os
  | [], r, _ => by simp
  | o :: os, r, h => by
    obtain ⟨h1, h2⟩ := List.pairwise_cons.mp h
    simp only [bump]
    split
    · rename_i hr
      intro z
      rcases List.mem_cons.mp z with z | z
      · have := (bump_ge (os := os) (r := r + 1)).1; omega
      · exact bump_new h2 z
    · rename_i hr
      rw [bump_big (fun a ha => by have := h1 a ha; omega)]
      intro z
      rcases List.mem_cons.mp z with z | z
      · omega
      · have := h1 r z; omega
theorem bump_snoc : ∀ {os : List Int} {o r : Int}, bump (os ++ [o]) r = (if o ≤ bump os r then bump os r + 1 else bump os r)
  | [], o, r => rfl
  | a :: os, o, r => by simp only [List.cons_append, bump]; exact bump_snoc
theorem places_w {c : C} {size count : Int} {g : List Inst} {Q X} (hc : TapeOk c) (h1 : count ≤ size) (h0 : 0 ≤ count) (h2 : count ≤ 1000) (h3 : size < 1073741824)
    (q : ∀ (ps : List Int) c, (ps.length : Int) = count → ps.Nodup → (∀ p ∈ ps, 0 ≤ p ∧ p < size) → TapeOk c → Q (.tmp (.lst (ps.map D.int))) [c] g) :
    wpD (d__law_places [.pc 0, .val (.int size), .val (.int count)] [c] g) Q X := by
  refine v_den rfl ?_
  unfold b__law_places
  simp only [List.map_cons, List.map_nil, List.replicate, argS, List.cons_append, List.nil_append]
  have hz : sizeLine = 16777216 := rfl
  repeat' wtm_at "vl"
  with_reducible refine v_for ?_
  with_reducible refine w_r1 ?_
  repeat' wtm_at "vl"
  dsimp only
  refine ⟨fun i s => ∃ (c : C) (ps : List Int) (z1 z2 z3 : S), TapeOk c ∧ ps.length = i ∧ ps.Nodup ∧ (∀ p ∈ ps, 0 ≤ p ∧ p < size) ∧ s = ⟨[.pc 0, .val (.int size), .val (.int count), .own (.lst (ps.map D.int)), z1, z2, z3], [c], g⟩,
    ⟨c, [], _, _, _, hc, rfl, List.nodup_nil, (fun p hp => nomatch hp), rfl⟩, fun i d s hd ⟨c, ps, z1, z2, z3, hc, hl, hn, hp, e⟩ => ?_, fun s ⟨c, ps, z1, z2, z3, hc, hl, hn, hp, e⟩ => ?_⟩
  · subst e
    obtain ⟨hi, rfl⟩ := rgD_get hd
    refine ⟨trivial, _, rfl, ?_⟩
    dsimp only [FS.setE, List.set]
    have hi' : (i : Int) < count := by omega
    repeat' wtm_at "vl"
    rename_i r c' hr1 hr2 hc'
    with_reducible refine v_for ?_
    with_reducible refine w_any ?_
    repeat' first
      | (with_reducible refine' w_sortI ?h ?q; (case h => with_unfolding_all rfl))
      | wtm_at "vl"
    dsimp only [anyQ, seqL, cont]
    refine ⟨fun j s => ∃ z, s = ⟨[.pc 0, .val (.int size), .val (.int count), .own (.lst (ps.map D.int)), .val (.int (0 + (i : Int))), .val (.int (bump ((sortI ps).take j) r)), z], [c'], g⟩, ⟨_, rfl⟩, fun j d s hd ⟨z, e⟩ => ?_, fun s ⟨z, e⟩ => ?_⟩
    · subst e
      rw [List.getElem?_map] at hd
      cases e : (sortI ps)[j]? with
      | none => rw [e] at hd; cases hd
      | some o =>
        rw [e] at hd; cases hd
        refine ⟨trivial, _, rfl, ?_⟩
        dsimp only [FS.setE, List.set]
        have ht : (sortI ps).take (j + 1) = (sortI ps).take j ++ [o] := by rw [List.take_add_one, e]; rfl
        repeat' wtm_at "vl"
        · rw [ht, bump_snoc, if_pos (by assumption)]
          exact ⟨_, rfl⟩
        · rw [ht, bump_snoc, if_neg (by assumption)]
          exact ⟨_, rfl⟩
    · subst e
      refine ⟨trivial, ?_⟩
      try dsimp only
      rw [List.length_map, List.take_length]
      have b1 := bump_ge (os := sortI ps) (r := r)
      have b2 := bump_new (r := r) (sortI_sorted ps)
      rw [sortI_mem] at b2
      rw [sortI_len] at b1
      repeat' wtm_at "vl"
      all_goals first
        | (rw [List.length_map]; omega)
        | skip
      · refine ⟨c', ps ++ [bump (sortI ps) r], _, _, _, hc', by simp [hl], ?_, ?_, by rw [List.map_append]; rfl⟩
        · rw [List.nodup_append]
          refine ⟨hn, by simp, fun a ha b hb => ?_⟩
          rw [List.mem_singleton] at hb
          subst hb
          intro z; subst z; exact b2 ha
        · intro p hq
          rcases List.mem_append.mp hq with hq | hq
          · exact hp p hq
          · rw [List.mem_singleton] at hq; subst hq; omega
  · subst e
    refine ⟨trivial, ?_⟩
    repeat' wtm_at "vl"
    try dsimp only at hl
    rw [rgD_len] at hl
    exact q ps c (by omega) hn hp hc
end VL
set_option maxRecDepth 100000
set_option maxHeartbeats 4000000
namespace VL
open PySem PySem.Spec L2
open PyProof.Rows hiding St
theorem cut_lo {xs : List D} {k : Nat} : cutD xs (some (k : Int)) none = xs.drop k := by
  unfold cutD
  rw [HT.sIx_nat, HT.sIx_none]
  rcases Nat.le_total k xs.length with h | h
  · rw [Nat.min_eq_left h, List.take_of_length_le (by rw [List.length_drop]; omega)]
  · rw [Nat.min_eq_right h, Nat.sub_self, List.take_zero, List.drop_eq_nil_of_le h]
theorem cut_hi {xs : List D} {k : Nat} : cutD xs none (some (k : Int)) = xs.take k := by
  unfold cutD
  rw [HT.sIx_nat, HT.sIx_none, List.drop_zero, Nat.sub_zero]
  rcases Nat.le_total k xs.length with h | h
  · rw [Nat.min_eq_left h]
  · rw [Nat.min_eq_right h, List.take_of_length_le (Nat.le_refl _), List.take_of_length_le h]
theorem cut_lo1 {xs : List D} : cutD xs (some 1) none = xs.tail := by rw [← List.drop_one]; exact cut_lo (k := 1)
def Stop (p : Prop) : Prop := p
theorem v_stopIf {t : M Bool} {A B g : SM} {Q : SRes → Prop} {s : FS} (h : Stop (wpS (sSeq (sIf t A B) g s) Q)) : wpS (sSeq (sIf t A B) g s) Q := h
theorem v_stopFor {f : M Lp} {t : D → FS → Option FS} {A g : SM} {Q : SRes → Prop} {s : FS} (h : Stop (wpS (sSeq (sFor f t A) g s) Q)) : wpS (sSeq (sFor f t A) g s) Q := h
/-- what holds behind the first statement -/
theorem v_cut {f g : SM} {Q : SRes → Prop} {s : FS} (P : FS → Prop) (h1 : wpS (f s) (fun r => ∃ s1, r = .next s1 ∧ P s1)) (h2 : ∀ s1, P s1 → wpS (g s1) Q) : wpS (sSeq f g s) Q := by
  refine v_seq (wpS_mono h1 fun r ⟨s1, e, h⟩ => ?_)
  subst e
  exact h2 s1 h
/-- the same, where the first statement may also return -/
theorem v_cutR {f g : SM} {Q : SRes → Prop} {s : FS} (P : FS → Prop) (h1 : wpS (f s) (fun r => (∃ s1, r = .next s1 ∧ P s1) ∨ (∃ d s1, r = .ret d s1 ∧ Q r))) (h2 : ∀ s1, P s1 → wpS (g s1) Q) : wpS (sSeq f g s) Q := by
  refine v_seq (wpS_mono h1 fun r h => ?_)
  rcases h with ⟨s1, e, h⟩ | ⟨d, s1, e, h⟩
  · subst e; exact h2 s1 h
  · subst e; exact h
end VL
set_option maxRecDepth 100000
set_option maxHeartbeats 4000000
namespace VL
open PySem PySem.Spec L2
open PyProof.Rows hiding St
def upd1 {α : Type} (f : Int → α) (h : Int) (d : α) : Int → α := fun x => if x = h then d else f x
theorem upd1_same {α : Type} {f : Int → α} {h : Int} {d : α} : upd1 f h d h = d := if_pos rfl
theorem upd1_ne {α : Type} {f : Int → α} {h x : Int} {d : α} (e : x ≠ h) : upd1 f h d x = f x := if_neg e
/-- the table of f at the keys ks -/
def fT (ks : List Int) (f : Int → D) : List (Key × D) := ks.map fun h => (Sum.inl h, f h)
section
variable {ks : List Int} {f g : Int → D} {h : Int} {d : D}
theorem fT_len : (fT ks f).length = ks.length := List.length_map _
theorem fT_congr (e : ∀ x ∈ ks, f x = g x) : fT ks f = fT ks g := List.map_congr_left fun x hx => by rw [e x hx]
theorem fT_val (hm : h ∈ ks) : dval (fT ks f) (.inl h) = some (f h) := by
  unfold dval fT
  rw [List.find?_map]
  have : (ks.find? ((fun kv : Key × D => decide (kv.1 = Sum.inl h)) ∘ fun x => (Sum.inl x, f x))) = some h := by
    induction ks with
    | nil => cases hm
    | cons a ks ih =>
      rw [List.find?_cons]
      by_cases e : a = h
      · subst e; simp
      · have : decide ((Sum.inl a : Key) = Sum.inl h) = false := by simp [e]
        simp only [Function.comp, this]
        exact ih ((List.mem_cons.mp hm).resolve_left fun z => e z.symm)
  rw [this]; rfl
theorem fT_none (hm : h ∉ ks) : dval (fT ks f) (.inl h) = none := by
  unfold dval fT
  rw [List.find?_map]
  have : (ks.find? ((fun kv : Key × D => decide (kv.1 = Sum.inl h)) ∘ fun x => (Sum.inl x, f x))) = none := by
    rw [List.find?_eq_none]
    intro x hx
    simp only [Function.comp, decide_eq_true_eq]
    intro z; cases z; exact hm hx
  rw [this]; rfl
theorem fT_any : ((fT ks f).any fun kv => decide (kv.1 = Sum.inl h)) = decide (h ∈ ks) := by
  unfold fT
  rw [List.any_map]
  induction ks with
  | nil => rfl
  | cons a ks ih =>
    rw [List.any_cons, ih]
    by_cases e : a = h
    · subst e; simp
    · have e2 : ¬ h = a := fun z => e z.symm
      simp [e, e2]
theorem fT_put (hm : h ∈ ks) : dput (fT ks f) (.inl h) d = fT ks (upd1 f h d) := by
  unfold dput
  rw [fT_any, if_pos (decide_eq_true hm)]
  unfold fT
  rw [List.map_map]
  refine List.map_congr_left fun x hx => ?_
  show (if (Sum.inl x : Key) = Sum.inl h then (Sum.inl x, d) else (Sum.inl x, f x)) = (Sum.inl x, upd1 f h d x)
  by_cases e : x = h
  · subst e; rw [if_pos rfl, upd1_same]
  · rw [if_neg (fun z => e (by cases z; rfl)), upd1_ne e]
theorem fT_put_new (hm : h ∉ ks) : dput (fT ks f) (.inl h) d = fT (ks ++ [h]) (upd1 f h d) := by
  unfold dput
  rw [fT_any, if_neg (by rw [decide_eq_true_eq]; exact hm)]
  unfold fT
  rw [List.map_append, List.map_cons, List.map_nil, upd1_same]
  congr 1
  exact List.map_congr_left fun x hx => by rw [upd1_ne fun z => hm (by rw [← z]; exact hx)]
theorem fT_keys : keysI (fT ks f) = some ks := by
  induction ks with
  | nil => rfl
  | cons a ks ih =>
    show (keysI (fT ks f)).map (a :: ·) = _
    rw [ih]; rfl
theorem fT_kD : (fT ks f).map (fun p => kD p.1) = ks.map D.int := by
  unfold fT; rw [List.map_map]; rfl
theorem fT_itD : (fT ks f).map itD = ks.map fun h => .tup [.int h, f h] := by
  unfold fT; rw [List.map_map]; rfl
theorem fT_snoc (hm : h ∉ ks) : dput (fT ks f) (.inl h) (f h) = fT (ks ++ [h]) f := by
  rw [fT_put_new hm]
  refine fT_congr fun x _ => ?_
  unfold upd1
  split
  · rename_i e; rw [e]
  · rfl
end
theorem seqL_of {s : FS} {r : R} {xs : List D} (h : cont s r = some (.lst xs)) : seqL s r = some xs := by unfold seqL; rw [h]
theorem dctK_of {s : FS} {r : R} {kvs} (h : cont s r = some (.dct kvs)) : dctK s r = some kvs := by unfold dctK; rw [h]
theorem dctK_ofL {s : FS} {r : R} {kvs} (h : cont s r = some (.lkd kvs)) : dctK s r = some kvs := by unfold dctK; rw [h]
theorem dctW_of {s : FS} {r : R} {kvs} (h : cont s r = some (.dct kvs)) : dctW s r = some kvs := by unfold dctW; rw [h]
theorem cont_ic {s : FS} {k j : Nat} {I : Inst} {c : C} (h : s.g[k]? = some I) (hc : I.cells[j]? = some c) : cont s (.ic k j) = some c := by
  show (match s.g[k]? with | some I => I.cells[j]? | none => none) = _
  rw [h]; exact hc
theorem put_ic {s : FS} {k j : Nat} {I : Inst} {c c2 : C} (h : s.g[k]? = some I) (hc : I.cells[j]? = some c) (hl : ∀ kvs, c ≠ .lkd kvs) : put s (.ic k j) c2 = some ⟨s.env, s.pcs, s.g.set k ⟨I.cls, I.fs, I.cells.set j c2⟩⟩ := by
  unfold put
  rw [cont_ic h hc]
  have e : put0 s (.ic k j) c2 = some ⟨s.env, s.pcs, s.g.set k ⟨I.cls, I.fs, I.cells.set j c2⟩⟩ := by
    show (match s.g[k]? with | some I => some _ | none => none) = _
    rw [h]
  cases c with
  | lkd kvs => exact absurd rfl (hl kvs)
  | _ => exact e
section
variable {Q : R → FS → Prop} {X : Ex → FS → Prop} {s : FS}
/-- d[h] of a table -/
theorem c_ixd {a : R} {ks : List Int} {f : Int → D} {h : Int} (hc : cont s a = some (.dct (fT ks f))) (hm : h ∈ ks) (q : Q (.val (f h)) s) : wp (kIx a (.val (.int h)) s) Q X := w_ixd (dctK_of hc) rfl (fT_val hm) q
theorem c_ixdE {a : R} {ks : List Int} {f : Int → D} {h : Int} {d : D} (hc : cont s a = some (.dct (fT ks f))) (hm : h ∈ ks) (e : f h = d) (q : Q (.val d) s) : wp (kIx a (.val (.int h)) s) Q X := by subst e; exact c_ixd hc hm q
theorem c_ixl {a : R} {xs : List D} {i : Int} {d : D} (hc : cont s a = some (.lst xs)) (h2 : atI xs i = some d) (q : Q (.val d) s) : wp (kIx a (.val (.int i)) s) Q X := w_ixl (seqL_of hc) h2 q
theorem c_len {a : R} {xs : List D} (hc : cont s a = some (.lst xs)) (q : Q (.val (.int xs.length)) s) : wp (kLen a s) Q X := w_lenl (seqL_of hc) q
theorem c_lend {a : R} {ks : List Int} {f : Int → D} (hc : cont s a = some (.dct (fT ks f))) (q : Q (.val (.int ks.length)) s) : wp (kLen a s) Q X := by
  refine w_lend (dctK_of hc) ?_; rw [fT_len]; exact q
theorem c_in {a : R} {ks : List Int} {f : Int → D} {h : Int} {neg : Bool} (hc : cont s a = some (.dct (fT ks f))) (q : Q (.val (.bl (decide (h ∈ ks) ^^ neg))) s) : wp (kIn neg (.val (.int h)) a s) Q X := by
  refine w_ind (dctK_of hc) rfl ?_
  by_cases e : h ∈ ks
  · rw [fT_val e]; rw [decide_eq_true e] at q; exact q
  · rw [fT_none e]; rw [decide_eq_false e] at q; exact q
theorem c_sorted {a : R} {ks : List Int} {f : Int → D} (hc : cont s a = some (.dct (fT ks f))) (hl : ks.length < 64) (q : Q (.tmp (.lst ((sortI ks).map .int))) s) : wp (kSorted a s) Q X := w_sortD (dctK_of hc) fT_keys hl q
theorem c_get1 {a : R} {ks : List Int} {f : Int → D} {h : Int} (hc : cont s a = some (.dct (fT ks f))) (q : Q (.val (if h ∈ ks then f h else .non)) s) : wp (kGet1 a (.val (.int h)) s) Q X := by
  refine w_get1 (dctK_of hc) rfl ?_
  by_cases e : h ∈ ks
  · rw [fT_val e]; rw [if_pos e] at q; exact q
  · rw [fT_none e]; rw [if_neg e] at q; exact q
theorem c_dictOf {a : R} {kvs : List (Key × D)} (hc : cont s a = some (.dct kvs)) (q : Q (.tmp (.dct kvs)) s) : wp (kDictOf a s) Q X := w_dictOf (dctK_of hc) q
theorem c_listOf {a : R} {xs : List D} (hc : cont s a = some (.lst xs)) (q : Q (.tmp (.lst xs)) s) : wp (kListOf a s) Q X := by
  refine w_listOf ?_ q
  unfold seqA
  split
  · cases hc
  · cases hc
  · exact seqL_of hc
theorem c_tupOf {a : R} {xs : List D} (hc : cont s a = some (.lst xs)) (q : Q (.val (.tup xs)) s) : wp (kTupOf a s) Q X := by
  refine w_tupOf ?_ q
  unfold seqA
  split
  · cases hc
  · cases hc
  · exact seqL_of hc
theorem c_dm1 {k : R → R → M R} {fo fk : M R} (h : wp (fo s) (fun o s1 => ∃ kvs, cont s1 o = some (.dct kvs) ∧ wp (fk s1) (fun a s2 => wp (k o a s2) Q X) X) X) : wp (eDM1 k fo fk s) Q X :=
  w_dm1 (wp_mono h fun o s1 ⟨kvs, h1, h2⟩ => ⟨by rw [dctK_of h1]; rfl, h2⟩)
theorem x_contD {r : R} {kvs} {s : FS} {P : Prop} (h : cont s r = some (.dct kvs)) (q : P) : ∃ kvs, cont s r = some (.dct kvs) ∧ P := ⟨kvs, h, q⟩
theorem hasT_lst {r : R} {xs : List D} (h : cont s r = some (.lst xs)) : hasT "list" s r = true := by
  unfold hasT
  rw [if_pos rfl, seqL_of h]; rfl
theorem x_hasL {r : R} {xs : List D} {s : FS} {P : Prop} (h : cont s r = some (.lst xs)) (q : P) : hasT "list" s r = true ∧ P := ⟨hasT_lst h, q⟩
theorem c_app {o y : R} {d : D} {s1 s2 : FS} {xs : List D} (e : frzR y s = some (d, s1)) (e1 : cont s1 o = some (.lst xs)) (h : xs.length < sizeLine) (ht : isTmp o = false) (e2 : put s1 o (.lst (xs ++ [d])) = some s2) (q : Q (.val .non) s2) : wp (kApp [o, y] s) Q X := w_app e e1 h ht e2 q
theorem c_popAt {o : R} {s2 : FS} {xs : List D} {d : D} {i : Int} (e1 : cont s o = some (.lst xs)) (hl : xs.length ≤ sizeLine) (h0 : 0 ≤ i) (e : xs[i.toNat]? = some d) (e2 : put s o (.lst (xs.eraseIdx i.toNat)) = some s2) (q : Q (.val d) s2) : wp (kPopAt [o, .val (.int i)] s) Q X := by
  refine w_popi e1 hl ?_ e e2 q
  have hlt := (List.getElem?_eq_some_iff.mp e).1
  unfold ixN
  rw [if_pos h0, if_pos (by omega)]
end
theorem c_setd {v o : R} {h : Int} {s s4 s5 : FS} {d : D} {ks : List Int} {f : Int → D} {P : FS → Prop} (h1 : frzR v s = some (d, s4)) (hc : cont s4 o = some (.dct (fT ks f))) (hl : ks.length < sizeLine) (hp : put s4 o (.dct (dput (fT ks f) (.inl h) d)) = some s5) (q : P s5) :
    ∃ d s4 s5, frzR v s = some (d, s4) ∧ setItem o (.val (.int h)) d s4 = some s5 ∧ P s5 :=
  ⟨d, s4, s5, h1, setItem_dct (dctW_of hc) rfl (by rw [fT_len]; exact hl) hp, q⟩
end VL
set_option maxRecDepth 100000
set_option maxHeartbeats 4000000
namespace VL
open PySem PySem.Spec L2
open PyProof.Rows hiding St
def optD : Option Int → D
  | none => .non
  | some i => .int i
inductive Lt where
  | tell (a s : Int) | ask (a s : Int) | ans (a s m : Int)
def Lt.d : Lt → D
  | .tell a s => .tup [.str (Str.ofString "tell"), .int a, .int s]
  | .ask a s => .tup [.str (Str.ofString "ask"), .int a, .int s]
  | .ans a s m => .tup [.str (Str.ofString "answer"), .int a, .int s, .int m]
def Lt.ps : Lt → List Int
  | .tell a s => [a, s]
  | .ask a s => [a, s]
  | .ans a s m => [a, s, m]
structure Nt where
  n : Int
  ks : List Int
  nx : Int → Int
  bf : Int → Option Int
  ls : List Lt
def nxF (nx : Int → Int) : Int → D := fun h => .int (nx h)
def bfF (bf : Int → Option Int) : Int → D := fun h => optD (bf h)
theorem upd_nx {nx : Int → Int} {h v : Int} : upd1 (nxF nx) h (.int v) = nxF (upd1 nx h v) := by
  funext x; by_cases e : x = h <;> simp [upd1, nxF, e]
theorem upd_bf {bf : Int → Option Int} {h v : Int} : upd1 (bfF bf) h (.int v) = bfF (upd1 bf h (some v)) := by
  funext x; by_cases e : x = h <;> simp [upd1, bfF, e, optD]
def netI (N : Nt) : Inst := ⟨Str.ofString "Net", [(Str.ofString "size", .val (.int N.n)), (Str.ofString "_nexts", .cell 0), (Str.ofString "_befores", .cell 1), (Str.ofString "_letters", .cell 2)],
  [.dct (fT N.ks (nxF N.nx)), .dct (fT N.ks (bfF N.bf)), .lst (N.ls.map Lt.d)]⟩
structure NtOk (N : Nt) : Prop where
  pos : 0 < N.n
  nd : N.ks.Nodup
  len : N.ks.length < 64
  rng : ∀ h ∈ N.ks, 0 ≤ h ∧ h < N.n
  nx : ∀ h ∈ N.ks, N.nx h ∈ N.ks
  bf : ∀ h ∈ N.ks, ∀ b, N.bf h = some b → b ∈ N.ks
  ls : ∀ l ∈ N.ls, ∀ p ∈ l.ps, p ∈ N.ks
  ll : N.ls.length ≤ 100000
def Nt.sendT (N : Nt) (h : Int) : Nt := { N with ls := N.ls ++ [.tell (N.nx h) h] }
def Nt.sendA (N : Nt) (h : Int) : Nt := { N with ls := N.ls ++ [.ask (N.nx h) h] }
theorem eraseIdx_mapL {α β : Type} {f : α → β} : ∀ {l : List α} {i : Nat}, (l.map f).eraseIdx i = (l.eraseIdx i).map f
  | [], i => by simp
  | a :: l, 0 => rfl
  | a :: l, i + 1 => by simp only [List.map_cons, List.eraseIdx_cons_succ, eraseIdx_mapL]
theorem getMapL {l : List Lt} {i : Nat} {x : Lt} (h : l[i]? = some x) : (l.map Lt.d)[i]? = some x.d := by rw [List.getElem?_map, h]; rfl
def wr (w : String) (a : Int) (d : D) : D := .tup [.str (Str.ofString w), .int a, d]
def Nt.told (N : Nt) (a s : Int) : Bool := match N.bf a with
  | none => true
  | some b => decide (farI N.n b s < farI N.n b a)
def Nt.rdT (N : Nt) (a s : Int) : D × Nt := if N.told a s = true then (wr "before" a (.int s), { N with bf := upd1 N.bf a (some s) }) else (wr "kept" a .non, N)
def Nt.rdK (N : Nt) (a s : Int) : D × Nt := match N.bf a with
  | none => (wr "kept" a .non, N)
  | some b => (wr "wrote" a (.int b), { N with ls := N.ls ++ [.ans s a b] })
def Nt.rdA (N : Nt) (a s m : Int) : D × Nt := if N.nx a = s ∧ farI N.n a m < farI N.n a s then (wr "next" a (.int m), { N with nx := upd1 N.nx a m }) else (wr "kept" a .non, N)
def Nt.rdL (N : Nt) : Lt → D × Nt
  | .tell a s => N.rdT a s
  | .ask a s => N.rdK a s
  | .ans a s m => N.rdA a s m
def Nt.cut (N : Nt) (i : Nat) : Nt := { N with ls := N.ls.eraseIdx i }
theorem NtOk.cut {N : Nt} (ok : NtOk N) (i : Nat) : NtOk (N.cut i) :=
  ⟨ok.pos, ok.nd, ok.len, ok.rng, ok.nx, ok.bf, fun l hl => ok.ls l (List.mem_of_mem_eraseIdx hl), Nat.le_trans (List.length_eraseIdx_le _ _) ok.ll⟩
theorem NtOk.app {N : Nt} (ok : NtOk N) {l : Lt} (h : ∀ p ∈ l.ps, p ∈ N.ks) (hl : N.ls.length < 100000) : NtOk { N with ls := N.ls ++ [l] } :=
  ⟨ok.pos, ok.nd, ok.len, ok.rng, ok.nx, ok.bf, fun x hx p hp => by
    rcases List.mem_append.mp hx with hx | hx
    · exact ok.ls x hx p hp
    · rw [List.mem_singleton] at hx; subst hx; exact h p hp, by rw [List.length_append]; exact hl⟩
theorem NtOk.hold {N : Nt} (ok : NtOk N) {a v : Int} (h : v ∈ N.ks) : NtOk { N with nx := upd1 N.nx a v } :=
  ⟨ok.pos, ok.nd, ok.len, ok.rng, fun x hx => by
    by_cases e : x = a
    · show upd1 N.nx a v x ∈ N.ks
      rw [e, upd1_same]; exact h
    · show upd1 N.nx a v x ∈ N.ks
      rw [upd1_ne e]; exact ok.nx x hx, ok.bf, ok.ls, ok.ll⟩
theorem NtOk.behind {N : Nt} (ok : NtOk N) {a : Int} {v : Option Int} (h : ∀ b, v = some b → b ∈ N.ks) : NtOk { N with bf := upd1 N.bf a v } :=
  ⟨ok.pos, ok.nd, ok.len, ok.rng, ok.nx, fun x hx b hb => by
    have hb' : upd1 N.bf a v x = some b := hb
    by_cases e : x = a
    · rw [e, upd1_same] at hb'; exact h b hb'
    · rw [upd1_ne e] at hb'; exact ok.bf x hx b hb', ok.ls, ok.ll⟩
def isArg : R → Prop
  | .tmp _ => False
  | .var _ => False
  | _ => True
theorem w_varA {Q : R → FS → Prop} {X : Ex → FS → Prop} {s : FS} {i : Nat} {a : R} (ha : isArg a) (h : s.env[i]? = some (argS a)) (q : Q a s) : wp (eVar i s) Q X := by
  cases a with
  | tmp c => exact ha.elim
  | var i => exact ha.elim
  | val d => exact w_var_val h q
  | pc n => exact w_var_pc h q
  | ic k j => exact w_var_ic h q
/-- what an argument holds, whatever the frame -/
def Hold (cs : List C) (g : List Inst) (a : R) (c : C) : Prop := isArg a ∧ ∀ env, cont ⟨env, cs, g⟩ a = some c
theorem Hold.pc {cs : List C} {g : List Inst} {i : Nat} {c : C} (h : cs[i]? = some c) : Hold cs g (.pc i) c := ⟨trivial, fun _ => h⟩
theorem Hold.ic {cs : List C} {g : List Inst} {k j : Nat} {I : Inst} {c : C} (h : g[k]? = some I) (hc : I.cells[j]? = some c) : Hold cs g (.ic k j) c := ⟨trivial, fun _ => cont_ic h hc⟩
theorem Hold.box {cs : List C} {g : List Inst} {k : Nat} {c : C} (h : g[k]? = some (boxI c)) : Hold cs g (.val (.ins k)) c := ⟨trivial, fun _ => cont_box h⟩
theorem Hold.cont {s : FS} {a : R} {c : C} (h : Hold s.pcs s.g a c) : cont s a = some c := h.2 s.env
/-- a sequence of data, as argument or fresh -/
def SqA (s : FS) (r : R) (ys : List D) : Prop := r = .val (.tup ys) ∨ (∃ c, r = .tmp c ∧ c = .lst ys) ∨ Hold s.pcs s.g r (.lst ys)
/-- for over what stays as it is, with a body that changes names alone -/
theorem v_forA {Q : SRes → Prop} {s : FS} {f : M R} {gT : D → FS → Option FS} {body : SM} (h : wp (f s) (fun r s1 => ∃ ys, SqA s1 r ys ∧ ∃ I : Nat → List S → Prop, I 0 s1.env ∧
    (∀ i d env, ys[i]? = some d → I i env → ∃ s2, gT d ⟨env, s1.pcs, s1.g⟩ = some s2 ∧ wpS (body s2) (loopK (fun i s => I i s.env ∧ s.pcs = s1.pcs ∧ s.g = s1.g) i (fun s => s) (fun s => s) Q)) ∧
    (∀ env, I ys.length env → Q (.next ⟨env, s1.pcs, s1.g⟩))) (fun e s => Q (.exc e s))) : wpS (sFor (iAny f) gT body s) Q := by
  refine v_for (w_any (wp_mono h fun r s1 ⟨ys, hs, I, h0, hb, he⟩ => ?_))
  have gen : ∀ chk : FS → Prop, (∀ env, chk ⟨env, s1.pcs, s1.g⟩) → ∃ I' : Nat → FS → Prop, I' 0 s1 ∧ (∀ i d s, ys[i]? = some d → I' i s → chk s ∧ ∃ s2, gT d s = some s2 ∧ wpS (body s2) (loopK I' i (fun s => s) (fun s => s) Q)) ∧ (∀ s, I' ys.length s → chk s ∧ Q (.next s)) := fun chk hchk =>
    ⟨fun i s => I i s.env ∧ s.pcs = s1.pcs ∧ s.g = s1.g, ⟨h0, rfl, rfl⟩, fun i d s hd ⟨h1, h2, h3⟩ => by
      obtain ⟨env, pcs, g⟩ := s
      dsimp only at h1 h2 h3
      subst h2; subst h3
      exact ⟨hchk env, hb i d env hd h1⟩, fun s ⟨h1, h2, h3⟩ => by
      obtain ⟨env, pcs, g⟩ := s
      dsimp only at h1 h2 h3
      subst h2; subst h3
      exact ⟨hchk env, he env h1⟩⟩
  rcases hs with rfl | ⟨c, rfl, rfl⟩ | ⟨ha, hc⟩
  · exact gen (fun _ => True) fun _ => trivial
  · exact gen (fun _ => True) fun _ => trivial
  · have hsq : ∀ env, seqL ⟨env, s1.pcs, s1.g⟩ r = some ys := fun env => seqL_of (hc env)
    have hs1 : seqL s1 r = some ys := hsq s1.env
    cases r with
    | tmp c => exact ha.elim
    | var i => exact ha.elim
    | pc n =>
      show match seqL s1 (.pc n) with | some xs => _ | none => False
      rw [hs1]; exact gen _ hsq
    | ic k j =>
      show match seqL s1 (.ic k j) with | some xs => _ | none => False
      rw [hs1]; exact gen _ hsq
    | val d =>
      cases d with
      | ins k =>
        show match seqL s1 (.val (.ins k)) with | some xs => _ | none => False
        rw [hs1]; exact gen _ hsq
      | lst xs =>
        have e : some xs = some ys := hs1
        cases e
        exact gen (fun _ => True) fun _ => trivial
      | tup xs => have := hc []; cases this
      | frz xs => have := hc []; cases this
      | dct xs => have := hc []; cases this
      | non => have := hc []; cases this
      | bl b => have := hc []; cases this
      | int b => have := hc []; cases this
      | str b => have := hc []; cases this
theorem c_setdM {v o : R} {h : Int} {s s4 s5 : FS} {d : D} {ks : List Int} {f : Int → D} {P : FS → Prop} (h1 : frzR v s = some (d, s4)) (hc : cont s4 o = some (.dct (fT ks f))) (hm : h ∈ ks) (hl : ks.length < sizeLine) (hp : put s4 o (.dct (fT ks (upd1 f h d))) = some s5) (q : P s5) :
    ∃ d s4 s5, frzR v s = some (d, s4) ∧ setItem o (.val (.int h)) d s4 = some s5 ∧ P s5 := c_setd h1 hc hl (by rw [fT_put hm]; exact hp) q
/-- {x: F x for x in xs if p x} that changes nothing -/
theorem w_dcT {Q : R → FS → Prop} {X : Ex → FS → Prop} {s : FS} {f : M Lp} {own : List Nat} {g : D → FS → Option FS} {t : M Bool} {ek e : M R} (xs : List Int) (p : Int → Bool) (F : Int → D) (h : wp (f s) (fun lp s1 => lp.xs = xs.map D.int ∧ xs.length ≤ sizeLine ∧ xs.Nodup ∧ (lp.chk (lp.en s1) ∧ ownOk own (lp.en s1) = true) ∧
    (∀ x ∈ xs, ∃ s2, g (.int x) (wipeE own (lp.en s1)) = some s2 ∧ wp (t s2) (fun b s3 => b = p x ∧ (b = true → wp (ek s3) (fun rk s4 => rk = .val (.int x) ∧ wp (e s4) (fun r s5 => ∃ s6, frzR r s5 = some (F x, s6) ∧ restE own (lp.en s1) s6 = lp.en s1) XN) XN) ∧ (b = false → restE own (lp.en s1) s3 = lp.en s1)) XN) ∧
    Q (.tmp (.dct (fT (xs.filter p) F))) (lp.ex (lp.en s1))) X) : wp (eDc f own g t ek e s) Q X := by
  refine w_dc (wp_mono h fun lp s1 ⟨e1, hl, hn, hc, hs, he⟩ => ⟨by rw [e1, List.length_map]; exact hl, fun i acc s => s = lp.en s1 ∧ acc = fT ((xs.take i).filter p) F, ⟨rfl, rfl⟩, fun i d acc s hd hi => ?_, fun acc s hi => ?_⟩)
  · obtain ⟨rfl, rfl⟩ := hi
    refine ⟨hc, ?_⟩
    rw [e1, List.getElem?_map] at hd
    cases ex : xs[i]? with
    | none => rw [ex] at hd; cases hd
    | some x =>
      rw [ex] at hd; cases hd
      obtain ⟨s2, e2, w⟩ := hs x (List.mem_of_getElem? ex)
      have ht : xs.take (i + 1) = xs.take i ++ [x] := by rw [List.take_add_one, ex]; rfl
      have hx : x ∉ xs.take i := fun z => by
        have := List.take_append_drop i xs
        have hd : xs.drop i = x :: xs.drop (i + 1) := by
          obtain ⟨hlt, e⟩ := List.getElem?_eq_some_iff.mp ex
          rw [List.drop_eq_getElem_cons hlt, e]
        rw [← this, hd, List.nodup_append] at hn
        exact hn.2.2 x z x List.mem_cons_self rfl
      refine ⟨s2, e2, wp_mono w fun b s3 ⟨eb, h1, h2⟩ => ⟨fun z => wp_mono (h1 z) fun rk s4 ⟨erk, h3⟩ => ⟨.inl x, by rw [erk]; rfl, wp_mono h3 fun r s5 ⟨s6, h4, h5⟩ => ⟨F x, s6, h4, h5, ?_⟩⟩, fun z => ⟨h2 z, ?_⟩⟩⟩
      · rw [ht, List.filter_append]
        have : [x].filter p = [x] := by rw [List.filter_cons, if_pos (by rw [← eb]; exact z)]; rfl
        rw [this]
        exact fT_snoc fun z => hx (List.mem_filter.mp z).1
      · rw [ht, List.filter_append]
        have : [x].filter p = [] := by rw [List.filter_cons, if_neg (by rw [← eb, z]; exact Bool.false_ne_true)]; rfl
        rw [this, List.append_nil]
  · obtain ⟨rfl, rfl⟩ := hi
    have e2 : xs.take lp.xs.length = xs := by rw [e1, List.length_map, List.take_length]
    rw [e2]
    exact ⟨hc.1, he⟩
theorem sortI_nodup {ns : List Int} (h : ns.Nodup) : (sortI ns).Nodup := (sortI_perm ns).nodup_iff.mpr h
theorem w_any2K {X : Ex → FS → Prop} {s : FS} {f : M R} {Q : Lp → FS → Prop} (h : wp (f s) (fun r s1 => ∃ kvs, cont s1 r = some (.dct kvs) ∧ isTmp r = false ∧ (∀ d, r ≠ .val (.dct d)) ∧ ∃ s2, put s1 r (.lkd kvs) = some s2 ∧
    Q { xs := kvs.map fun p => kD p.1, en := fun _ => lockV r s2, ex := unlockD r s2, exx := unlockV r s2 } s1) X) : wp (iAny2 f s) Q X := by
  unfold iAny2
  cases e : f s with
  | stuck => rw [e] at h; exact h.elim
  | exc ex s1 =>
    rw [e] at h
    simp only []
    exact w_any (by rw [e]; exact h)
  | ok r s1 =>
    rw [e] at h
    obtain ⟨kvs, h1, h2, h3, s2, h4, q⟩ := h
    simp only [h1]
    refine w_dict ?_
    rw [e]
    exact ⟨kvs, h1, .inr ⟨h2, h3, s2, h4, q⟩⟩
end VL
set_option maxRecDepth 100000
set_option maxHeartbeats 4000000
namespace VL
open PySem PySem.Spec L2
open PyProof.Rows hiding St
noncomputable def b_check_place : SM := (sIf (mNot (eT (eCh (kII pLe) (kII pLt) (eD (.int 0)) (eVar 1) (eVar 0))))
  sNever
  sNil)
noncomputable def d_check_place : Den := mkDen 2 0 b_check_place
noncomputable def b_check_houses : SM := (sFor (iAny (eVar 1)) (gSet 2)
  (sIf (eT (eB (kIn true) (eVar 2) (eVar 0)))
  sNever
  sNil))
noncomputable def d_check_houses : Den := mkDen 2 1 b_check_houses
noncomputable def b_letter_places : SM := (sRet (eB kSlLo (eVar 0) (eD (.int 1))))
noncomputable def d_letter_places : Den := mkDen 1 0 b_letter_places
noncomputable def b_check_tables : SM := (sSeq (sFor (iAny (eCB (k1 kSorted) (eCons (eVar 1) eNil))) (gSet 4)
  (sE (eCall d_check_place (eCons (eVar 0) (eCons (eVar 4) eNil)))))
  (sSeq (sFor (iAny (eCB (k1 kSorted) (eCons (eVar 1) eNil))) (gSet 4)
  (sE (eCall d_check_houses (eCons (eVar 1) (eCons (eLst (eCons (eB kIx (eVar 1) (eVar 4)) eNil)) eNil)))))
  (sSeq (sFor (iAny (eCB (k1 kSorted) (eCons (eVar 2) eNil))) (gSet 4)
  (sE (eCall d_check_houses (eCons (eVar 1) (eCons (eLst (eCons (eVar 4) (eCons (eB kIx (eVar 2) (eVar 4)) eNil))) eNil)))))
  (sFor (iAny (eVar 3)) (gSet 5)
  (sE (eCall d_check_houses (eCons (eVar 1) (eCons (eCall d_letter_places (eCons (eVar 5) eNil)) eNil))))))))
noncomputable def d_check_tables : Den := mkDen 4 2 b_check_tables
noncomputable def b_Net___init__ : SM := (sSeq (sSet 5 (eIf (eT (eB (kIsN false) (eVar 3) (eD .non))) eDict0 (eVar 3)))
  (sSeq (sSet 6 (eIf (eT (eB (kIsN false) (eVar 4) (eD .non))) (eLst eNil) (eVar 4)))
  (sSeq (sE (eCall d_check_tables (eCons (eVar 1) (eCons (eVar 2) (eCons (eVar 5) (eCons (eVar 6) eNil))))))
  (sSeq (sFldSet ["Net"] "size" (eVar 0) (eVar 1))
  (sSeq (sFldSet ["Net"] "_nexts" (eVar 0) (eCB (k1 kDictOf) (eCons (eVar 2) eNil)))
  (sSeq (sFldSet ["Net"] "_befores" (eVar 0) (eDc (iAny2 (eVar 2)) [7] (gSet 7) mYes (eVar 7) (eDM1 kGet1 (eVar 5) (eVar 7))))
  (sFldSet ["Net"] "_letters" (eVar 0) (eCB (k1 kListOf) (eCons (eVar 6) eNil)))))))))
noncomputable def d_Net___init__ : Den := mkDen 5 3 b_Net___init__
noncomputable def b_Net_befores : SM := (sSeq (sSet 1 (eFld ["Net"] "_befores" (eVar 0)))
  (sRet (eDc (iAny (eCB (k1 kSorted) (eCons (eVar 1) eNil))) [2] (gSet 2) (eT (eB (kIsN true) (eB kIx (eVar 1) (eVar 2)) (eD .non))) (eVar 2) (eB kIx (eVar 1) (eVar 2)))))
noncomputable def d_Net_befores : Den := mkDen 1 2 b_Net_befores
noncomputable def b_Net_clone : SM := (sRet (eMake "Net" d_Net___init__ [] (eL [(eFld ["Net"] "size" (eVar 0)), (eFld ["Net"] "_nexts" (eVar 0)), (eMeth "Net" "befores" d_Net_befores [] (eVar 0) eNil), (eFld ["Net"] "_letters" (eVar 0))])))
noncomputable def d_Net_clone : Den := mkDen 1 0 b_Net_clone
noncomputable def b_Net_nexts : SM := (sRet (eDc (iAny (eCB (k1 kSorted) (eCons (eFld ["Net"] "_nexts" (eVar 0)) eNil))) [1] (gSet 1) mYes (eVar 1) (eB kIx (eFld ["Net"] "_nexts" (eVar 0)) (eVar 1))))
noncomputable def d_Net_nexts : Den := mkDen 1 1 b_Net_nexts
noncomputable def b_Net_letters : SM := (sRet (eCB (k1 kListOf) (eCons (eFld ["Net"] "_letters" (eVar 0)) eNil)))
noncomputable def d_Net_letters : Den := mkDen 1 0 b_Net_letters
noncomputable def b_Net_set_before : SM := (sSeq (sE (eCall d_check_houses (eCons (eFld ["Net"] "_nexts" (eVar 0)) (eCons (eIf (eT (eB (kIsN false) (eVar 2) (eD .non))) (eLst (eCons (eVar 1) eNil)) (eLst (eCons (eVar 1) (eCons (eVar 2) eNil)))) eNil))))
  (sSetIt (eFld ["Net"] "_befores" (eVar 0)) (eVar 1) (eVar 2)))
noncomputable def d_Net_set_before : Den := mkDen 3 0 b_Net_set_before
noncomputable def b_Net_hold : SM := (sSeq (sE (eCall d_check_houses (eCons (eFld ["Net"] "_nexts" (eVar 0)) (eCons (eLst (eCons (eVar 1) (eCons (eVar 2) eNil))) eNil))))
  (sSeq (sSet 3 (eB kIx (eFld ["Net"] "_nexts" (eVar 0)) (eVar 1)))
  (sSeq (sSetIt (eFld ["Net"] "_nexts" (eVar 0)) (eVar 1) (eVar 2))
  (sRet (eVar 3)))))
noncomputable def d_Net_hold : Den := mkDen 3 1 b_Net_hold
noncomputable def b_Net__send : SM := (sSeq (sE (eCall d_check_houses (eCons (eFld ["Net"] "_nexts" (eVar 0)) (eCons (eLst (eCons (eVar 2) eNil)) eNil))))
  (sSeq (sSet 3 (eTup (eCons (eVar 1) (eCons (eB kIx (eFld ["Net"] "_nexts" (eVar 0)) (eVar 2)) (eCons (eVar 2) eNil)))))
  (sSeq (sE (eM "list" kApp (eFld ["Net"] "_letters" (eVar 0)) (eCons (eVar 3) eNil)))
  (sRet (eVar 3)))))
noncomputable def d_Net__send : Den := mkDen 3 1 b_Net__send
noncomputable def b_Net_ask : SM := (sRet (eMeth "Net" "_send" d_Net__send [] (eVar 0) (eCons (eD (.str "ask")) (eCons (eVar 1) eNil))))
noncomputable def d_Net_ask : Den := mkDen 2 0 b_Net_ask
noncomputable def b_Net__check_index : SM := (sIf (mNot (eT (eCh (kII pLe) (kII pLt) (eD (.int 0)) (eVar 1) (eCB (k1 kLen) (eCons (eFld ["Net"] "_letters" (eVar 0)) eNil)))))
  sNever
  sNil)
noncomputable def d_Net__check_index : Den := mkDen 2 0 b_Net__check_index
noncomputable def b_Net_lose : SM := (sSeq (sE (eMeth "Net" "_check_index" d_Net__check_index [] (eVar 0) (eCons (eVar 1) eNil)))
  (sRet (eM "list" kPopAt (eFld ["Net"] "_letters" (eVar 0)) (eCons (eVar 1) eNil))))
noncomputable def d_Net_lose : Den := mkDen 2 0 b_Net_lose
noncomputable def b_Net__read_answer : SM := (sSeq (sIf (mAnd (eT (eB (kEqN false) (eB kIx (eFld ["Net"] "_nexts" (eVar 0)) (eVar 1)) (eVar 2))) (eT (eCall d_between (eCons (eFld ["Net"] "size" (eVar 0)) (eCons (eVar 1) (eCons (eVar 3) (eCons (eVar 2) eNil)))))))
  (sSeq (sSetIt (eFld ["Net"] "_nexts" (eVar 0)) (eVar 1) (eVar 3))
  (sRet (eTup (eCons (eD (.str "next")) (eCons (eVar 1) (eCons (eVar 3) eNil))))))
  sNil)
  (sRet (eTup (eCons (eD (.str "kept")) (eCons (eVar 1) (eCons (eD .non) eNil))))))
noncomputable def d_Net__read_answer : Den := mkDen 4 0 b_Net__read_answer
noncomputable def b_Net__read_tell : SM := (sSeq (sSet 3 (eB kIx (eFld ["Net"] "_befores" (eVar 0)) (eVar 1)))
  (sSeq (sIf (mOr (eT (eB (kIsN false) (eVar 3) (eD .non))) (eT (eCall d_between (eCons (eFld ["Net"] "size" (eVar 0)) (eCons (eVar 3) (eCons (eVar 2) (eCons (eVar 1) eNil)))))))
  (sSeq (sSetIt (eFld ["Net"] "_befores" (eVar 0)) (eVar 1) (eVar 2))
  (sRet (eTup (eCons (eD (.str "before")) (eCons (eVar 1) (eCons (eVar 2) eNil))))))
  sNil)
  (sRet (eTup (eCons (eD (.str "kept")) (eCons (eVar 1) (eCons (eD .non) eNil)))))))
noncomputable def d_Net__read_tell : Den := mkDen 3 1 b_Net__read_tell
noncomputable def b_Net__read_ask : SM := (sSeq (sSet 3 (eB kIx (eFld ["Net"] "_befores" (eVar 0)) (eVar 1)))
  (sSeq (sIf (eT (eB (kIsN false) (eVar 3) (eD .non)))
  (sRet (eTup (eCons (eD (.str "kept")) (eCons (eVar 1) (eCons (eD .non) eNil)))))
  sNil)
  (sSeq (sE (eM "list" kApp (eFld ["Net"] "_letters" (eVar 0)) (eCons (eTup (eCons (eD (.str "answer")) (eCons (eVar 2) (eCons (eVar 1) (eCons (eVar 3) eNil))))) eNil)))
  (sRet (eTup (eCons (eD (.str "wrote")) (eCons (eVar 1) (eCons (eVar 3) eNil))))))))
noncomputable def d_Net__read_ask : Den := mkDen 3 1 b_Net__read_ask
noncomputable def b_Net_read : SM := (sSeq (sSet 2 (eMeth "Net" "lose" d_Net_lose [] (eVar 0) (eCons (eVar 1) eNil)))
  (sSeq (sIf (eT (eB (kEqN false) (eB kIx (eVar 2) (eD (.int 0))) (eD (.str "tell"))))
  (sRet (eMeth "Net" "_read_tell" d_Net__read_tell [] (eVar 0) (eCons (eB kIx (eVar 2) (eD (.int 1))) (eCons (eB kIx (eVar 2) (eD (.int 2))) eNil))))
  sNil)
  (sSeq (sIf (eT (eB (kEqN false) (eB kIx (eVar 2) (eD (.int 0))) (eD (.str "ask"))))
  (sRet (eMeth "Net" "_read_ask" d_Net__read_ask [] (eVar 0) (eCons (eB kIx (eVar 2) (eD (.int 1))) (eCons (eB kIx (eVar 2) (eD (.int 2))) eNil))))
  sNil)
  (sRet (eMeth "Net" "_read_answer" d_Net__read_answer [] (eVar 0) (eCons (eB kIx (eVar 2) (eD (.int 1))) (eCons (eB kIx (eVar 2) (eD (.int 2))) (eCons (eB kIx (eVar 2) (eD (.int 3))) eNil))))))))
noncomputable def d_Net_read : Den := mkDen 2 1 b_Net_read
noncomputable def b_Net_tell : SM := (sRet (eMeth "Net" "_send" d_Net__send [] (eVar 0) (eCons (eD (.str "tell")) (eCons (eVar 1) eNil))))
noncomputable def d_Net_tell : Den := mkDen 2 0 b_Net_tell
noncomputable def b_Net_repeat : SM := (sSeq (sE (eMeth "Net" "_check_index" d_Net__check_index [] (eVar 0) (eCons (eVar 1) eNil)))
  (sSeq (sSet 2 (eB kIx (eFld ["Net"] "_letters" (eVar 0)) (eVar 1)))
  (sSeq (sE (eM "list" kApp (eFld ["Net"] "_letters" (eVar 0)) (eCons (eVar 2) eNil)))
  (sRet (eVar 2)))))
noncomputable def d_Net_repeat : Den := mkDen 2 1 b_Net_repeat
local macro_rules | `(tactic| wtm_at "vl") => `(tactic| first
  | with_reducible refine v_seq ?_
  | with_reducible refine v_k_next ?_
  | with_reducible refine v_k_ret ?_
  | with_reducible refine v_k_brk ?_
  | with_reducible refine v_k_cont ?_
  | with_reducible refine v_set ?_
  | with_reducible refine v_if ?_
  | with_reducible refine v_ret ?_
  | with_reducible refine v_retN ?_
  | with_reducible refine v_nil ?_
  | with_reducible refine v_brk ?_
  | with_reducible refine v_cont ?_
  | with_reducible refine v_e ?_
  | with_reducible refine v_it ?_
  | with_reducible refine v_aug ?_
  | (with_reducible refine v_sl_val ?_; try dsimp only [List.set, FS.setE, C.toD])
  | (with_reducible refine v_sl_tmp ?h ?q; (case h => with_unfolding_all exact Nat.le_of_ble_eq_true rfl); (case' q => try dsimp only [List.set, FS.setE, C.toD]))
  | (with_reducible refine v_sl_pc ?_; try dsimp only [List.set, FS.setE, C.toD])
  | (with_reducible refine v_sl_ic ?_; try dsimp only [List.set, FS.setE, C.toD])
  | (with_reducible refine' w_var_val ?h0 ?q; (case h0 => with_unfolding_all rfl))
  | (with_reducible refine' w_var_own ?h0 ?q; (case h0 => with_unfolding_all rfl))
  | (with_reducible refine' w_var_pc ?h0 ?q; (case h0 => with_unfolding_all rfl))
  | (with_reducible refine' w_var_lck ?h0 ?q; (case h0 => with_unfolding_all rfl))
  | (with_reducible refine' w_var_ic ?h0 ?q; (case h0 => with_unfolding_all rfl))
  | with_reducible refine w_d ?_
  | with_reducible refine w_bin ?_
  | with_reducible refine w_cons ?_
  | with_reducible refine w_nil ?_
  | with_reducible refine w_T ?_
  | with_reducible refine w_asB ?_
  | with_reducible refine w_add ?_
  | with_reducible refine w_sub ?_
  | with_reducible refine w_lt ?_
  | with_reducible refine w_le ?_
  | with_reducible refine w_gt ?_
  | with_reducible refine w_ge ?_
  | with_reducible refine w_eqi ?_
  | with_reducible refine w_nei ?_
  | with_reducible refine w_mod ?_ ?_
  | with_reducible refine w_div ?_ ?_ ?_
  | with_reducible refine w_pow (by decide) ?_
  | with_reducible refine w_mul ?_ ?_
  | with_reducible refine w_addI ?_
  | with_reducible refine w_max ?_
  | with_reducible refine w_min ?_
  | with_reducible refine w_un ?_
  | with_reducible refine w_neg ?_
  | (with_reducible refine' w_ixl ?h0 ?h1 ?q; (case h0 => with_unfolding_all rfl); (case h1 => with_unfolding_all rfl))
  | (with_reducible refine' w_ixl ?h ?h2 ?q; (case h => with_unfolding_all rfl); (case' h2 => with_reducible refine atI_ints ?_ ?_))
  | (with_reducible refine' w_ixt ?h0 ?q; (case h0 => with_unfolding_all rfl))
  | with_reducible refine w_mand ?_
  | with_reducible refine w_mor ?_
  | with_reducible refine w_mnot ?_
  | with_reducible refine w_yes ?_
  | with_reducible refine w_eand ?_
  | with_reducible refine w_eor ?_
  | with_reducible refine w_enot ?_
  | with_reducible refine w_eif ?_
  | with_reducible refine w_ch ?_
  | with_reducible refine w_lst ?_
  | with_reducible refine w_tup ?_
  | with_reducible refine w_dict0 ?_
  | with_reducible refine w_cb ?_
  | with_reducible refine w_k1 ?_
  | with_reducible refine w_k2 ?_
  | with_reducible refine w_abs ?_
  | with_reducible refine w_int ?_
  | with_reducible refine w_intb ?_
  | (with_reducible refine' w_lenl ?h0 ?q; (case h0 => with_unfolding_all rfl))
  | with_reducible refine w_lent ?_
  | with_reducible refine w_isT ?_
  | with_reducible refine w_eCall ?_
  | with_reducible refine w_eqb ?_
  | with_reducible refine w_eqs ?_
  | with_reducible refine i_true ?_
  | with_reducible refine i_false ?_
  | with_reducible refine i_not ?_
  | with_reducible refine i_dec (fun _ => ?_) (fun _ => ?_)
  | with_reducible refine f_next ?_
  | with_reducible refine f_val ?_
  | with_reducible refine f_tmp ?_
  | with_reducible refine f_pc ?_
  | (with_reducible refine' f_var ?h0 ?q; (case h0 => with_unfolding_all rfl))
  | (with_reducible refine' i_lt ?h0 ?q; (case h0 => with_unfolding_all rfl))
  | (with_reducible refine' i_lf ?h0 ?q; (case h0 => with_unfolding_all rfl))
  | (with_reducible refine' x_it ?h ?h2 ?q; (case h => with_unfolding_all rfl); (case h2 => (with_reducible refine' setItem_lst ?a ?b ?c; (case a => with_unfolding_all rfl); (case b => with_unfolding_all rfl); (case c => with_unfolding_all rfl))); (case' q => try dsimp only [List.set, FS.setE, C.toD, Int.reduceToNat]))
  | (with_reducible refine' x_frz ?h0 ?h1 ?q; (case h0 => with_unfolding_all rfl); (case h1 => with_unfolding_all rfl); (case' q => try dsimp only [List.set, FS.setE, C.toD]))
  | (with_reducible refine' x_call ?h0 ?h1 ?q; (case h0 => with_unfolding_all rfl); (case h1 => with_unfolding_all rfl); (case' q => try dsimp only [List.set, FS.setE, C.toD]))
  | (with_reducible refine' x_back ?h0 ?q; (case h0 => with_unfolding_all rfl); (case' q => try dsimp only [List.set, FS.setE, C.toD]))
  | (with_reducible refine' x_ty ?h0 ?q; (case h0 => with_unfolding_all rfl))
  | (with_reducible refine' x_frz1 ?h0 ?q; (case h0 => with_unfolding_all rfl); (case' q => try dsimp only [List.set, FS.setE, C.toD]))
  | with_reducible refine x_r1 ⟨?_, ?_⟩ ?_
  | with_reducible refine x_r2 ⟨?_, ?_, ?_, ?_⟩ ?_
  | with_reducible refine w_m ?_
  | (with_reducible refine' x_has ?h0 ?q; (case h0 => with_unfolding_all rfl))
  | (with_reducible refine' w_app ?h ?h1 ?h2 ?h3 ?h4 ?q; (case h => with_unfolding_all rfl); (case h1 => with_unfolding_all rfl); (case h3 => rfl); (case h4 => with_unfolding_all rfl); (case' q => try dsimp only [List.set, FS.setE, C.toD]))
  | with_reducible refine w_isT ?_
  | (with_reducible refine' w_is ?h0 ?q; (case h0 => with_unfolding_all rfl))
  | (with_reducible refine' w_call ?h0 ?q; (case h0 => with_unfolding_all rfl); (case' q => try dsimp only [List.nil_append, List.cons_append, List.length_nil, List.length_cons, Nat.reduceAdd]))
  | (with_reducible refine' w_listOf ?h0 ?q; (case h0 => with_unfolding_all rfl))
  | (with_reducible refine' w_tupOf ?h0 ?q; (case h0 => with_unfolding_all rfl))
  | (with_reducible show @LE.le Int _ _ _; omega)
  | (with_reducible show @LT.lt Int _ _ _; omega)
  | fail)
local macro_rules | `(tactic| wtm_at "vl") => `(tactic| first
  | with_reducible refine pick_w (by assumption) ?_ ?_ (fun _ _ _ _ _ => ?_)
  | with_reducible refine size_w (by assumption) ?_ (fun _ _ _ _ _ _ => ?_)
  | with_reducible refine wide_w (by assumption) ?_ (fun _ _ _ _ _ => ?_)
  | with_reducible refine place_w (by assumption) ?_ (fun _ _ _ _ _ => ?_)
  | with_reducible refine near_w (by assumption) ?_ ?_ ?_ (fun _ _ _ _ _ => ?_)
  | with_reducible refine circle_w (by assumption) ?_ (fun _ _ _ _ _ _ => ?_)
  | with_reducible refine tape_w (by assumption) (fun _ _ => ?_)
  | with_reducible refine far_w ?_ ?_)
local macro_rules | `(tactic| wtm_at "gk") => `(tactic| first | with_unfolding_all assumption | with_unfolding_all rfl | exact g_app | (apply g_set; wtm_at "gk") | (apply g_appL; wtm_at "gk") | (apply g_ne; (first | assumption | omega); wtm_at "gk"))
local macro_rules | `(tactic| wtm_at "vl") => `(tactic| first
  | (with_reducible refine' i_st ?h0 ?q; (case h0 => decide +kernel))
  | (with_reducible refine' i_sf ?h0 ?q; (case h0 => decide +kernel))
  | (with_reducible refine l_next ?_; try dsimp only)
  | (with_reducible refine l_cont ?_; try dsimp only)
  | with_reducible refine l_brk ?_
  | with_reducible refine l_ret ?_
  | with_reducible refine w_fld ?_
  | (with_reducible refine' x_fld ?h0 ?h1 ?h2 ?q; (case h0 => wtm_at "gk"); (case h1 => with_unfolding_all first | exact List.mem_cons_self | exact List.mem_cons_of_mem _ List.mem_cons_self); (case h2 => with_unfolding_all rfl); (case' q => try dsimp only [fldR]))
  | with_reducible refine w_meth ?_
  | (with_reducible refine' x_meth ?h0 ?h1 ?h2 ?q; (case h0 => wtm_at "gk"); (case h1 => with_unfolding_all rfl); (case h2 => with_unfolding_all rfl); (case' q => try dsimp only [List.map_nil, List.map_cons, List.append_nil, List.cons_append, List.nil_append]))
  | (with_reducible refine w_make ?_; try dsimp only [List.map_nil, List.map_cons, List.append_nil, List.cons_append, List.nil_append, List.length_nil, List.length_cons, Nat.reduceAdd])
  | with_reducible refine m_mk ?_
  | with_reducible refine w_eLc ?_
  | with_reducible refine w_eLn ?_
  | with_reducible refine v_fld ?_
  | (with_reducible refine' x_stf ?h0 ?h1 ?h2 ?q; (case h0 => wtm_at "gk"); (case h1 => with_unfolding_all first | exact List.mem_cons_self | exact List.mem_cons_of_mem _ List.mem_cons_self); (case h2 => first | (with_reducible refine' storeF_val ?a ?b; (case a => wtm_at "gk"); (case b => with_unfolding_all rfl)) | (with_reducible refine' storeF_tmp ?a ?b; (case a => wtm_at "gk"); (case b => with_unfolding_all rfl))); (case' q => try dsimp only [List.set]; try simp only [List.set_set]))
  | with_reducible refine w_box ?_
  | (with_reducible refine x_boxed ?_)
  | (with_reducible refine w_callD ?_; try dsimp only [List.map_nil, List.map_cons, List.append_nil, List.cons_append, List.nil_append])
  | (with_reducible refine' w_app ?h ?h1 ?h2 ?h3 ?h4 ?q; (case h => with_unfolding_all rfl); (case h1 => with_unfolding_all rfl); (case h3 => with_unfolding_all rfl); (case h4 => with_unfolding_all rfl); (case h2 => with_unfolding_all exact Nat.le_of_ble_eq_true rfl); (case' q => try dsimp only [List.set, FS.setE, C.toD, List.nil_append, List.cons_append]))
  | (with_reducible refine' w_app ?h ?h1 ?h2 ?h3 ?h4 ?q; (case h => with_unfolding_all rfl); (case h1 => with_unfolding_all rfl); (case h3 => with_unfolding_all rfl); (case h4 => with_unfolding_all rfl); (case' q => try dsimp only [List.set, FS.setE, C.toD, List.nil_append, List.cons_append]))
  | with_reducible refine v_par ?_
  | with_reducible refine v_tupA ?_
  | with_reducible refine w_dm1 ?_
  | with_reducible refine w_dm2 ?_
  | (with_reducible refine' w_ixb ?h0 ?h1 ?q; (case h0 => wtm_at "gk"); (case h1 => with_unfolding_all rfl))
  | (with_reducible refine' w_lenb ?h0 ?q; (case h0 => wtm_at "gk"))
  | (with_reducible refine' x_itb ?h0 ?h1 ?h2 ?q; (case h0 => with_unfolding_all rfl); (case h1 => wtm_at "gk"); (case h2 => with_unfolding_all rfl); (case' q => try dsimp only [List.set, FS.setE, C.toD, Int.reduceToNat]; try simp only [List.set_set]))
  | fail)
local macro_rules | `(tactic| wtm_at "vl") => `(tactic| first
  | with_reducible refine between_w ?_ ?_
  | with_reducible refine lfar_w ?_ ?_
  | with_reducible refine lbetween_w ?_ ?_
  | with_reducible refine places_w (by assumption) ?_ ?_ ?_ ?_ (fun _ _ _ _ _ _ => ?_)
  | fail)
local macro_rules | `(tactic| wtm_at "ck") => `(tactic| first
  | with_unfolding_all rfl
  | (with_unfolding_all refine' cont_ic ?a ?b; (case a => wtm_at "gk"); (case b => with_unfolding_all rfl))
  | (with_unfolding_all refine' cont_box ?a; (case a => wtm_at "gk"))
  | (with_unfolding_all refine' Hold.cont ?a; (case a => with_unfolding_all assumption)))
local macro_rules | `(tactic| wtm_at "pk") => `(tactic| first
  | with_unfolding_all rfl
  | (with_unfolding_all refine' put_ic ?a ?b ?c; (case a => wtm_at "gk"); (case b => with_unfolding_all rfl); (case c => exact fun _ z => nomatch z))
  | (with_unfolding_all refine' put_box ?a ?c; (case a => wtm_at "gk"); (case c => exact fun _ z => nomatch z)))
local macro_rules | `(tactic| wtm_at "vl") => `(tactic| first
  | (with_reducible refine' c_ixd ?h0 ?h1 ?q; (case h0 => wtm_at "ck"); (case' q => try dsimp only [nxF, bfF]))
  | (with_reducible refine' c_ixl ?h0 ?h1 ?q; (case h0 => wtm_at "ck"); (case h1 => first | with_unfolding_all rfl | assumption))
  | (with_reducible refine' c_len ?h0 ?q; (case h0 => wtm_at "ck"))
  | (with_reducible refine' c_lend ?h0 ?q; (case h0 => wtm_at "ck"))
  | (with_reducible refine' c_in ?h0 ?q; (case h0 => wtm_at "ck"))
  | (with_reducible refine' c_sorted ?h0 ?h1 ?q; (case h0 => wtm_at "ck"))
  | (with_reducible refine' c_get1 ?h0 ?q; (case h0 => wtm_at "ck"))
  | (with_reducible refine' c_dictOf ?h0 ?q; (case h0 => wtm_at "ck"))
  | (with_reducible refine' c_listOf ?h0 ?q; (case h0 => wtm_at "ck"))
  | (with_reducible refine' c_tupOf ?h0 ?q; (case h0 => wtm_at "ck"))
  | (with_reducible refine c_dm1 ?_)
  | (with_reducible refine' x_contD ?h0 ?q; (case h0 => wtm_at "ck"))
  | (with_reducible refine' c_app ?h ?h1 ?h2 ?h3 ?h4 ?q; (case h => with_unfolding_all rfl); (case h1 => wtm_at "ck"); (case h3 => with_unfolding_all rfl); (case h4 => wtm_at "pk"); (case' q => try dsimp only [List.set, FS.setE, C.toD, List.nil_append, List.cons_append]; try simp only [List.set_set]))
  | (with_reducible refine' x_hasL ?h0 ?q; (case h0 => wtm_at "ck"))
  | (with_reducible refine' c_setdM ?h0 ?h1 ?h2 ?h3 ?h4 ?q; (case h0 => with_unfolding_all rfl); (case h1 => wtm_at "ck"); (case h4 => wtm_at "pk"); (case' q => try dsimp only [List.set, FS.setE, C.toD, List.nil_append, List.cons_append]; try simp only [List.set_set]))
  | (with_reducible refine' w_varA ?ha ?h0 ?q; (case h0 => with_unfolding_all rfl); (case ha => assumption))
  | fail)
theorem cplace_w {n p : Int} {cs : List C} {g : List Inst} {Q X} (h : 0 ≤ p ∧ p < n) (q : Q (.val .non) cs g) : wpD (d_check_place [.val (.int n), .val (.int p)] cs g) Q X := by
  refine v_den rfl ?_
  unfold b_check_place
  simp only [List.map_cons, List.map_nil, List.replicate, argS, List.cons_append, List.nil_append]
  repeat' wtm_at "vl"
  all_goals first
    | exact q
    | omega
theorem chouses_w {a b : R} {ks xs : List Int} {f : Int → D} {cs : List C} {g : List Inst} {Q X} (ha : Hold cs g a (.dct (fT ks f))) (hb : isArg b) (hs : ∀ env, SqA ⟨env, cs, g⟩ b (xs.map D.int)) (hm : ∀ x ∈ xs, x ∈ ks) (q : Q (.val .non) cs g) :
    wpD (d_check_houses [a, b] cs g) Q X := by
  refine v_den rfl ?_
  unfold b_check_houses
  simp only [List.map_cons, List.map_nil, List.replicate, List.cons_append, List.nil_append]
  have ha1 := ha.1
  with_reducible refine v_forA ?_
  repeat' wtm_at "vl"
  refine ⟨_, hs _, fun i env => ∃ z, env = [argS a, argS b, z], ⟨_, rfl⟩, fun i d env hd ⟨z, e⟩ => ?_, fun env ⟨z, e⟩ => ?_⟩
  · subst e
    rw [List.getElem?_map] at hd
    cases e : xs[i]? with
    | none => rw [e] at hd; cases hd
    | some x =>
      rw [e] at hd; cases hd
      have hx := hm x (List.mem_of_getElem? e)
      refine ⟨_, rfl, ?_⟩
      dsimp only [FS.setE, List.set]
      repeat' wtm_at "vl"
      rw [decide_eq_true hx]
      repeat' wtm_at "vl"
      exact ⟨⟨_, rfl⟩, rfl, rfl⟩
  · subst e
    repeat' wtm_at "vl"
    exact q
theorem chousesT_w {a : R} {ks xs : List Int} {f : Int → D} {cs : List C} {g : List Inst} {Q X} (ha : Hold cs g a (.dct (fT ks f))) (hm : ∀ x ∈ xs, x ∈ ks) (q : Q (.val .non) cs g) : wpD (d_check_houses [a, .val (.tup (xs.map D.int))] cs g) Q X :=
  chouses_w ha trivial (fun _ => .inl rfl) hm q
theorem chouses1_w {k : Nat} {N : Nt} {x : Int} {g : List Inst} {Q X} (hg : g[k]? = some (netI N)) (hm : x ∈ N.ks) (q : Q (.val .non) [.lst [.int x]] g) : wpD (d_check_houses [.ic k 0, .pc 0] [.lst [.int x]] g) Q X :=
  chouses_w (xs := [x]) (Hold.ic hg rfl) trivial (fun _ => .inr (.inr ⟨trivial, fun _ => rfl⟩)) (fun y hy => by rw [List.mem_singleton] at hy; subst hy; exact hm) q
theorem chouses2_w {k : Nat} {N : Nt} {x y : Int} {g : List Inst} {Q X} (hg : g[k]? = some (netI N)) (hx : x ∈ N.ks) (hy : y ∈ N.ks) (q : Q (.val .non) [.lst [.int x, .int y]] g) : wpD (d_check_houses [.ic k 0, .pc 0] [.lst [.int x, .int y]] g) Q X :=
  chouses_w (xs := [x, y]) (Hold.ic hg rfl) trivial (fun _ => .inr (.inr ⟨trivial, fun _ => rfl⟩)) (fun z hz => by rcases List.mem_cons.mp hz with rfl | hz; exact hx; rw [List.mem_singleton] at hz; subst hz; exact hy) q
local macro_rules | `(tactic| wtm_at "vl") => `(tactic| first
  | with_reducible refine cplace_w ?_ ?_
  | (with_reducible refine' chouses1_w ?h0 ?h1 ?q; (case h0 => wtm_at "gk"))
  | (with_reducible refine' chouses2_w ?h0 ?h1 ?h2 ?q; (case h0 => wtm_at "gk")))
theorem send_w {N : Nt} {w : Str} {h : Int} {l : Lt} {k : Nat} {cs : List C} {g : List Inst} {Q X} (ok : NtOk N) (hg : g[k]? = some (netI N)) (hm : h ∈ N.ks) (hl : l.d = .tup [.str w, .int (N.nx h), .int h])
    (q : Q (.val l.d) cs (g.set k (netI { N with ls := N.ls ++ [l] }))) : wpD (d_Net__send [.val (.ins k), .val (.str w), .val (.int h)] cs g) Q X := by
  refine v_den rfl ?_
  unfold b_Net__send
  simp only [List.map_cons, List.map_nil, List.replicate, argS, List.cons_append, List.nil_append]
  have hz : sizeLine = 16777216 := rfl
  have hll := ok.ll
  rw [hl] at q
  repeat' wtm_at "vl"
  all_goals first
    | exact hm
    | (rw [List.length_map]; omega)
    | (simp only [netI, List.map_append, List.map_cons, List.map_nil, hl] at q; exact q)
    | trace_state
local macro_rules | `(tactic| wtm_at "vl") => `(tactic| first
  | (with_reducible refine' send_w ?h ?h0 ?h1 ?h2 ?q; (case h0 => wtm_at "gk"); (case h => assumption)))
theorem ntell_w {N : Nt} {h : Int} {k : Nat} {cs : List C} {g : List Inst} {Q X} (ok : NtOk N) (hg : g[k]? = some (netI N)) (hm : h ∈ N.ks) (q : Q (.val (Lt.tell (N.nx h) h).d) cs (g.set k (netI (N.sendT h)))) : wpD (d_Net_tell [.val (.ins k), .val (.int h)] cs g) Q X := by
  refine v_den rfl ?_
  unfold b_Net_tell
  simp only [List.map_cons, List.map_nil, List.replicate, argS, List.cons_append, List.nil_append]
  repeat' first
    | (with_reducible refine send_w (l := .tell (N.nx h) h) ok hg hm rfl ?_)
    | wtm_at "vl"
  exact q
theorem nask_w {N : Nt} {h : Int} {k : Nat} {cs : List C} {g : List Inst} {Q X} (ok : NtOk N) (hg : g[k]? = some (netI N)) (hm : h ∈ N.ks) (q : Q (.val (Lt.ask (N.nx h) h).d) cs (g.set k (netI (N.sendA h)))) : wpD (d_Net_ask [.val (.ins k), .val (.int h)] cs g) Q X := by
  refine v_den rfl ?_
  unfold b_Net_ask
  simp only [List.map_cons, List.map_nil, List.replicate, argS, List.cons_append, List.nil_append]
  repeat' first
    | (with_reducible refine send_w (l := .ask (N.nx h) h) ok hg hm rfl ?_)
    | wtm_at "vl"
  exact q
theorem nindex_w {N : Nt} {at' : Int} {k : Nat} {cs : List C} {g : List Inst} {Q X} (hg : g[k]? = some (netI N)) (h : 0 ≤ at' ∧ at' < N.ls.length) (q : Q (.val .non) cs g) : wpD (d_Net__check_index [.val (.ins k), .val (.int at')] cs g) Q X := by
  refine v_den rfl ?_
  unfold b_Net__check_index
  simp only [List.map_cons, List.map_nil, List.replicate, argS, List.cons_append, List.nil_append]
  repeat' wtm_at "vl"
  all_goals first
    | exact q
    | omega
    | (rw [List.length_map] at *; omega)
    | (rename_i z; rw [List.length_map] at z; omega)
    | trace_state
local macro_rules | `(tactic| wtm_at "vl") => `(tactic| first
  | (with_reducible refine' nindex_w ?h0 ?_ ?q; (case h0 => wtm_at "gk"))
  | (with_reducible refine' c_popAt ?h0 ?h1 ?h2 ?h3 ?h4 ?q; (case h0 => wtm_at "ck"); (case h2 => assumption); (case h3 => exact getMapL (by assumption)); (case h4 => wtm_at "pk"); (case' q => try dsimp only [List.set, FS.setE, C.toD]; try simp only [List.set_set])))
theorem nlose_w {N : Nt} {at' : Int} {l : Lt} {k : Nat} {cs : List C} {g : List Inst} {Q X} (ok : NtOk N) (hg : g[k]? = some (netI N)) (h : 0 ≤ at') (hl : N.ls[at'.toNat]? = some l) (q : Q (.val l.d) cs (g.set k (netI (N.cut at'.toNat)))) : wpD (d_Net_lose [.val (.ins k), .val (.int at')] cs g) Q X := by
  refine v_den rfl ?_
  unfold b_Net_lose
  simp only [List.map_cons, List.map_nil, List.replicate, argS, List.cons_append, List.nil_append]
  have hz : sizeLine = 16777216 := rfl
  have hll := ok.ll
  have hlt := (List.getElem?_eq_some_iff.mp hl).1
  repeat' wtm_at "vl"
  all_goals first
    | omega
    | (rw [List.length_map]; omega)
    | (simp only [Nt.cut, netI, ← eraseIdx_mapL] at q; exact q)
theorem nrepeat_w {N : Nt} {at' : Int} {l : Lt} {k : Nat} {cs : List C} {g : List Inst} {Q X} (ok : NtOk N) (hg : g[k]? = some (netI N)) (h : 0 ≤ at') (hl : N.ls[at'.toNat]? = some l) (q : Q (.val l.d) cs (g.set k (netI { N with ls := N.ls ++ [l] }))) : wpD (d_Net_repeat [.val (.ins k), .val (.int at')] cs g) Q X := by
  refine v_den rfl ?_
  unfold b_Net_repeat
  simp only [List.map_cons, List.map_nil, List.replicate, argS, List.cons_append, List.nil_append]
  have hz : sizeLine = 16777216 := rfl
  have hll := ok.ll
  have hlt := (List.getElem?_eq_some_iff.mp hl).1
  have hx : atI (N.ls.map Lt.d) at' = some l.d := by
    unfold atI ixN
    rw [if_pos h, if_pos (by rw [List.length_map]; omega)]
    exact getMapL hl
  repeat' wtm_at "vl"
  all_goals first
    | omega
    | (rw [List.length_map]; omega)
    | (simp only [netI, List.map_append, List.map_cons, List.map_nil] at q; exact q)
theorem nrdT_w {N : Nt} {a s : Int} {k : Nat} {cs : List C} {g : List Inst} {Q X} (ok : NtOk N) (hg : g[k]? = some (netI N)) (hm : a ∈ N.ks) (q : Q (.val (N.rdT a s).1) cs (g.set k (netI (N.rdT a s).2))) :
    wpD (d_Net__read_tell [.val (.ins k), .val (.int a), .val (.int s)] cs g) Q X := by
  refine v_den rfl ?_
  unfold b_Net__read_tell
  simp only [List.map_cons, List.map_nil, List.replicate, argS, List.cons_append, List.nil_append]
  have hz : sizeLine = 16777216 := rfl
  have hlen := ok.len
  have hpos := ok.pos
  unfold Nt.rdT Nt.told at q
  cases hb : N.bf a with
  | none =>
    have hbf : bfF N.bf a = .non := by unfold bfF; rw [hb]; rfl
    rw [hb] at q
    simp only [if_true] at q
    repeat' first
      | (with_reducible refine' c_ixdE ?kk0 hm hbf ?_; (case kk0 => wtm_at "ck"))
      | wtm_at "vl"
    all_goals first
      | exact hm
      | omega
      | (rw [upd_bf]; exact q)
  | some b =>
    have hbf : bfF N.bf a = .int b := by unfold bfF; rw [hb]; rfl
    rw [hb] at q
    simp only [decide_eq_true_eq] at q
    repeat' first
      | (with_reducible refine' c_ixdE ?kk0 hm hbf ?_; (case kk0 => wtm_at "ck"))
      | wtm_at "vl"
    all_goals first
      | exact hm
      | omega
      | (rw [if_pos (by assumption)] at q; rw [upd_bf]; exact q)
      | (rw [if_neg (by assumption), g_same hg] at q; exact q)
theorem nrdK_w {N : Nt} {a s : Int} {k : Nat} {cs : List C} {g : List Inst} {Q X} (ok : NtOk N) (hg : g[k]? = some (netI N)) (hm : a ∈ N.ks) (q : Q (.val (N.rdK a s).1) cs (g.set k (netI (N.rdK a s).2))) :
    wpD (d_Net__read_ask [.val (.ins k), .val (.int a), .val (.int s)] cs g) Q X := by
  refine v_den rfl ?_
  unfold b_Net__read_ask
  simp only [List.map_cons, List.map_nil, List.replicate, argS, List.cons_append, List.nil_append]
  have hz : sizeLine = 16777216 := rfl
  have hll := ok.ll
  unfold Nt.rdK at q
  cases hb : N.bf a with
  | none =>
    have hbf : bfF N.bf a = .non := by unfold bfF; rw [hb]; rfl
    rw [hb] at q
    dsimp only at q
    rw [g_same hg] at q
    repeat' first
      | (with_reducible refine' c_ixdE ?kk0 hm hbf ?_; (case kk0 => wtm_at "ck"))
      | wtm_at "vl"
    exact q
  | some b =>
    have hbf : bfF N.bf a = .int b := by unfold bfF; rw [hb]; rfl
    rw [hb] at q
    repeat' first
      | (with_reducible refine' c_ixdE ?kk0 hm hbf ?_; (case kk0 => wtm_at "ck"))
      | wtm_at "vl"
    all_goals first
      | (rw [List.length_map]; omega)
      | (simp only [netI, List.map_append, List.map_cons, List.map_nil] at q; exact q)
theorem nrdA_w {N : Nt} {a s m : Int} {k : Nat} {cs : List C} {g : List Inst} {Q X} (ok : NtOk N) (hg : g[k]? = some (netI N)) (hm : a ∈ N.ks) (q : Q (.val (N.rdA a s m).1) cs (g.set k (netI (N.rdA a s m).2))) :
    wpD (d_Net__read_answer [.val (.ins k), .val (.int a), .val (.int s), .val (.int m)] cs g) Q X := by
  refine v_den rfl ?_
  unfold b_Net__read_answer
  simp only [List.map_cons, List.map_nil, List.replicate, argS, List.cons_append, List.nil_append]
  have hz : sizeLine = 16777216 := rfl
  have hlen := ok.len
  have hpos := ok.pos
  unfold Nt.rdA at q
  repeat' wtm_at "vl"
  all_goals first
    | exact hm
    | omega
    | (rw [if_pos (And.intro (by assumption) (by assumption))] at q; rw [upd_nx]; exact q)
    | (rw [if_neg (fun z => absurd z.2 (by assumption)), g_same hg] at q; exact q)
    | (rw [if_neg (fun z => absurd z.1 (by assumption)), g_same hg] at q; exact q)
    | trace_state
local macro_rules | `(tactic| wtm_at "vl") => `(tactic| first
  | (with_reducible refine' nlose_w ?h ?h0 ?h1 ?h2 ?q; (case h0 => wtm_at "gk"); (case h => assumption); (case h1 => assumption); (case h2 => assumption))
  | (with_reducible refine' nrdT_w ?h ?h0 ?h1 ?q; (case h0 => wtm_at "gk"))
  | (with_reducible refine' nrdK_w ?h ?h0 ?h1 ?q; (case h0 => wtm_at "gk"))
  | (with_reducible refine' nrdA_w ?h ?h0 ?h1 ?q; (case h0 => wtm_at "gk")))
theorem nread_w {N : Nt} {at' : Int} {l : Lt} {k : Nat} {cs : List C} {g : List Inst} {Q X} (ok : NtOk N) (hg : g[k]? = some (netI N)) (h : 0 ≤ at') (hl : N.ls[at'.toNat]? = some l)
    (q : Q (.val ((N.cut at'.toNat).rdL l).1) cs (g.set k (netI ((N.cut at'.toNat).rdL l).2))) : wpD (d_Net_read [.val (.ins k), .val (.int at')] cs g) Q X := by
  refine v_den rfl ?_
  unfold b_Net_read
  simp only [List.map_cons, List.map_nil, List.replicate, argS, List.cons_append, List.nil_append]
  have hlm := ok.ls l (List.mem_of_getElem? hl)
  have ok2 := ok.cut at'.toNat
  cases l with
  | tell a s =>
    have ha : a ∈ N.ks := hlm a (by simp [Lt.ps])
    simp only [Nt.rdL] at q
    repeat' first
      | wtm_at "vl"
      | (dsimp only [Lt.d])
    all_goals first
      | exact ok2
      | exact ha
      | (rw [List.set_set]; exact q)
      | trace_state
  | ask a s =>
    have ha : a ∈ N.ks := hlm a (by simp [Lt.ps])
    simp only [Nt.rdL] at q
    repeat' first
      | wtm_at "vl"
      | (dsimp only [Lt.d])
    all_goals first
      | exact ok2
      | exact ha
      | (rw [List.set_set]; exact q)
      | trace_state
  | ans a s m =>
    have ha : a ∈ N.ks := hlm a (by simp [Lt.ps])
    simp only [Nt.rdL] at q
    repeat' first
      | wtm_at "vl"
      | (dsimp only [Lt.d])
    all_goals first
      | exact ok2
      | exact ha
      | (rw [List.set_set]; exact q)
      | trace_state
theorem nhold_w {N : Nt} {a v : Int} {k : Nat} {cs : List C} {g : List Inst} {Q X} (ok : NtOk N) (hg : g[k]? = some (netI N)) (ha : a ∈ N.ks) (hv : v ∈ N.ks)
    (q : Q (.val (.int (N.nx a))) cs (g.set k (netI { N with nx := upd1 N.nx a v }))) : wpD (d_Net_hold [.val (.ins k), .val (.int a), .val (.int v)] cs g) Q X := by
  refine v_den rfl ?_
  unfold b_Net_hold
  simp only [List.map_cons, List.map_nil, List.replicate, argS, List.cons_append, List.nil_append]
  have hz : sizeLine = 16777216 := rfl
  have hlen := ok.len
  repeat' wtm_at "vl"
  all_goals first
    | exact ha
    | exact hv
    | omega
    | (rw [upd_nx]; exact q)
    | trace_state
theorem nletters_w {N : Nt} {k : Nat} {cs : List C} {g : List Inst} {Q X} (hg : g[k]? = some (netI N)) (q : Q (.tmp (.lst (N.ls.map Lt.d))) cs g) : wpD (d_Net_letters [.val (.ins k)] cs g) Q X := by
  refine v_den rfl ?_
  unfold b_Net_letters
  simp only [List.map_cons, List.map_nil, List.replicate, argS, List.cons_append, List.nil_append]
  repeat' wtm_at "vl"
  exact q
theorem nnexts_w {N : Nt} {k : Nat} {cs : List C} {g : List Inst} {Q X} (ok : NtOk N) (hg : g[k]? = some (netI N)) (q : Q (.tmp (.dct (fT (sortI N.ks) (nxF N.nx)))) cs g) : wpD (d_Net_nexts [.val (.ins k)] cs g) Q X := by
  refine v_den rfl ?_
  unfold b_Net_nexts
  simp only [List.map_cons, List.map_nil, List.replicate, argS, List.cons_append, List.nil_append]
  have hz : sizeLine = 16777216 := rfl
  have hlen := ok.len
  wtm_at "vl"
  with_reducible refine w_dcT (sortI N.ks) (fun _ => true) (nxF N.nx) ?_
  with_reducible refine w_any ?_
  repeat' wtm_at "vl"
  all_goals first
    | exact hlen
    | skip
  dsimp only [anyQ, seqL, cont]
  refine ⟨rfl, by rw [sortI_len]; omega, sortI_nodup ok.nd, ⟨trivial, rfl⟩, fun x hx => ?_, ?_⟩
  · have hx' := sortI_mem.mp hx
    refine ⟨_, rfl, ?_⟩
    dsimp only [FS.setE, List.set, wipeE]
    repeat' wtm_at "vl"
    refine ⟨rfl, fun _ => ?_, fun z => nomatch z⟩
    repeat' wtm_at "vl"
    refine ⟨rfl, ?_⟩
    repeat' wtm_at "vl"
    all_goals first
      | exact hx'
      | exact ⟨_, rfl, rfl⟩
  · rw [List.filter_eq_self.mpr (fun _ _ => rfl)]
    repeat' wtm_at "vl"
    exact q
theorem nbefores_w {N : Nt} {k : Nat} {cs : List C} {g : List Inst} {Q X} (ok : NtOk N) (hg : g[k]? = some (netI N)) (q : Q (.tmp (.dct (fT ((sortI N.ks).filter fun h => (N.bf h).isSome) (bfF N.bf)))) cs g) : wpD (d_Net_befores [.val (.ins k)] cs g) Q X := by
  refine v_den rfl ?_
  unfold b_Net_befores
  simp only [List.map_cons, List.map_nil, List.replicate, argS, List.cons_append, List.nil_append]
  have hz : sizeLine = 16777216 := rfl
  have hlen := ok.len
  repeat' wtm_at "vl"
  with_reducible refine w_dcT (sortI N.ks) (fun h => (N.bf h).isSome) (bfF N.bf) ?_
  with_reducible refine w_any ?_
  repeat' wtm_at "vl"
  all_goals first
    | exact hlen
    | skip
  dsimp only [anyQ, seqL, cont]
  refine ⟨rfl, by rw [sortI_len]; omega, sortI_nodup ok.nd, ⟨trivial, rfl⟩, fun x hx => ?_, ?_⟩
  · have hx' := sortI_mem.mp hx
    refine ⟨_, rfl, ?_⟩
    dsimp only [FS.setE, List.set, wipeE]
    cases hb : N.bf x with
    | none =>
      have hbf : bfF N.bf x = .non := by unfold bfF; rw [hb]; rfl
      repeat' first
        | (with_reducible refine' c_ixdE ?kk0 hx' hbf ?_; (case kk0 => wtm_at "ck"))
        | wtm_at "vl"
      exact ⟨rfl, fun z => (nomatch z), fun _ => rfl⟩
    | some b =>
      have hbf : bfF N.bf x = .int b := by unfold bfF; rw [hb]; rfl
      repeat' first
        | (with_reducible refine' c_ixdE ?kk0 hx' hbf ?_; (case kk0 => wtm_at "ck"))
        | wtm_at "vl"
      refine ⟨rfl, fun _ => ?_, fun z => nomatch z⟩
      repeat' wtm_at "vl"
      refine ⟨rfl, ?_⟩
      repeat' first
        | (with_reducible refine' c_ixdE ?kk1 hx' hbf ?_; (case kk1 => wtm_at "ck"))
        | wtm_at "vl"
      rw [hbf]
      exact ⟨_, rfl, rfl⟩
  · repeat' wtm_at "vl"
    exact q
theorem hold_dct {a : R} {cs : List C} {g : List Inst} {kvs : List (Key × D)} (h : Hold cs g a (.dct kvs)) : (∃ i, a = .pc i ∧ cs[i]? = some (.dct kvs)) ∨ (∃ k j, a = .ic k j) ∨ (∃ d, a = .val d) := by
  obtain ⟨h1, h2⟩ := h
  cases a with
  | tmp c => exact h1.elim
  | var i => exact h1.elim
  | pc i => exact .inl ⟨i, rfl, h2 []⟩
  | ic k j => exact .inr (.inl ⟨k, j, rfl⟩)
  | val d => exact .inr (.inr ⟨d, rfl⟩)
theorem pcs_same {s : FS} {i : Nat} {c : C} (h : s.pcs[i]? = some c) : (⟨s.env, s.pcs.set i c, s.g⟩ : FS) = s := by
  obtain ⟨h1, h2⟩ := List.getElem?_eq_some_iff.mp h
  have : s.pcs.set i c = s.pcs := by subst h2; exact List.set_getElem_self h1
  rw [this]
theorem chkL_w {a : R} {ks xs : List Int} {f : Int → D} {s : FS} {Q : R → FS → Prop} {X : Ex → FS → Prop} (ha : Hold s.pcs s.g a (.dct (fT ks f))) (hm : ∀ x ∈ xs, x ∈ ks) (q : Q (.val .non) s) : wp (callR d_check_houses [a, .tmp (.lst (xs.map D.int))] s) Q X := by
  have hs : ∀ {cs : List C} {i : Nat}, cs[i]? = some (.lst (xs.map D.int)) → ∀ {g : List Inst} env, SqA ⟨env, cs, g⟩ (.pc i) (xs.map D.int) := fun h _ _ => .inr (.inr ⟨trivial, fun _ => h⟩)
  rcases hold_dct ha with ⟨i, rfl, hi⟩ | ⟨k, j, rfl⟩ | ⟨d, rfl⟩
  · have hc : canon s [.pc i, .tmp (.lst (xs.map D.int))] [] [] = some ([.pc 0, .pc 1], [.pc i, .tmp (.lst (xs.map D.int))], [.dct (fT ks f), .lst (xs.map D.int)]) := by
      have e : cont s (.pc i) = some (.dct (fT ks f)) := hi
      simp [canon, locP, cont, hi, sameP]
    refine w_call hc ?_
    refine chouses_w (Hold.pc rfl) trivial (fun env => hs rfl env) hm ?_
    refine ⟨s, .val .non, ?_, rfl, q⟩
    show (match put0 { s with g := s.g } (.pc i) (.dct (fT ks f)) with | some s1 => _ | none => none) = some s
    show some (⟨s.env, s.pcs.set i (.dct (fT ks f)), s.g⟩ : FS) = some s
    rw [pcs_same hi]
  · have hc : canon s [.ic k j, .tmp (.lst (xs.map D.int))] [] [] = some ([.ic k j, .pc 0], [.tmp (.lst (xs.map D.int))], [.lst (xs.map D.int)]) := by
      simp [canon, locP, cont]
    refine w_call hc ?_
    refine chouses_w ⟨trivial, fun env => ha.2 env⟩ trivial (fun env => hs rfl env) hm ?_
    exact ⟨s, .val .non, rfl, rfl, q⟩
  · have hc : canon s [.val d, .tmp (.lst (xs.map D.int))] [] [] = some ([.val d, .pc 0], [.tmp (.lst (xs.map D.int))], [.lst (xs.map D.int)]) := by
      simp [canon, locP, cont]
    refine w_call hc ?_
    refine chouses_w (f := f) ⟨trivial, fun env => ?_⟩ trivial (fun env => hs rfl env) hm ?_
    · have z := ha.2 env
      cases d <;> first
        | exact z
        | (cases z)
    exact ⟨s, .val .non, rfl, rfl, q⟩
theorem chk1_w {a : R} {ks : List Int} {f : Int → D} {d : D} {v : Int} {s : FS} {Q : R → FS → Prop} {X : Ex → FS → Prop} (ha : Hold s.pcs s.g a (.dct (fT ks f))) (e : d = .int v) (hv : v ∈ ks) (q : Q (.val .non) s) : wp (callR d_check_houses [a, .tmp (.lst [d])] s) Q X := by
  subst e
  exact chkL_w (xs := [v]) ha (fun y hy => by rw [List.mem_singleton] at hy; subst hy; exact hv) q
theorem chk2_w {a : R} {ks : List Int} {f : Int → D} {x v : Int} {s : FS} {Q : R → FS → Prop} {X : Ex → FS → Prop} (ha : Hold s.pcs s.g a (.dct (fT ks f))) (hx : x ∈ ks) (hv : v ∈ ks) (q : Q (.val .non) s) : wp (callR d_check_houses [a, .tmp (.lst [.int x, .int v])] s) Q X :=
  chkL_w (xs := [x, v]) ha (fun y hy => by
    rcases List.mem_cons.mp hy with rfl | hy
    · exact hx
    · rw [List.mem_singleton] at hy; subst hy; exact hv) q
theorem chkT_w {a : R} {ks xs : List Int} {f : Int → D} {s : FS} {Q : R → FS → Prop} {X : Ex → FS → Prop} (ha : Hold s.pcs s.g a (.dct (fT ks f))) (hm : ∀ x ∈ xs, x ∈ ks) (q : Q (.val .non) s) : wp (callR d_check_houses [a, .val (.tup (xs.map D.int))] s) Q X := by
  rcases hold_dct ha with ⟨i, rfl, hi⟩ | ⟨k, j, rfl⟩ | ⟨d, rfl⟩
  · have hc : canon s [.pc i, .val (.tup (xs.map D.int))] [] [] = some ([.pc 0, .val (.tup (xs.map D.int))], [.pc i], [.dct (fT ks f)]) := by
      have e : cont s (.pc i) = some (.dct (fT ks f)) := hi
      simp [canon, locP, cont, hi, sameP]
    refine w_call hc ?_
    refine chousesT_w (Hold.pc rfl) hm ?_
    refine ⟨s, .val .non, ?_, rfl, q⟩
    show some (⟨s.env, s.pcs.set i (.dct (fT ks f)), s.g⟩ : FS) = some s
    rw [pcs_same hi]
  · refine w_call (as := [.ic k j, .val (.tup (xs.map D.int))]) (og := []) (cs := []) (by simp [canon]) ?_
    refine chousesT_w ⟨trivial, fun env => ha.2 env⟩ hm ?_
    exact ⟨s, .val .non, rfl, rfl, q⟩
  · refine w_call (as := [.val d, .val (.tup (xs.map D.int))]) (og := []) (cs := []) (by simp [canon]) ?_
    refine chousesT_w (f := f) ⟨trivial, fun env => ?_⟩ hm ?_
    · have z := ha.2 env
      cases d <;> first
        | exact z
        | (cases z)
    exact ⟨s, .val .non, rfl, rfl, q⟩
theorem lplaces_w {l : Lt} {cs : List C} {g : List Inst} {Q X} (q : Q (.val (.tup (l.ps.map D.int))) cs g) : wpD (d_letter_places [.val l.d] cs g) Q X := by
  refine v_den rfl ?_
  unfold b_letter_places
  simp only [List.map_cons, List.map_nil, List.replicate, argS, List.cons_append, List.nil_append]
  cases l <;> (dsimp only [Lt.d]; repeat' first
    | with_reducible refine w_slLo ?_
    | with_reducible refine w_slt ?_
    | wtm_at "vl") <;> (rw [cut_lo1]; exact q)
local macro_rules | `(tactic| wtm_at "vl") => `(tactic| first
  | with_reducible refine lplaces_w ?_
  | (with_reducible refine' c_sorted ?h0 ?h1 ?q; (case h0 => exact Hold.cont (by assumption)))
  | (with_reducible refine' c_ixd ?h0 ?h1 ?q; (case h0 => exact Hold.cont (by assumption))))
theorem ctables_w {n : Int} {a b c : R} {ks kb : List Int} {nx : Int → Int} {f : Int → D} {ls : List Lt} {cs : List C} {g : List Inst} {Q X}
    (ha : Hold cs g a (.dct (fT ks (nxF nx)))) (hb : Hold cs g b (.dct (fT kb f))) (hc : Hold cs g c (.lst (ls.map Lt.d))) (hks : ks.length < 64) (hkb : kb.length < 64)
    (h1 : ∀ h ∈ ks, 0 ≤ h ∧ h < n) (h2 : ∀ h ∈ ks, nx h ∈ ks) (h3 : ∀ h ∈ kb, h ∈ ks ∧ ∃ v, f h = .int v ∧ v ∈ ks) (h4 : ∀ l ∈ ls, ∀ p ∈ l.ps, p ∈ ks) (q : Q (.val .non) cs g) :
    wpD (d_check_tables [.val (.int n), a, b, c] cs g) Q X := by
  refine v_den rfl ?_
  unfold b_check_tables
  simp only [List.map_cons, List.map_nil, List.replicate, List.cons_append, List.nil_append]
  have a1 := ha.1
  have b1 := hb.1
  have c1 := hc.1
  have cka : ∀ env, cont ⟨env, cs, g⟩ a = some (.dct (fT ks (nxF nx))) := ha.2
  have ckb : ∀ env, cont ⟨env, cs, g⟩ b = some (.dct (fT kb f)) := hb.2
  have srt : ∀ {m : List Int} {s1 : FS}, SqA s1 (.tmp (.lst ((sortI m).map D.int))) ((sortI m).map D.int) := fun {m s1} => .inr (.inl ⟨_, rfl, rfl⟩)
  have get : ∀ {m : List Int} {i : Nat} {d : D}, ((sortI m).map D.int)[i]? = some d → ∃ x, x ∈ m ∧ d = .int x := fun {m i d} h => by
    rw [List.getElem?_map] at h
    cases e : (sortI m)[i]? with
    | none => rw [e] at h; cases h
    | some x => rw [e] at h; cases h; exact ⟨x, sortI_mem.mp (List.mem_of_getElem? e), rfl⟩
  refine v_cut (fun s => ∃ z1 z2, s = ⟨[argS (.val (.int n)), argS a, argS b, argS c, z1, z2], cs, g⟩) ?_ ?_
  · with_reducible refine v_forA ?_
    repeat' wtm_at "vl"
    · exact hks
    refine ⟨_, srt, fun i env => ∃ z1 z2, env = [argS (.val (.int n)), argS a, argS b, argS c, z1, z2], ⟨_, _, rfl⟩, fun i d env hd ⟨z1, z2, e⟩ => ?_, fun env ⟨z1, z2, e⟩ => ?_⟩
    · subst e
      obtain ⟨x, hx, rfl⟩ := get hd
      refine ⟨_, rfl, ?_⟩
      dsimp only [FS.setE, List.set]
      repeat' wtm_at "vl"
      · exact h1 x hx
      · exact ⟨⟨_, _, rfl⟩, rfl, rfl⟩
    · subst e
      exact ⟨_, rfl, _, _, rfl⟩
  intro s ⟨z1, z2, e⟩
  subst e
  refine v_cut (fun s => ∃ z1 z2, s = ⟨[argS (.val (.int n)), argS a, argS b, argS c, z1, z2], cs, g⟩) ?_ ?_
  · with_reducible refine v_forA ?_
    repeat' wtm_at "vl"
    · exact hks
    refine ⟨_, srt, fun i env => ∃ z1 z2, env = [argS (.val (.int n)), argS a, argS b, argS c, z1, z2], ⟨_, _, rfl⟩, fun i d env hd ⟨z1, z2, e⟩ => ?_, fun env ⟨z1, z2, e⟩ => ?_⟩
    · subst e
      obtain ⟨x, hx, rfl⟩ := get hd
      refine ⟨_, rfl, ?_⟩
      dsimp only [FS.setE, List.set]
      repeat' first
        | (with_reducible refine chk1_w ha (v := nx x) rfl (h2 x hx) ?_)
        | (with_unfolding_all refine chk1_w ha (v := nx x) rfl (h2 x hx) ?_)
        | wtm_at "vl"
      · exact hx
      · exact ⟨⟨_, _, rfl⟩, rfl, rfl⟩
    · subst e
      exact ⟨_, rfl, _, _, rfl⟩
  intro s ⟨z1, z2, e⟩
  subst e
  refine v_cut (fun s => ∃ z1 z2, s = ⟨[argS (.val (.int n)), argS a, argS b, argS c, z1, z2], cs, g⟩) ?_ ?_
  · with_reducible refine v_forA ?_
    repeat' wtm_at "vl"
    · exact hkb
    refine ⟨_, srt, fun i env => ∃ z1 z2, env = [argS (.val (.int n)), argS a, argS b, argS c, z1, z2], ⟨_, _, rfl⟩, fun i d env hd ⟨z1, z2, e⟩ => ?_, fun env ⟨z1, z2, e⟩ => ?_⟩
    · subst e
      obtain ⟨x, hx, rfl⟩ := get hd
      obtain ⟨hxk, v, hv, hvk⟩ := h3 x hx
      refine ⟨_, rfl, ?_⟩
      dsimp only [FS.setE, List.set]
      repeat' first
        | (with_reducible refine' c_ixdE ?kk0 hx hv ?_; (case kk0 => exact Hold.cont hb))
        | (with_reducible refine chk2_w ha hxk hvk ?_)
        | wtm_at "vl"
      · exact ⟨⟨_, _, rfl⟩, rfl, rfl⟩
    · subst e
      exact ⟨_, rfl, _, _, rfl⟩
  intro s ⟨z1, z2, e⟩
  subst e
  with_reducible refine v_forA ?_
  repeat' wtm_at "vl"
  refine ⟨_, .inr (.inr hc), fun i env => ∃ z1 z2, env = [argS (.val (.int n)), argS a, argS b, argS c, z1, z2], ⟨_, _, rfl⟩, fun i d env hd ⟨z1, z2, e⟩ => ?_, fun env ⟨z1, z2, e⟩ => ?_⟩
  · subst e
    rw [List.getElem?_map] at hd
    cases e : ls[i]? with
    | none => rw [e] at hd; cases hd
    | some l =>
      rw [e] at hd; cases hd
      have hl := h4 l (List.mem_of_getElem? e)
      refine ⟨_, rfl, ?_⟩
      dsimp only [FS.setE, List.set]
      repeat' first
        | (with_reducible refine' chkT_w ha hl ?_)
        | wtm_at "vl"
      exact ⟨⟨_, _, rfl⟩, rfl, rfl⟩
  · subst e
    repeat' wtm_at "vl"
    exact q
theorem ninit_w {n : Int} {ks kb : List Int} {nx : Int → Int} {bf : Int → Option Int} {ls : List Lt} {k : Nat} {g : List Inst} {Q X}
    (hg : g[k]? = some ⟨Str.ofString "Net", [], []⟩) (hks : ks.length < 64) (hnd : ks.Nodup) (hkb : kb.length < 64)
    (h1 : ∀ h ∈ ks, 0 ≤ h ∧ h < n) (h2 : ∀ h ∈ ks, nx h ∈ ks) (h3 : ∀ h ∈ kb, h ∈ ks ∧ ∃ v, bf h = some v ∧ v ∈ ks) (h4 : ∀ l ∈ ls, ∀ p ∈ l.ps, p ∈ ks)
    (q : Q (.val .non) [.dct (fT ks (nxF nx)), .dct (fT kb (bfF bf)), .lst (ls.map Lt.d)] (g.set k (netI ⟨n, ks, nx, fun h => if h ∈ kb then bf h else none, ls⟩))) :
    wpD (d_Net___init__ [.val (.ins k), .val (.int n), .pc 0, .pc 1, .pc 2] [.dct (fT ks (nxF nx)), .dct (fT kb (bfF bf)), .lst (ls.map Lt.d)] g) Q X := by
  refine v_den rfl ?_
  unfold b_Net___init__
  simp only [List.map_cons, List.map_nil, List.replicate, argS, List.cons_append, List.nil_append]
  have hz : sizeLine = 16777216 := rfl
  have h3' : ∀ h ∈ kb, h ∈ ks ∧ ∃ v, bfF bf h = .int v ∧ v ∈ ks := fun h hh => by
    obtain ⟨a, v, b, c⟩ := h3 h hh
    exact ⟨a, v, by unfold bfF; rw [b]; rfl, c⟩
  have hF : (fun h => if h ∈ kb then bfF bf h else D.non) = bfF (fun h => if h ∈ kb then bf h else none) := by
    funext h; by_cases e : h ∈ kb <;> simp [bfF, e, optD]
  repeat' first
    | (with_reducible refine ctables_w (Hold.pc rfl) (Hold.pc rfl) (Hold.pc rfl) hks hkb h1 h2 h3' h4 ?_)
    | wtm_at "vl"
  with_reducible refine w_dcT ks (fun _ => true) (bfF (fun h => if h ∈ kb then bf h else none)) ?_
  with_reducible refine w_any2K ?_
  repeat' wtm_at "vl"
  refine ⟨_, rfl, rfl, (fun _ z => nomatch z), _, rfl, fT_kD, by omega, hnd, ⟨trivial, rfl⟩, fun x hx => ?_, ?_⟩
  · refine ⟨_, rfl, ?_⟩
    dsimp only [FS.setE, List.set, wipeE, lockV]
    repeat' wtm_at "vl"
    refine ⟨rfl, fun _ => ?_, fun z => nomatch z⟩
    repeat' wtm_at "vl"
    refine ⟨rfl, ?_⟩
    repeat' wtm_at "vl"
    have e := congrFun hF x
    rw [← e]
    exact ⟨_, rfl, rfl⟩
  · rw [List.filter_eq_self.mpr (fun _ _ => rfl)]
    show wp (eVar 0 ⟨[.val (.ins k), .val (.int n), .pc 0, .pc 1, .pc 2, .pc 1, .pc 2, .no], [.dct (fT ks (nxF nx)), .dct (fT kb (bfF bf)), .lst (ls.map Lt.d)], g.set k ⟨Str.ofString "Net", putG (Str.ofString "_nexts") (.cell 0) (putG (Str.ofString "size") (.val (.int n)) []), [.dct (fT ks (nxF nx))]⟩⟩) _ _
    repeat' wtm_at "vl"
    exact q
end VL
set_option maxRecDepth 100000
set_option maxHeartbeats 4000000
namespace VL
open PySem PySem.Spec L2
open PyProof.Rows hiding St
/-- behind one round of a loop -/
def lpK (J : FS → Prop) (Q : SRes → Prop) : SRes → Prop := fun r => match r with
  | .next s => J s
  | .cont s => J s
  | .brk s => Q (.next s)
  | .ret r s => Q (.ret r s)
  | .exc e s => Q (.exc e s)
  | .stuck => False
theorem lp_next {J : FS → Prop} {Q : SRes → Prop} {s : FS} (h : J s) : lpK J Q (.next s) := h
theorem lp_cont {J : FS → Prop} {Q : SRes → Prop} {s : FS} (h : J s) : lpK J Q (.cont s) := h
theorem lp_brk {J : FS → Prop} {Q : SRes → Prop} {s : FS} (h : Q (.next s)) : lpK J Q (.brk s) := h
theorem lp_ret {J : FS → Prop} {Q : SRes → Prop} {r : R} {s : FS} (h : Q (.ret r s)) : lpK J Q (.ret r s) := h
theorem lpK_loop {J : FS → Prop} {Q : SRes → Prop} {I : Nat → FS → Prop} {i : Nat} (h : ∀ s, J s → I (i + 1) s) {r : SRes} (x : lpK J Q r) : loopK I i (fun s => s) (fun s => s) Q r := by
  cases r with
  | next s => exact h s x
  | cont s => exact h s x
  | _ => exact x
theorem v_forL {α : Type} {Q : SRes → Prop} {s : FS} {f : M R} {gT : D → FS → Option FS} {body : SM} (enc : α → D)
    (h : wp (f s) (fun r s1 => ∃ ys : List α, (r = .tmp (.lst (ys.map enc)) ∨ r = .val (.tup (ys.map enc)) ∨ r = .val (.frz (ys.map enc))) ∧ ∃ I : List α → FS → Prop, I [] s1 ∧
    (∀ dn y td, ys = dn ++ y :: td → ∀ s, I dn s → ∃ s2, gT (enc y) s = some s2 ∧ wpS (body s2) (lpK (I (dn ++ [y])) Q)) ∧
    (∀ s, I ys s → Q (.next s))) (fun e s => Q (.exc e s))) : wpS (sFor (iAny f) gT body s) Q := by
  refine v_for (w_any (wp_mono h fun r s1 ⟨ys, hr, I, h0, hb, he⟩ => ?_))
  have gen : ∃ I' : Nat → FS → Prop, I' 0 s1 ∧ (∀ i d s, (ys.map enc)[i]? = some d → I' i s → True ∧ ∃ s2, gT d s = some s2 ∧ wpS (body s2) (loopK I' i (fun s => s) (fun s => s) Q)) ∧ (∀ s, I' (ys.map enc).length s → True ∧ Q (.next s)) := by
    refine ⟨fun i s => I (ys.take i) s, by show I (ys.take 0) s1; rw [List.take_zero]; exact h0, fun i d s hd hi => ⟨trivial, ?_⟩, fun s hi => ⟨trivial, he s (by rw [List.length_map, List.take_length] at hi; exact hi)⟩⟩
    rw [List.getElem?_map] at hd
    cases e : ys[i]? with
    | none => rw [e] at hd; cases hd
    | some y =>
      rw [e] at hd; cases hd
      have hdec : ys = ys.take i ++ y :: ys.drop (i + 1) := by
        have h1 : ys.drop i = y :: ys.drop (i + 1) := by
          obtain ⟨hl, e⟩ := List.getElem?_eq_some_iff.mp e
          rw [List.drop_eq_getElem_cons hl, e]
        rw [← h1, List.take_append_drop]
      obtain ⟨s2, e2, w⟩ := hb _ _ _ hdec s hi
      refine ⟨s2, e2, wpS_mono w fun r hr => lpK_loop (fun s hs => ?_) hr⟩
      have ht : ys.take (i + 1) = ys.take i ++ [y] := by rw [List.take_add_one, e]; rfl
      show I (ys.take (i + 1)) s
      rw [ht]; exact hs
  rcases hr with rfl | rfl | rfl
  · exact gen
  · exact gen
  · exact gen
/-- the same over range(n) -/
theorem v_forR {Q : SRes → Prop} {s : FS} {f : M (List R)} {gT : D → FS → Option FS} {body : SM}
    (h : wp (f s) (fun rs s1 => ∃ n : Int, rs = [.val (.int n)] ∧ (-(2 ^ 62) ≤ n ∧ n < 2 ^ 62) ∧ ∃ I : Nat → FS → Prop, I 0 s1 ∧
    (∀ i : Nat, (i : Int) < n → ∀ s, I i s → ∃ s2, gT (.int (i : Int)) s = some s2 ∧ wpS (body s2) (lpK (I (i + 1)) Q)) ∧
    (∀ s, I n.toNat s → Q (.next s))) (fun e s => Q (.exc e s))) : wpS (sFor (iR1 f) gT body s) Q := by
  refine v_for (w_r1 (wp_mono h fun rs s1 ⟨n, hr, h1, I, h0, hb, he⟩ => ?_))
  refine ⟨n, hr, h1, I, h0, fun i d s hd hi => ⟨trivial, ?_⟩, fun s hi => ⟨trivial, he s (by rw [rgD_len] at hi; exact hi)⟩⟩
  obtain ⟨hlt, rfl⟩ := rgD_get hd
  obtain ⟨s2, e2, w⟩ := hb i (by omega) s hi
  exact ⟨s2, by rw [Int.zero_add]; exact e2, wpS_mono w fun r hr => lpK_loop (fun s hs => hs) hr⟩
theorem pds_ints : ∀ {xs : List Int}, D.pds (xs.map D.int) = some (xs.map PyData.int)
  | [] => rfl
  | x :: xs => by
    have h := pds_ints (xs := xs)
    simp only [List.map_cons, D.pds, D.pd, h]
theorem canLay_ints : ∀ {xs : List Int}, PyData.canLayAll0 (xs.map PyData.int) = true
  | [] => by simp [PyData.canLayAll0]
  | x :: xs => by simp only [List.map_cons, PyData.canLayAll0, PyData.canLay0, canLay_ints, Bool.and_self]
theorem depth_ints : ∀ {xs : List Int}, PyData.depthAll (xs.map PyData.int) = 0
  | [] => by simp [PyData.depthAll]
  | x :: xs => by simp only [List.map_cons, PyData.depthAll, PyData.depth, depth_ints, Nat.max_self]
theorem shaped_ints {xs : List Int} : SeqAt.shaped (.list (xs.map PyData.int)) = true := by
  unfold SeqAt.shaped
  simp only [PyData.canLay0, canLay_ints, PyData.depth, depth_ints, Bool.true_and]
  decide
theorem eqv_ints : ∀ {xs ys : List Int}, PyData.eqvAll (xs.map PyData.int) (ys.map PyData.int) = decide (xs = ys)
  | [], [] => by simp [PyData.eqvAll]
  | [], y :: ys => by simp [PyData.eqvAll]
  | x :: xs, [] => by simp [PyData.eqvAll]
  | x :: xs, y :: ys => by
    simp only [List.map_cons, PyData.eqvAll, PyData.eqv, eqv_ints]
    by_cases h : x = y <;> by_cases h2 : xs = ys <;> simp [h, h2]
theorem eqSc_l {s : FS} {a b : R} {xs : List D} (h : seqL s a = some xs) : eqSc a b = none := by
  have hc := cont_of_seqL h
  cases a with
  | val d =>
    cases d with
    | lst ys => cases b with
      | val e => cases e <;> rfl
      | _ => rfl
    | ins k => cases b with
      | val e => cases e <;> rfl
      | _ => rfl
    | _ => cases hc
  | _ => rfl
theorem rPd_l {s : FS} {a : R} {xs : List Int} (h : seqL s a = some (xs.map D.int)) (hb : ∀ k, a ≠ .val (.ins k)) : rPd s a = some (.list (xs.map PyData.int)) := by
  have hc := cont_of_seqL h
  cases a with
  | val d =>
    cases d with
    | lst ys =>
      have e : ys = xs.map D.int := by cases hc; rfl
      subst e
      show D.pd _ = _
      unfold D.pd; rw [pds_ints]; rfl
    | ins k => exact absurd rfl (hb k)
    | _ => cases hc
  | _ => unfold rPd; simp only [h, pds_ints]; rfl
theorem w_eqL {Q : R → FS → Prop} {X : Ex → FS → Prop} {s : FS} {a b : R} {neg : Bool} {xs ys : List Int} (h1 : seqL s a = some (xs.map D.int)) (h2 : seqL s b = some (ys.map D.int)) (ha : ∀ k, a ≠ .val (.ins k)) (hb : ∀ k, b ≠ .val (.ins k))
    (q : Q (.val (.bl (decide (xs = ys) ^^ neg))) s) : wp (kEqN neg a b s) Q X := by
  unfold kEqN
  rw [eqSc_l h1, rPd_l h1 ha, rPd_l h2 hb]
  simp only [shaped_ints, and_self, if_true]
  show Q (.val (.bl (PyData.eqv (.list _) (.list _) ^^ neg))) s
  rw [show PyData.eqv (.list (xs.map PyData.int)) (.list (ys.map PyData.int)) = decide (xs = ys) from eqv_ints]
  exact q
theorem same_vv {d e : D} {cs : List C} {g : List Inst} {Q : R → List C → List Inst → Prop} {X : Ex → List C → List Inst → Prop} (h : okD 12 d) (e1 : d = e) (q : Q (.val (.bl true)) cs g) : wpD (d__law_same [.val d, .val e] cs g) Q X := by
  subst e1; exact same_d h rfl rfl q
theorem same_01 {c0 c1 : C} {d : D} {cs : List C} {g : List Inst} {Q : R → List C → List Inst → Prop} {X : Ex → List C → List Inst → Prop} (e0 : rdC c0 = some d) (e1 : rdC c1 = some d) (h : okD 12 d) (q : Q (.val (.bl true)) (c0 :: c1 :: cs) g) : wpD (d__law_same [.pc 0, .pc 1] (c0 :: c1 :: cs) g) Q X :=
  same_d h e0 e1 q
theorem same_v0 {c0 : C} {d : D} {cs : List C} {g : List Inst} {Q : R → List C → List Inst → Prop} {X : Ex → List C → List Inst → Prop} (e0 : rdC c0 = some d) (h : okD 12 d) (q : Q (.val (.bl true)) (c0 :: cs) g) : wpD (d__law_same [.val d, .pc 0] (c0 :: cs) g) Q X :=
  same_d h rfl e0 q
theorem same_0v {c0 : C} {d : D} {cs : List C} {g : List Inst} {Q : R → List C → List Inst → Prop} {X : Ex → List C → List Inst → Prop} (e0 : rdC c0 = some d) (h : okD 12 d) (q : Q (.val (.bl true)) (c0 :: cs) g) : wpD (d__law_same [.pc 0, .val d] (c0 :: cs) g) Q X :=
  same_d h e0 rfl q
theorem okD_opt {n : Nat} {o : Option Int} : okD (n + 1) (optD o) := by cases o <;> trivial
theorem okD_lst {α : Type} {n : Nat} {f : α → D} {xs : List α} (h : xs.length ≤ 100000) (hx : ∀ x ∈ xs, okD n (f x)) : okD (n + 1) (.lst (xs.map f)) := by
  refine ⟨by rw [List.length_map]; exact Nat.le_trans h (by decide), fun x hx' => ?_⟩
  obtain ⟨y, hy, rfl⟩ := List.mem_map.mp hx'
  exact hx y hy
theorem okD_tup {n : Nat} {xs : List D} (h : Nat.ble xs.length 64 = true) (hx : ∀ x ∈ xs, okD n x) : okD (n + 1) (.tup xs) := ⟨Nat.le_trans (Nat.le_of_ble_eq_true h) (by decide), hx⟩
theorem okD_lt {n : Nat} (l : Lt) : okD (n + 2) l.d := by
  cases l <;> (refine okD_tup rfl fun x hx => ?_) <;> (simp only [List.mem_cons, List.not_mem_nil, or_false] at hx) <;> (rcases hx with rfl | rfl | rfl | rfl) <;> trivial
theorem okD_fT {n : Nat} {ks : List Int} {f : Int → D} (h : ks.length ≤ 100000) (hf : ∀ k ∈ ks, okD (n + 1) (f k)) : okD (n + 4) (.dct (fT ks f)) := by
  show okD (n + 3) (.lst ((fT ks f).map itD))
  rw [fT_itD]
  refine okD_lst h fun k hk => okD_tup rfl fun x hx => ?_
  simp only [List.mem_cons, List.not_mem_nil, or_false] at hx
  rcases hx with rfl | rfl
  · trivial
  · exact hf k hk
theorem sortI_idem {ns : List Int} : sortI (sortI ns) = sortI ns := (sortI_uniq (List.Perm.refl _) (sortI_sorted ns)).symm
theorem sortI_congr {ns ms : List Int} (h : ns.Perm ms) : sortI ns = sortI ms := sortI_uniq ((sortI_perm ns).trans h) (sortI_sorted ns)
theorem nodup_le {α : Type} [BEq α] [LawfulBEq α] : ∀ {a b : List α}, a.Nodup → (∀ x ∈ a, x ∈ b) → a.length ≤ b.length
  | [], b, _, _ => Nat.zero_le _
  | x :: xs, b, h1, h2 => by
    obtain ⟨h3, h4⟩ := List.nodup_cons.mp h1
    have hx := h2 x List.mem_cons_self
    have := nodup_le (a := xs) (b := b.erase x) h4 fun y hy => (List.mem_erase_of_ne (by rintro rfl; exact h3 hy)).mpr (h2 y (List.mem_cons_of_mem _ hy))
    rw [List.length_erase_of_mem hx] at this
    have hp := List.length_pos_of_mem hx
    rw [List.length_cons]; omega
section
variable {Q : R → FS → Prop} {X : Ex → FS → Prop} {s : FS}
theorem c_get1E {a : R} {ks : List Int} {f : Int → D} {h : Int} {d : D} (hc : cont s a = some (.dct (fT ks f))) (e : (if h ∈ ks then f h else .non) = d) (q : Q (.val d) s) : wp (kGet1 a (.val (.int h)) s) Q X := by
  subst e; exact c_get1 hc q
theorem c_inY {a : R} {ks : List Int} {f : Int → D} {h : Int} {neg : Bool} (hc : cont s a = some (.dct (fT ks f))) (hm : h ∈ ks) (q : Q (.val (.bl (!neg))) s) : wp (kIn neg (.val (.int h)) a s) Q X := by
  refine c_in hc ?_
  rw [decide_eq_true hm, Bool.true_xor]; exact q
theorem c_inN {a : R} {ks : List Int} {f : Int → D} {h : Int} {neg : Bool} (hc : cont s a = some (.dct (fT ks f))) (hm : h ∉ ks) (q : Q (.val (.bl neg)) s) : wp (kIn neg (.val (.int h)) a s) Q X := by
  refine c_in hc ?_
  rw [decide_eq_false hm, Bool.false_xor]; exact q
end
theorem c_setdN {v o : R} {h : Int} {s s4 s5 : FS} {d : D} {ks : List Int} {f : Int → D} {P : FS → Prop} (h1 : frzR v s = some (d, s4)) (hc : cont s4 o = some (.dct (fT ks f))) (hm : h ∉ ks) (hl : ks.length < sizeLine) (hp : put s4 o (.dct (fT (ks ++ [h]) (upd1 f h d))) = some s5) (q : P s5) :
    ∃ d s4 s5, frzR v s = some (d, s4) ∧ setItem o (.val (.int h)) d s4 = some s5 ∧ P s5 := c_setd h1 hc hl (by rw [fT_put_new hm]; exact hp) q
/-- r holds the dict; sL is the state with it locked -/
inductive Lk (s : FS) (kvs : List (Key × D)) : R → FS → Prop
  | var {i : Nat} : s.env[i]? = some (.own (.dct kvs)) → Lk s kvs (.var i) (s.setE i (.lck (.lkd kvs)))
  | pc {n : Nat} : s.pcs[n]? = some (.dct kvs) → Lk s kvs (.pc n) ⟨s.env, s.pcs.set n (.lkd kvs), s.g⟩
  | ic {k j : Nat} {I : Inst} : s.g[k]? = some I → I.cells[j]? = some (.dct kvs) → Lk s kvs (.ic k j) ⟨s.env, s.pcs, s.g.set k ⟨I.cls, I.fs, I.cells.set j (.lkd kvs)⟩⟩
  | box {k : Nat} : s.g[k]? = some (boxI (.dct kvs)) → Lk s kvs (.val (.ins k)) ⟨s.env, s.pcs, s.g.set k (boxI (.lkd kvs))⟩
theorem set_back {α : Type} {l : List α} {i : Nat} {a b : α} (h : l[i]? = some a) : (l.set i b).set i a = l := by
  obtain ⟨h1, h2⟩ := List.getElem?_eq_some_iff.mp h
  rw [List.set_set, ← h2, List.set_getElem_self]
theorem get_set {α : Type} {l : List α} {i : Nat} {a b : α} (h : l[i]? = some a) : (l.set i b)[i]? = some b := by
  obtain ⟨h1, _⟩ := List.getElem?_eq_some_iff.mp h
  exact List.getElem?_set_self h1
theorem Lk.cont {s sL : FS} {kvs : List (Key × D)} {r : R} (h : Lk s kvs r sL) : VL.cont s r = some (.dct kvs) := by
  cases h with
  | var h => simp only [VL.cont, h]
  | pc h => exact h
  | ic h1 h2 => exact cont_ic h1 h2
  | box h => exact cont_box h
theorem Lk.spec {s sL : FS} {kvs : List (Key × D)} {r : R} (h : Lk s kvs r sL) : isTmp r = false ∧ (∀ d, r ≠ .val (.dct d)) ∧ ∃ s2, put s r (.lkd kvs) = some s2 ∧ lockV r s2 = sL ∧ unlockD r s2 sL = s := by
  have hc := h.cont
  cases h with
  | @var i h =>
    refine ⟨rfl, (fun _ z => nomatch z), s.setE i (.own (.lkd kvs)), ?_, ?_, ?_⟩
    · unfold put; rw [hc]; simp only [put0, h]
    · have e : (s.setE i (.own (.lkd kvs))).env[i]? = some (.own (.lkd kvs)) := get_set h
      simp only [lockV, e]
      show (⟨(s.env.set i _).set i _, s.pcs, s.g⟩ : FS) = ⟨s.env.set i _, s.pcs, s.g⟩
      rw [List.set_set]
    · have e : (s.setE i (.lck (.lkd kvs))).env[i]? = some (.lck (.lkd kvs)) := get_set h
      simp only [unlockD, e]
      show (⟨(s.env.set i _).set i _, s.pcs, s.g⟩ : FS) = s
      rw [set_back h]
  | @pc n h =>
    refine ⟨rfl, (fun _ z => nomatch z), ⟨s.env, s.pcs.set n (.lkd kvs), s.g⟩, ?_, rfl, ?_⟩
    · unfold put; rw [hc]; rfl
    · have e : VL.cont ⟨s.env, s.pcs.set n (.lkd kvs), s.g⟩ (.pc n) = some (.lkd kvs) := get_set h
      simp only [unlockD, e, put0, Option.getD_some]
      rw [set_back h]
  | @ic k j I h1 h2 =>
    refine ⟨rfl, (fun _ z => nomatch z), _, put_ic h1 h2 (fun _ z => nomatch z), rfl, ?_⟩
    have e1 : (s.g.set k ⟨I.cls, I.fs, I.cells.set j (.lkd kvs)⟩)[k]? = some ⟨I.cls, I.fs, I.cells.set j (.lkd kvs)⟩ := get_set h1
    have e : VL.cont ⟨s.env, s.pcs, s.g.set k ⟨I.cls, I.fs, I.cells.set j (.lkd kvs)⟩⟩ (.ic k j) = some (.lkd kvs) := cont_ic e1 (get_set h2)
    simp only [unlockD, e, put0, e1, Option.getD_some]
    rw [set_back h2]
    show (⟨s.env, s.pcs, (s.g.set k _).set k I⟩ : FS) = s
    rw [set_back h1]
  | @box k h =>
    refine ⟨rfl, (fun _ z => nomatch z), _, put_box h (fun _ z => nomatch z), rfl, ?_⟩
    have e1 : (s.g.set k (boxI (.lkd kvs)))[k]? = some (boxI (.lkd kvs)) := get_set h
    have e : VL.cont ⟨s.env, s.pcs, s.g.set k (boxI (.lkd kvs))⟩ (.val (.ins k)) = some (.lkd kvs) := cont_box e1
    simp only [unlockD, e, put0, e1, Option.getD_some]
    show (⟨s.env, s.pcs, (s.g.set k _).set k (boxI (.dct kvs))⟩ : FS) = s
    rw [set_back h]
theorem w_any2G {X : Ex → FS → Prop} {s : FS} {f : M R} {Q : Lp → FS → Prop} (h : wp (f s) (fun r s1 => ∃ kvs sL, Lk s1 kvs r sL ∧ ∀ lp : Lp, lp.xs = kvs.map (fun p => kD p.1) → (∀ s, lp.chk s) → lp.en s1 = sL → lp.ex sL = s1 → Q lp s1) X) : wp (iAny2 f s) Q X :=
  w_any2K (wp_mono h fun r s1 ⟨kvs, sL, hl, q⟩ => by
    obtain ⟨h1, h2, s2, h3, h4, h5⟩ := hl.spec
    exact ⟨kvs, hl.cont, h1, h2, s2, h3, q { xs := kvs.map fun p => kD p.1, en := fun _ => lockV r s2, ex := unlockD r s2, exx := unlockV r s2 } rfl (fun _ => trivial) h4 h5⟩)
/-- {x: F x for x in d if p x} -/
theorem w_dcK {Q : R → FS → Prop} {X : Ex → FS → Prop} {s : FS} {f : M R} {own : List Nat} {g : D → FS → Option FS} {t : M Bool} {ek e : M R} (ks : List Int) (p : Int → Bool) (F : Int → D)
    (h : wp (f s) (fun r s1 => ∃ f0 sL, Lk s1 (fT ks f0) r sL ∧ ks.length ≤ sizeLine ∧ ks.Nodup ∧ ownOk own sL = true ∧
    (∀ x ∈ ks, ∃ s2, g (.int x) (wipeE own sL) = some s2 ∧ wp (t s2) (fun b s3 => b = p x ∧ (b = true → wp (ek s3) (fun rk s4 => rk = .val (.int x) ∧ wp (e s4) (fun r s5 => ∃ s6, frzR r s5 = some (F x, s6) ∧ restE own sL s6 = sL) XN) XN) ∧ (b = false → restE own sL s3 = sL)) XN) ∧
    Q (.tmp (.dct (fT (ks.filter p) F))) s1) X) : wp (eDc (iAny2 f) own g t ek e s) Q X :=
  w_dcT ks p F (w_any2G (wp_mono h fun r s1 ⟨f0, sL, hl, h1, h2, h3, h4, q⟩ => ⟨_, sL, hl, fun lp e1 e2 e3 e4 => ⟨by rw [e1, fT_kD], h1, h2, ⟨e2 _, by rw [e3]; exact h3⟩, by rw [e3]; exact h4, by rw [e3, e4]; exact q⟩⟩))
/-- [φ x for x in d] -/
theorem w_lcK {Q : R → FS → Prop} {X : Ex → FS → Prop} {s : FS} {f : M R} {own : List Nat} {g : D → FS → Option FS} {t : M Bool} {e : M R} (ks : List Int) (φ : Int → Option D)
    (h : wp (f s) (fun r s1 => ∃ f0 sL, Lk s1 (fT ks f0) r sL ∧ ks.length ≤ sizeLine ∧ ownOk own sL = true ∧
    (∀ x ∈ ks, ∃ s2, g (.int x) (wipeE own sL) = some s2 ∧ wp (t s2) (fun b s3 => (b = true → wp (e s3) (fun r s4 => ∃ dd s5, frzR r s4 = some (dd, s5) ∧ φ x = some dd ∧ restE own sL s5 = sL) XN) ∧ (b = false → φ x = none ∧ restE own sL s3 = sL)) XN) ∧
    Q (.tmp (.lst (ks.filterMap φ))) s1) X) : wp (eLc (iAny2 f) own g t e s) Q X :=
  w_lc_map (fun d => match d with | .int x => φ x | _ => none) (w_any2G (wp_mono h fun r s1 ⟨f0, sL, hl, h1, h3, h4, q⟩ => ⟨_, sL, hl, fun lp e1 e2 e3 e4 => by
    have ex : lp.xs = ks.map D.int := by rw [e1, fT_kD]
    refine ⟨by rw [ex, List.length_map]; exact h1, ⟨e2 _, by rw [e3]; exact h3⟩, ?_, ?_⟩
    · rw [e3]
      intro d hd
      rw [ex] at hd
      obtain ⟨x, hx, rfl⟩ := List.mem_map.mp hd
      exact h4 x hx
    · rw [e3, e4, ex, List.filterMap_map]; exact q⟩))
/-- [φ x for x in xs], xs a new list of ints -/
theorem w_lcL {α : Type} {Q : R → FS → Prop} {X : Ex → FS → Prop} {s : FS} {f : M R} {own : List Nat} {g : D → FS → Option FS} {t : M Bool} {e : M R} (enc : α → D) (φ : α → Option D)
    (h : wp (f s) (fun r s1 => ∃ ys : List α, (r = .tmp (.lst (ys.map enc)) ∨ r = .val (.tup (ys.map enc)) ∨ r = .val (.frz (ys.map enc))) ∧ ys.length ≤ sizeLine ∧ ownOk own s1 = true ∧
    (∀ x ∈ ys, ∃ s2, g (enc x) (wipeE own s1) = some s2 ∧ wp (t s2) (fun b s3 => (b = true → wp (e s3) (fun r s4 => ∃ dd s5, frzR r s4 = some (dd, s5) ∧ φ x = some dd ∧ restE own s1 s5 = s1) XN) ∧ (b = false → φ x = none ∧ restE own s1 s3 = s1)) XN) ∧
    Q (.tmp (.lst (ys.filterMap φ))) s1) X) : wp (eLc (iAny f) own g t e s) Q X := by
  refine w_lc (w_any (wp_mono h fun r s1 ⟨ys, hr, h1, h3, h4, q⟩ => ?_))
  have gen : ((ys.map enc).length ≤ sizeLine ∧ ∃ I : Nat → List D → FS → Prop, I 0 [] s1 ∧
    (∀ i d acc s, (ys.map enc)[i]? = some d → I i acc s → (True ∧ ownOk own s = true) ∧ ∃ s1, g d (wipeE own s) = some s1 ∧ wp (t s1) (fun b s2 => (b = true → wp (e s2) (fun r s3 => ∃ dd s4, frzR r s3 = some (dd, s4) ∧ I (i + 1) (acc ++ [dd]) (restE own s s4)) XN) ∧ (b = false → I (i + 1) acc (restE own s s2))) XN) ∧
    (∀ acc s, I (ys.map enc).length acc s → True ∧ Q (.tmp (.lst acc)) s)) := by
    refine ⟨by rw [List.length_map]; exact h1, fun i acc s => s = s1 ∧ acc = (ys.take i).filterMap φ, ⟨rfl, rfl⟩, ?_, ?_⟩
    · intro i d acc s hd ⟨es, ea⟩
      subst es; subst ea
      rw [List.getElem?_map] at hd
      cases e : ys[i]? with
      | none => rw [e] at hd; cases hd
      | some y =>
        rw [e] at hd; cases hd
        obtain ⟨s2, e2, w⟩ := h4 y (List.mem_of_getElem? e)
        have ht : ys.take (i + 1) = ys.take i ++ [y] := by rw [List.take_add_one, e]; rfl
        refine ⟨⟨trivial, h3⟩, s2, e2, wp_mono w fun b s3 hb => ⟨fun z => wp_mono (hb.1 z) fun r s4 ⟨dd, s5, a1, a2, a3⟩ => ⟨dd, s5, a1, a3, ?_⟩, fun z => ⟨(hb.2 z).2, ?_⟩⟩⟩
        · rw [ht, List.filterMap_append]; simp [a2]
        · rw [ht, List.filterMap_append]; simp [(hb.2 z).1]
    · intro acc s ⟨es, ea⟩
      subst es; subst ea
      rw [List.length_map, List.take_length]
      exact ⟨trivial, q⟩
  rcases hr with rfl | rfl | rfl
  · exact gen
  · exact gen
  · exact gen
/-- {..} with a plain value for each key: the new list of ints -/
theorem w_lcKi {Q : R → FS → Prop} {X : Ex → FS → Prop} {s : FS} {f : M R} {own : List Nat} {g : D → FS → Option FS} {e : M R} (ks : List Int) (ψ : Int → Int)
    (h : wp (f s) (fun r s1 => ∃ f0 sL, Lk s1 (fT ks f0) r sL ∧ ks.length ≤ sizeLine ∧ ownOk own sL = true ∧
    (∀ x ∈ ks, ∃ s2, g (.int x) (wipeE own sL) = some s2 ∧ wp (e s2) (fun r s4 => r = .val (.int (ψ x)) ∧ restE own sL s4 = sL) XN) ∧
    Q (.tmp (.lst ((ks.map ψ).map D.int))) s1) X) : wp (eLc (iAny2 f) own g mYes e s) Q X :=
  w_lcK ks (fun x => some (.int (ψ x))) (wp_mono h fun r s1 ⟨f0, sL, hl, h1, h3, h4, q⟩ => ⟨f0, sL, hl, h1, h3, fun x hx => by
    obtain ⟨s2, e2, w⟩ := h4 x hx
    exact ⟨s2, e2, w_yes ⟨fun _ => wp_mono w fun r s4 ⟨e5, e6⟩ => by subst e5; exact ⟨_, _, rfl, rfl, e6⟩, fun z => nomatch z⟩⟩, by
    rw [List.map_map] at q
    rw [show ks.filterMap (fun x => some (D.int (ψ x))) = ks.map (D.int ∘ ψ) from by rw [List.filterMap_eq_map']; rfl]
    exact q⟩)
theorem v_forP {α : Type} {Q : SRes → Prop} {s : FS} {f : M R} {gT : D → FS → Option FS} {body : SM} (enc : α → D)
    (h : wp (f s) (fun r s1 => ∃ ys : List α, (isArg r ∧ cont s1 r = some (.lst (ys.map enc))) ∧ ∃ I : List α → FS → Prop, I [] s1 ∧ (∀ dn s, I dn s → cont s r = some (.lst (ys.map enc))) ∧
    (∀ dn y td, ys = dn ++ y :: td → ∀ s, I dn s → ∃ s2, gT (enc y) s = some s2 ∧ wpS (body s2) (lpK (I (dn ++ [y])) Q)) ∧
    (∀ s, I ys s → Q (.next s))) (fun e s => Q (.exc e s))) : wpS (sFor (iAny f) gT body s) Q := by
  refine v_for (w_any (wp_mono h fun r s1 ⟨ys, ⟨hr, hc⟩, I, h0, hk, hb, he⟩ => ?_))
  have gen : ∀ chk : FS → Prop, (∀ dn s, I dn s → chk s) → ∃ I' : Nat → FS → Prop, I' 0 s1 ∧ (∀ i d s, (ys.map enc)[i]? = some d → I' i s → chk s ∧ ∃ s2, gT d s = some s2 ∧ wpS (body s2) (loopK I' i (fun s => s) (fun s => s) Q)) ∧ (∀ s, I' (ys.map enc).length s → chk s ∧ Q (.next s)) := by
    intro chk hchk
    refine ⟨fun i s => I (ys.take i) s, by show I (ys.take 0) s1; rw [List.take_zero]; exact h0, fun i d s hd hi => ⟨hchk _ s hi, ?_⟩, fun s hi => ⟨hchk _ s hi, he s (by rw [List.length_map, List.take_length] at hi; exact hi)⟩⟩
    rw [List.getElem?_map] at hd
    cases e : ys[i]? with
    | none => rw [e] at hd; cases hd
    | some y =>
      rw [e] at hd; cases hd
      have hdec : ys = ys.take i ++ y :: ys.drop (i + 1) := by
        have h1 : ys.drop i = y :: ys.drop (i + 1) := by
          obtain ⟨hl, e⟩ := List.getElem?_eq_some_iff.mp e
          rw [List.drop_eq_getElem_cons hl, e]
        rw [← h1, List.take_append_drop]
      obtain ⟨s2, e2, w⟩ := hb _ _ _ hdec s hi
      refine ⟨s2, e2, wpS_mono w fun r hr => lpK_loop (fun s hs => ?_) hr⟩
      have ht : ys.take (i + 1) = ys.take i ++ [y] := by rw [List.take_add_one, e]; rfl
      show I (ys.take (i + 1)) s
      rw [ht]; exact hs
  have hs1 := seqL_of hc
  cases r with
  | tmp c => exact hr.elim
  | var i => exact hr.elim
  | pc n =>
    show match seqL s1 (.pc n) with | some xs => _ | none => False
    rw [hs1]; exact gen _ fun dn s h => seqL_of (hk dn s h)
  | ic k j =>
    show match seqL s1 (.ic k j) with | some xs => _ | none => False
    rw [hs1]; exact gen _ fun dn s h => seqL_of (hk dn s h)
  | val d =>
    cases d with
    | ins k =>
      show match seqL s1 (.val (.ins k)) with | some xs => _ | none => False
      rw [hs1]; exact gen _ fun dn s h => seqL_of (hk dn s h)
    | lst xs =>
      have e : xs = ys.map enc := by cases hc; rfl
      subst e
      exact gen (fun _ => True) fun _ _ _ => trivial
    | _ => cases hc
theorem c_ixdL {Q : R → FS → Prop} {X : Ex → FS → Prop} {s : FS} {a : R} {ks : List Int} {f : Int → D} {h : Int} (hc : cont s a = some (.lkd (fT ks f))) (hm : h ∈ ks) (q : Q (.val (f h)) s) : wp (kIx a (.val (.int h)) s) Q X := w_ixd (dctK_ofL hc) rfl (fT_val hm) q
theorem v_cutS {f g : SM} {Q : SRes → Prop} {s : FS} (P : FS → Prop) (h1 : wpS (f s) (fun r => ∃ s1, r = .next s1 ∧ P s1)) (h2 : ∀ s1, P s1 → wpS (g s1) Q) : Stop (wpS (sSeq f g s) Q) := v_cut P h1 h2
theorem v_cutRS {f g : SM} {Q : SRes → Prop} {s : FS} (P : FS → Prop) (h1 : wpS (f s) (fun r => (∃ s1, r = .next s1 ∧ P s1) ∨ (∃ d s1, r = .ret d s1 ∧ Q r))) (h2 : ∀ s1, P s1 → wpS (g s1) Q) : Stop (wpS (sSeq f g s) Q) := v_cutR P h1 h2
theorem v_goS {p : Prop} (h : p) : Stop p := h
theorem c_lenM {α : Type} {Q : R → FS → Prop} {X : Ex → FS → Prop} {s : FS} {a : R} {f : α → D} {ys : List α} (hc : cont s a = some (.lst (ys.map f))) (q : Q (.val (.int ys.length)) s) : wp (kLen a s) Q X := c_len hc (by rw [List.length_map]; exact q)
end VL
set_option maxRecDepth 100000
set_option maxHeartbeats 4000000
namespace VL
open PySem PySem.Spec L2
open PyProof.Rows hiding St
noncomputable def b__law_nexts : SM := (sSeq (sSet 2 eDict0)
  (sSeq (sSet 3 (eCB (k1 kLen) (eCons (eVar 1) eNil)))
  (sSeq (sSet 4 (eD (.int 0)))
  (sSeq (sSet 5 (eD (.int 0)))
  (sSeq (sSet 6 (eD (.int 0)))
  (sSeq (sFor (iR1 (eCons (eVar 3) eNil)) (gSet 7)
  (sSeq (sIf (eT (eB (kEqN false) (eVar 7) (eVar 5)))
  (sSeq (sSet 4 (eVar 7))
  (sSeq (sSet 5 (eVar 3))
  (sSeq (sIf (eT (eB (kEqN false) (eCall d__law_pick (eCons (eVar 0) (eCons (eD (.int 4)) eNil))) (eD (.int 0))))
  (sSet 5 (eB kAdd (eB kAdd (eVar 7) (eD (.int 1))) (eCall d__law_pick (eCons (eVar 0) (eCons (eB (kII pSub) (eVar 3) (eVar 7)) eNil)))))
  sNil)
  (sSet 6 (eB kAdd (eD (.int 1)) (eCall d__law_pick (eCons (eVar 0) (eCons (eB (kII pSub) (eVar 5) (eVar 4)) eNil))))))))
  sNil)
  (sIf (eT (eB (kII pLt) (eB (kII pSub) (eVar 7) (eVar 4)) (eB (kII pSub) (eVar 6) (eD (.int 1)))))
  (sSetIt (eVar 2) (eB kIx (eVar 1) (eVar 7)) (eB kIx (eVar 1) (eB kAdd (eVar 7) (eD (.int 1)))))
  (sIf (eT (eB (kEqN false) (eB (kII pSub) (eVar 7) (eVar 4)) (eB (kII pSub) (eVar 6) (eD (.int 1)))))
  (sSetIt (eVar 2) (eB kIx (eVar 1) (eVar 7)) (eB kIx (eVar 1) (eVar 4)))
  (sSetIt (eVar 2) (eB kIx (eVar 1) (eVar 7)) (eB kIx (eVar 1) (eB kAdd (eVar 4) (eCall d__law_pick (eCons (eVar 0) (eCons (eB (kII pSub) (eVar 7) (eVar 4)) eNil))))))))))
  (sRet (eVar 2))))))))
noncomputable def d__law_nexts : Den := mkDen 2 6 b__law_nexts
noncomputable def b__law_behinds : SM := (sSeq (sSet 2 eDict0)
  (sSeq (sFor (iAny (eVar 1)) (gSet 3)
  (sIf (eT (eB (kII pGt) (eCall d__law_pick (eCons (eVar 0) (eCons (eD (.int 3)) eNil))) (eD (.int 0))))
  (sSetIt (eVar 2) (eVar 3) (eB kIx (eVar 1) (eCall d__law_pick (eCons (eVar 0) (eCons (eCB (k1 kLen) (eCons (eVar 1) eNil)) eNil)))))
  sNil))
  (sRet (eVar 2))))
noncomputable def d__law_behinds : Den := mkDen 2 2 b__law_behinds
noncomputable def b__law_ordered : SM := (sSeq (sSet 1 eDict0)
  (sSeq (sFor (iAny (eCB (k1 kSorted) (eCons (eVar 0) eNil))) (gSet 2)
  (sIf (eT (eB (kIsN true) (eB kIx (eVar 0) (eVar 2)) (eD .non)))
  (sSetIt (eVar 1) (eVar 2) (eB kIx (eVar 0) (eVar 2)))
  sNil))
  (sRet (eVar 1))))
noncomputable def d__law_ordered : Den := mkDen 1 2 b__law_ordered
noncomputable def b__law_stands : SM := (sSeq (sIf (mNot (eT (eCall d__law_same (eCons (eMeth "Net" "nexts" d_Net_nexts [] (eVar 0) eNil) (eCons (eCall d__law_ordered (eCons (eVar 1) eNil)) eNil)))))
  (sRet (eD (.bl false)))
  sNil)
  (sRet (eAnd (eCall d__law_same (eCons (eMeth "Net" "befores" d_Net_befores [] (eVar 0) eNil) (eCons (eCall d__law_ordered (eCons (eVar 2) eNil)) eNil))) (eCall d__law_same (eCons (eMeth "Net" "letters" d_Net_letters [] (eVar 0) eNil) (eCons (eVar 3) eNil))))))
noncomputable def d__law_stands : Den := mkDen 4 0 b__law_stands
noncomputable def b__law_read : SM := (sSeq (sSet 5 (eM "list" kPopAt (eVar 3) (eCons (eVar 4) eNil)))
  (sSeq (sSet 6 (eB kIx (eVar 5) (eD (.int 1))))
  (sSeq (sSet 7 (eB kIx (eVar 5) (eD (.int 2))))
  (sSeq (sSet 8 (eDM1 kGet1 (eVar 2) (eVar 6)))
  (sSeq (sIf (eT (eB (kEqN false) (eB kIx (eVar 5) (eD (.int 0))) (eD (.str "tell"))))
  (sIf (mOr (eT (eB (kIsN false) (eVar 8) (eD .non))) (eT (eCall d__law_between (eCons (eVar 0) (eCons (eVar 8) (eCons (eVar 7) (eCons (eVar 6) eNil)))))))
  (sSeq (sSetIt (eVar 2) (eVar 6) (eVar 7))
  (sRet (eTup (eCons (eD (.str "before")) (eCons (eVar 6) (eCons (eVar 7) eNil))))))
  sNil)
  (sIf (eT (eB (kEqN false) (eB kIx (eVar 5) (eD (.int 0))) (eD (.str "ask"))))
  (sIf (eT (eB (kIsN true) (eVar 8) (eD .non)))
  (sSeq (sE (eM "list" kApp (eVar 3) (eCons (eTup (eCons (eD (.str "answer")) (eCons (eVar 7) (eCons (eVar 6) (eCons (eVar 8) eNil))))) eNil)))
  (sRet (eTup (eCons (eD (.str "wrote")) (eCons (eVar 6) (eCons (eVar 8) eNil))))))
  sNil)
  (sIf (mAnd (eT (eB (kEqN false) (eB kIx (eVar 1) (eVar 6)) (eVar 7))) (eT (eCall d__law_between (eCons (eVar 0) (eCons (eVar 6) (eCons (eB kIx (eVar 5) (eD (.int 3))) (eCons (eVar 7) eNil)))))))
  (sSeq (sSetIt (eVar 1) (eVar 6) (eB kIx (eVar 5) (eD (.int 3))))
  (sRet (eTup (eCons (eD (.str "next")) (eCons (eVar 6) (eCons (eB kIx (eVar 5) (eD (.int 3))) eNil))))))
  sNil)))
  (sRet (eTup (eCons (eD (.str "kept")) (eCons (eVar 6) (eCons (eD .non) eNil))))))))))
noncomputable def d__law_read : Den := mkDen 5 4 b__law_read
noncomputable def b_each_held_once : SM := (sSeq (sSet 1 (eMeth "Net" "nexts" d_Net_nexts [] (eVar 0) eNil))
  (sRet (eB (kEqN false) (eCB (k1 kSorted) (eCons (eLc (iAny2 (eVar 1)) [2] (gSet 2) mYes (eB kIx (eVar 1) (eVar 2))) eNil)) (eCB (k1 kSorted) (eCons (eVar 1) eNil)))))
noncomputable def d_each_held_once : Den := mkDen 1 2 b_each_held_once
noncomputable def b__law_held : SM := (sSeq (sSet 2 (eCB (k1 kSorted) (eCons (eLc (iAny2 (eVar 1)) [3] (gSet 3) mYes (eB kIx (eVar 1) (eVar 3))) eNil)))
  (sRet (eCall d__law_same (eCons (eCall d_each_held_once (eCons (eVar 0) eNil)) (eCons (eB (kEqN false) (eVar 2) (eCB (k1 kSorted) (eCons (eVar 1) eNil))) eNil)))))
noncomputable def d__law_held : Den := mkDen 2 2 b__law_held
noncomputable def b__law_letter : SM := (sSeq (sSet 2 (eB kIx (eVar 1) (eCall d__law_pick (eCons (eVar 0) (eCons (eCB (k1 kLen) (eCons (eVar 1) eNil)) eNil)))))
  (sSeq (sSet 3 (eB kIx (eVar 1) (eCall d__law_pick (eCons (eVar 0) (eCons (eCB (k1 kLen) (eCons (eVar 1) eNil)) eNil)))))
  (sSeq (sSet 4 (eB kIx (eVar 1) (eCall d__law_pick (eCons (eVar 0) (eCons (eCB (k1 kLen) (eCons (eVar 1) eNil)) eNil)))))
  (sSeq (sSet 5 (eCall d__law_pick (eCons (eVar 0) (eCons (eD (.int 3)) eNil))))
  (sSeq (sIf (eT (eB (kEqN false) (eVar 5) (eD (.int 0))))
  (sRet (eTup (eCons (eD (.str "tell")) (eCons (eVar 2) (eCons (eVar 3) eNil)))))
  sNil)
  (sSeq (sIf (eT (eB (kEqN false) (eVar 5) (eD (.int 1))))
  (sRet (eTup (eCons (eD (.str "ask")) (eCons (eVar 2) (eCons (eVar 3) eNil)))))
  sNil)
  (sRet (eTup (eCons (eD (.str "answer")) (eCons (eVar 2) (eCons (eVar 3) (eCons (eVar 4) eNil))))))))))))
noncomputable def d__law_letter : Den := mkDen 2 4 b__law_letter
local macro_rules | `(tactic| wtm_at "vl") => `(tactic| first
  | with_reducible refine v_seq ?_
  | with_reducible refine v_k_next ?_
  | with_reducible refine v_k_ret ?_
  | with_reducible refine v_k_brk ?_
  | with_reducible refine v_k_cont ?_
  | with_reducible refine v_set ?_
  | with_reducible refine v_if ?_
  | with_reducible refine v_ret ?_
  | with_reducible refine v_retN ?_
  | with_reducible refine v_nil ?_
  | with_reducible refine v_brk ?_
  | with_reducible refine v_cont ?_
  | with_reducible refine v_e ?_
  | with_reducible refine v_it ?_
  | with_reducible refine v_aug ?_
  | (with_reducible refine v_sl_val ?_; try dsimp only [List.set, FS.setE, C.toD])
  | (with_reducible refine v_sl_tmp ?h ?q; (case h => with_unfolding_all exact Nat.le_of_ble_eq_true rfl); (case' q => try dsimp only [List.set, FS.setE, C.toD]))
  | (with_reducible refine v_sl_pc ?_; try dsimp only [List.set, FS.setE, C.toD])
  | (with_reducible refine v_sl_ic ?_; try dsimp only [List.set, FS.setE, C.toD])
  | (with_reducible refine' w_var_val ?h0 ?q; (case h0 => with_unfolding_all rfl))
  | (with_reducible refine' w_var_own ?h0 ?q; (case h0 => with_unfolding_all rfl))
  | (with_reducible refine' w_var_pc ?h0 ?q; (case h0 => with_unfolding_all rfl))
  | (with_reducible refine' w_var_lck ?h0 ?q; (case h0 => with_unfolding_all rfl))
  | (with_reducible refine' w_var_ic ?h0 ?q; (case h0 => with_unfolding_all rfl))
  | with_reducible refine w_d ?_
  | with_reducible refine w_bin ?_
  | with_reducible refine w_cons ?_
  | with_reducible refine w_nil ?_
  | with_reducible refine w_T ?_
  | with_reducible refine w_asB ?_
  | with_reducible refine w_add ?_
  | with_reducible refine w_sub ?_
  | with_reducible refine w_lt ?_
  | with_reducible refine w_le ?_
  | with_reducible refine w_gt ?_
  | with_reducible refine w_ge ?_
  | with_reducible refine w_eqi ?_
  | with_reducible refine w_nei ?_
  | with_reducible refine w_mod ?_ ?_
  | with_reducible refine w_div ?_ ?_ ?_
  | with_reducible refine w_pow (by decide) ?_
  | with_reducible refine w_mul ?_ ?_
  | with_reducible refine w_addI ?_
  | with_reducible refine w_max ?_
  | with_reducible refine w_min ?_
  | with_reducible refine w_un ?_
  | with_reducible refine w_neg ?_
  | (with_reducible refine' w_ixl ?h0 ?h1 ?q; (case h0 => with_unfolding_all rfl); (case h1 => with_unfolding_all rfl))
  | (with_reducible refine' w_ixl ?h ?h2 ?q; (case h => with_unfolding_all rfl); (case' h2 => with_reducible refine atI_ints ?_ ?_))
  | (with_reducible refine' w_ixt ?h0 ?q; (case h0 => with_unfolding_all rfl))
  | with_reducible refine w_mand ?_
  | with_reducible refine w_mor ?_
  | with_reducible refine w_mnot ?_
  | with_reducible refine w_yes ?_
  | with_reducible refine w_eand ?_
  | with_reducible refine w_eor ?_
  | with_reducible refine w_enot ?_
  | with_reducible refine w_eif ?_
  | with_reducible refine w_ch ?_
  | with_reducible refine w_lst ?_
  | with_reducible refine w_tup ?_
  | with_reducible refine w_dict0 ?_
  | with_reducible refine w_cb ?_
  | with_reducible refine w_k1 ?_
  | with_reducible refine w_k2 ?_
  | with_reducible refine w_abs ?_
  | with_reducible refine w_int ?_
  | with_reducible refine w_intb ?_
  | (with_reducible refine' w_lenl ?h0 ?q; (case h0 => with_unfolding_all rfl))
  | with_reducible refine w_lent ?_
  | with_reducible refine w_isT ?_
  | with_reducible refine w_eCall ?_
  | with_reducible refine w_eqb ?_
  | with_reducible refine w_eqs ?_
  | with_reducible refine i_true ?_
  | with_reducible refine i_false ?_
  | with_reducible refine i_not ?_
  | with_reducible refine i_dec (fun _ => ?_) (fun _ => ?_)
  | with_reducible refine f_next ?_
  | with_reducible refine f_val ?_
  | with_reducible refine f_tmp ?_
  | with_reducible refine f_pc ?_
  | (with_reducible refine' f_var ?h0 ?q; (case h0 => with_unfolding_all rfl))
  | (with_reducible refine' i_lt ?h0 ?q; (case h0 => with_unfolding_all rfl))
  | (with_reducible refine' i_lf ?h0 ?q; (case h0 => with_unfolding_all rfl))
  | (with_reducible refine' x_it ?h ?h2 ?q; (case h => with_unfolding_all rfl); (case h2 => (with_reducible refine' setItem_lst ?a ?b ?c; (case a => with_unfolding_all rfl); (case b => with_unfolding_all rfl); (case c => with_unfolding_all rfl))); (case' q => try dsimp only [List.set, FS.setE, C.toD, Int.reduceToNat]))
  | (with_reducible refine' x_frz ?h0 ?h1 ?q; (case h0 => with_unfolding_all rfl); (case h1 => with_unfolding_all rfl); (case' q => try dsimp only [List.set, FS.setE, C.toD]))
  | (with_reducible refine' x_call ?h0 ?h1 ?q; (case h0 => with_unfolding_all rfl); (case h1 => with_unfolding_all rfl); (case' q => try dsimp only [List.set, FS.setE, C.toD]))
  | (with_reducible refine' x_back ?h0 ?q; (case h0 => with_unfolding_all rfl); (case' q => try dsimp only [List.set, FS.setE, C.toD]))
  | (with_reducible refine' x_ty ?h0 ?q; (case h0 => with_unfolding_all rfl))
  | (with_reducible refine' x_frz1 ?h0 ?q; (case h0 => with_unfolding_all rfl); (case' q => try dsimp only [List.set, FS.setE, C.toD]))
  | with_reducible refine x_r1 ⟨?_, ?_⟩ ?_
  | with_reducible refine x_r2 ⟨?_, ?_, ?_, ?_⟩ ?_
  | with_reducible refine w_m ?_
  | (with_reducible refine' x_has ?h0 ?q; (case h0 => with_unfolding_all rfl))
  | (with_reducible refine' w_app ?h ?h1 ?h2 ?h3 ?h4 ?q; (case h => with_unfolding_all rfl); (case h1 => with_unfolding_all rfl); (case h3 => rfl); (case h4 => with_unfolding_all rfl); (case' q => try dsimp only [List.set, FS.setE, C.toD]))
  | with_reducible refine w_isT ?_
  | (with_reducible refine' w_is ?h0 ?q; (case h0 => with_unfolding_all rfl))
  | (with_reducible refine' w_call ?h0 ?q; (case h0 => with_unfolding_all rfl); (case' q => try dsimp only [List.nil_append, List.cons_append, List.length_nil, List.length_cons, Nat.reduceAdd]))
  | (with_reducible refine' w_listOf ?h0 ?q; (case h0 => with_unfolding_all rfl))
  | (with_reducible refine' w_tupOf ?h0 ?q; (case h0 => with_unfolding_all rfl))
  | (with_reducible show @LE.le Int _ _ _; omega)
  | (with_reducible show @LT.lt Int _ _ _; omega)
  | fail)
local macro_rules | `(tactic| wtm_at "vl") => `(tactic| first
  | with_reducible refine pick_w (by assumption) ?_ ?_ (fun _ _ _ _ _ => ?_)
  | with_reducible refine size_w (by assumption) ?_ (fun _ _ _ _ _ _ => ?_)
  | with_reducible refine wide_w (by assumption) ?_ (fun _ _ _ _ _ => ?_)
  | with_reducible refine place_w (by assumption) ?_ (fun _ _ _ _ _ => ?_)
  | with_reducible refine near_w (by assumption) ?_ ?_ ?_ (fun _ _ _ _ _ => ?_)
  | with_reducible refine circle_w (by assumption) ?_ (fun _ _ _ _ _ _ => ?_)
  | with_reducible refine tape_w (by assumption) (fun _ _ => ?_)
  | with_reducible refine far_w ?_ ?_)
local macro_rules | `(tactic| wtm_at "gk") => `(tactic| first | with_unfolding_all assumption | with_unfolding_all rfl | exact g_app | (apply g_set; wtm_at "gk") | (apply g_appL; wtm_at "gk") | (apply g_ne; (first | assumption | omega); wtm_at "gk"))
local macro_rules | `(tactic| wtm_at "vl") => `(tactic| first
  | (with_reducible refine' i_st ?h0 ?q; (case h0 => decide +kernel))
  | (with_reducible refine' i_sf ?h0 ?q; (case h0 => decide +kernel))
  | (with_reducible refine l_next ?_; try dsimp only)
  | (with_reducible refine l_cont ?_; try dsimp only)
  | with_reducible refine l_brk ?_
  | with_reducible refine l_ret ?_
  | with_reducible refine w_fld ?_
  | (with_reducible refine' x_fld ?h0 ?h1 ?h2 ?q; (case h0 => wtm_at "gk"); (case h1 => with_unfolding_all first | exact List.mem_cons_self | exact List.mem_cons_of_mem _ List.mem_cons_self); (case h2 => with_unfolding_all rfl); (case' q => try dsimp only [fldR]))
  | with_reducible refine w_meth ?_
  | (with_reducible refine' x_meth ?h0 ?h1 ?h2 ?q; (case h0 => wtm_at "gk"); (case h1 => with_unfolding_all rfl); (case h2 => with_unfolding_all rfl); (case' q => try dsimp only [List.map_nil, List.map_cons, List.append_nil, List.cons_append, List.nil_append]))
  | (with_reducible refine w_make ?_; try dsimp only [List.map_nil, List.map_cons, List.append_nil, List.cons_append, List.nil_append, List.length_nil, List.length_cons, Nat.reduceAdd])
  | with_reducible refine m_mk ?_
  | with_reducible refine w_eLc ?_
  | with_reducible refine w_eLn ?_
  | with_reducible refine v_fld ?_
  | (with_reducible refine' x_stf ?h0 ?h1 ?h2 ?q; (case h0 => wtm_at "gk"); (case h1 => with_unfolding_all first | exact List.mem_cons_self | exact List.mem_cons_of_mem _ List.mem_cons_self); (case h2 => first | (with_reducible refine' storeF_val ?a ?b; (case a => wtm_at "gk"); (case b => with_unfolding_all rfl)) | (with_reducible refine' storeF_tmp ?a ?b; (case a => wtm_at "gk"); (case b => with_unfolding_all rfl))); (case' q => try dsimp only [List.set]; try simp only [List.set_set]))
  | with_reducible refine w_box ?_
  | (with_reducible refine x_boxed ?_)
  | (with_reducible refine w_callD ?_; try dsimp only [List.map_nil, List.map_cons, List.append_nil, List.cons_append, List.nil_append])
  | (with_reducible refine' w_app ?h ?h1 ?h2 ?h3 ?h4 ?q; (case h => with_unfolding_all rfl); (case h1 => with_unfolding_all rfl); (case h3 => with_unfolding_all rfl); (case h4 => with_unfolding_all rfl); (case h2 => with_unfolding_all exact Nat.le_of_ble_eq_true rfl); (case' q => try dsimp only [List.set, FS.setE, C.toD, List.nil_append, List.cons_append]))
  | (with_reducible refine' w_app ?h ?h1 ?h2 ?h3 ?h4 ?q; (case h => with_unfolding_all rfl); (case h1 => with_unfolding_all rfl); (case h3 => with_unfolding_all rfl); (case h4 => with_unfolding_all rfl); (case' q => try dsimp only [List.set, FS.setE, C.toD, List.nil_append, List.cons_append]))
  | with_reducible refine v_par ?_
  | with_reducible refine v_tupA ?_
  | with_reducible refine w_dm1 ?_
  | with_reducible refine w_dm2 ?_
  | (with_reducible refine' w_ixb ?h0 ?h1 ?q; (case h0 => wtm_at "gk"); (case h1 => with_unfolding_all rfl))
  | (with_reducible refine' w_lenb ?h0 ?q; (case h0 => wtm_at "gk"))
  | (with_reducible refine' x_itb ?h0 ?h1 ?h2 ?q; (case h0 => with_unfolding_all rfl); (case h1 => wtm_at "gk"); (case h2 => with_unfolding_all rfl); (case' q => try dsimp only [List.set, FS.setE, C.toD, Int.reduceToNat]; try simp only [List.set_set]))
  | fail)
local macro_rules | `(tactic| wtm_at "vl") => `(tactic| first
  | with_reducible refine between_w ?_ ?_
  | with_reducible refine lfar_w ?_ ?_
  | with_reducible refine lbetween_w ?_ ?_
  | with_reducible refine places_w (by assumption) ?_ ?_ ?_ ?_ (fun _ _ _ _ _ _ => ?_)
  | fail)
local macro_rules | `(tactic| wtm_at "ck") => `(tactic| first
  | with_unfolding_all rfl
  | (with_unfolding_all refine' cont_ic ?a ?b; (case a => wtm_at "gk"); (case b => with_unfolding_all rfl))
  | (with_unfolding_all refine' cont_box ?a; (case a => wtm_at "gk"))
  | (with_unfolding_all refine' Hold.cont ?a; (case a => with_unfolding_all assumption)))
local macro_rules | `(tactic| wtm_at "pk") => `(tactic| first
  | with_unfolding_all rfl
  | (with_unfolding_all refine' put_ic ?a ?b ?c; (case a => wtm_at "gk"); (case b => with_unfolding_all rfl); (case c => exact fun _ z => nomatch z))
  | (with_unfolding_all refine' put_box ?a ?c; (case a => wtm_at "gk"); (case c => exact fun _ z => nomatch z)))
local macro_rules | `(tactic| wtm_at "vl") => `(tactic| first
  | (with_reducible refine' c_ixd ?h0 ?h1 ?q; (case h0 => wtm_at "ck"); (case' q => try dsimp only [nxF, bfF]))
  | (with_reducible refine' c_ixl ?h0 ?h1 ?q; (case h0 => wtm_at "ck"); (case h1 => first | with_unfolding_all rfl | assumption))
  | (with_reducible refine' c_len ?h0 ?q; (case h0 => wtm_at "ck"))
  | (with_reducible refine' c_lend ?h0 ?q; (case h0 => wtm_at "ck"))
  | (with_reducible refine' c_in ?h0 ?q; (case h0 => wtm_at "ck"))
  | (with_reducible refine' c_sorted ?h0 ?h1 ?q; (case h0 => wtm_at "ck"))
  | (with_reducible refine' c_get1 ?h0 ?q; (case h0 => wtm_at "ck"))
  | (with_reducible refine' c_dictOf ?h0 ?q; (case h0 => wtm_at "ck"))
  | (with_reducible refine' c_listOf ?h0 ?q; (case h0 => wtm_at "ck"))
  | (with_reducible refine' c_tupOf ?h0 ?q; (case h0 => wtm_at "ck"))
  | (with_reducible refine c_dm1 ?_)
  | (with_reducible refine' x_contD ?h0 ?q; (case h0 => wtm_at "ck"))
  | (with_reducible refine' c_app ?h ?h1 ?h2 ?h3 ?h4 ?q; (case h => with_unfolding_all rfl); (case h1 => wtm_at "ck"); (case h3 => with_unfolding_all rfl); (case h4 => wtm_at "pk"); (case' q => try dsimp only [List.set, FS.setE, C.toD, List.nil_append, List.cons_append]; try simp only [List.set_set]))
  | (with_reducible refine' x_hasL ?h0 ?q; (case h0 => wtm_at "ck"))
  | (with_reducible refine' c_setdM ?h0 ?h1 ?h2 ?h3 ?h4 ?q; (case h0 => with_unfolding_all rfl); (case h1 => wtm_at "ck"); (case h4 => wtm_at "pk"); (case' q => try dsimp only [List.set, FS.setE, C.toD, List.nil_append, List.cons_append]; try simp only [List.set_set]))
  | (with_reducible refine' w_varA ?ha ?h0 ?q; (case h0 => with_unfolding_all rfl); (case ha => assumption))
  | fail)
local macro_rules | `(tactic| wtm_at "vl") => `(tactic| first
  | with_reducible refine cplace_w ?_ ?_
  | (with_reducible refine' chouses1_w ?h0 ?h1 ?q; (case h0 => wtm_at "gk"))
  | (with_reducible refine' chouses2_w ?h0 ?h1 ?h2 ?q; (case h0 => wtm_at "gk"))
  | (with_reducible refine' nlose_w ?h ?h0 ?h1 ?h2 ?q; (case h0 => wtm_at "gk"); (case h => assumption); (case h1 => assumption); (case h2 => assumption))
  | (with_reducible refine' nread_w ?h ?h0 ?h1 ?h2 ?q; (case h0 => wtm_at "gk"); (case h => assumption); (case h1 => assumption); (case h2 => assumption))
  | (with_reducible refine' nrepeat_w ?h ?h0 ?h1 ?h2 ?q; (case h0 => wtm_at "gk"); (case h => assumption); (case h1 => assumption); (case h2 => assumption))
  | (with_reducible refine' ntell_w ?h ?h0 ?h1 ?q; (case h0 => wtm_at "gk"); (case h => assumption))
  | (with_reducible refine' nask_w ?h ?h0 ?h1 ?q; (case h0 => wtm_at "gk"); (case h => assumption))
  | (with_reducible refine' nhold_w ?h ?h0 ?h1 ?h2 ?q; (case h0 => wtm_at "gk"); (case h => assumption))
  | (with_reducible refine' nletters_w ?h0 ?q; (case h0 => wtm_at "gk"))
  | fail)
local macro_rules | `(tactic| wtm_at "vl") => `(tactic| first
  | (with_reducible refine lp_next ?_; try dsimp only)
  | (with_reducible refine lp_cont ?_; try dsimp only)
  | with_reducible refine lp_brk ?_
  | with_reducible refine lp_ret ?_
  | (with_reducible refine' c_inY ?h0 ?h1 ?q; (case h0 => wtm_at "ck"); (case h1 => assumption))
  | (with_reducible refine' c_inN ?h0 ?h1 ?q; (case h0 => wtm_at "ck"); (case h1 => assumption))
  | (with_reducible refine' c_ixdE ?h0 ?h1 ?h2 ?q; (case h0 => wtm_at "ck"); (case h1 => assumption); (case h2 => assumption))
  | (with_reducible refine' c_get1E ?h0 ?h1 ?q; (case h0 => wtm_at "ck"); (case h1 => assumption))
  | (with_reducible refine' c_popAt ?h0 ?h1 ?h2 ?h3 ?h4 ?q; (case h0 => wtm_at "ck"); (case h2 => assumption); (case h3 => assumption); (case h4 => wtm_at "pk"); (case' h1 => try assumption); (case' q => try dsimp only [List.set, FS.setE, C.toD]; try simp only [List.set_set]))
  | (with_reducible refine' c_sorted ?h0 ?h1 ?q; (case h0 => wtm_at "ck"); (case h1 => assumption))
  | (with_reducible refine' c_setdM ?h0 ?h1 ?h2 ?h3 ?h4 ?q; (case h0 => with_unfolding_all rfl); (case h1 => wtm_at "ck"); (case h2 => assumption); (case h4 => wtm_at "pk"); (case h3 => first | assumption | omega); (case' q => try dsimp only [List.set, FS.setE, C.toD, List.nil_append, List.cons_append]; try simp only [List.set_set]))
  | (with_reducible refine' c_setdN ?h0 ?h1 ?h2 ?h3 ?h4 ?q; (case h0 => with_unfolding_all rfl); (case h1 => wtm_at "ck"); (case h2 => assumption); (case h4 => wtm_at "pk"); (case h3 => first | assumption | omega); (case' q => try dsimp only [List.set, FS.setE, C.toD, List.nil_append, List.cons_append]; try simp only [List.set_set]))
  | (with_reducible refine' c_ixdL ?h0 ?h1 ?q; (case h0 => wtm_at "ck"); (case h1 => first | assumption | skip); (case' q => try dsimp only [nxF, bfF]))
  | (with_reducible refine' w_sortI ?h0 ?q; (case h0 => with_unfolding_all rfl))
  | (with_reducible refine same_vv ?_ ?_ ?_)
  | (with_reducible refine' same_01 ?h0 ?h1 ?h2 ?q; (case h0 => with_unfolding_all rfl))
  | (with_reducible refine' same_v0 ?h0 ?h2 ?q; (case h0 => with_unfolding_all rfl))
  | (with_reducible refine' same_0v ?h0 ?h2 ?q; (case h0 => with_unfolding_all rfl))
  | (with_reducible refine' w_eqL ?h0 ?h1 ?h2 ?h3 ?q; (case h0 => with_unfolding_all rfl); (case h1 => with_unfolding_all rfl); (case h2 => with_unfolding_all (intro _ z; cases z)); (case h3 => with_unfolding_all (intro _ z; cases z)))
  | fail)
local macro_rules | `(tactic| wtm_at "vl") => `(tactic| first
  | (with_reducible refine' c_lenM ?h0 ?q; (case h0 => wtm_at "ck"))
  | fail)
local macro_rules | `(tactic| wtm_at "gk") => `(tactic| first | with_reducible assumption | with_unfolding_all rfl | exact g_app | (with_reducible apply g_set; wtm_at "gk") | (with_reducible apply g_appL; wtm_at "gk") | (with_reducible apply g_ne; (first | assumption | omega); wtm_at "gk"))
local macro_rules | `(tactic| wtm_at "ck") => `(tactic| first
  | with_unfolding_all rfl
  | (with_reducible refine' cont_ic ?a ?b; (case a => wtm_at "gk"); (case b => with_unfolding_all rfl))
  | (with_reducible refine' cont_box ?a; (case a => wtm_at "gk"))
  | (with_reducible refine' Hold.cont ?a; (case a => with_reducible assumption)))
/-- the law's own tables: keys of the befores that are set -/
structure Bh (N : Nt) (kb : List Int) : Prop where
  nd : kb.Nodup
  sub : ∀ h ∈ kb, h ∈ N.ks
  has : ∀ h ∈ N.ks, (N.bf h).isSome = true → h ∈ kb
/-- the keys after reading -/
def kbL (N : Nt) (kb : List Int) : Lt → List Int
  | .tell a s => if N.told a s = true then (if a ∈ kb then kb else kb ++ [a]) else kb
  | _ => kb
def lawC (N : Nt) (kb : List Int) : List C := [.dct (fT N.ks (nxF N.nx)), .dct (fT kb (bfF N.bf)), .lst (N.ls.map Lt.d)]
theorem Bh.len {N : Nt} {kb : List Int} (b : Bh N kb) : kb.length ≤ N.ks.length := nodup_le b.nd b.sub
theorem Bh.get {N : Nt} {kb : List Int} (b : Bh N kb) {a : Int} (ha : a ∈ N.ks) : (if a ∈ kb then bfF N.bf a else D.non) = optD (N.bf a) := by
  by_cases e : a ∈ kb
  · rw [if_pos e]; rfl
  · rw [if_neg e]
    cases hb : N.bf a with
    | none => rfl
    | some v => exact absurd (b.has a ha (by rw [hb]; rfl)) e
theorem dput_bf {kb : List Int} {bf : Int → Option Int} {a s : Int} : dput (fT kb (bfF bf)) (.inl a) (.int s) = fT (if a ∈ kb then kb else kb ++ [a]) (bfF (upd1 bf a (some s))) := by
  by_cases e : a ∈ kb
  · rw [if_pos e, fT_put e, upd_bf]
  · rw [if_neg e, fT_put_new e, upd_bf]
theorem lread_w {N : Nt} {kb : List Int} {at' : Int} {l : Lt} {g : List Inst} {Q X} (ok : NtOk N) (b : Bh N kb) (h : 0 ≤ at') (hl : N.ls[at'.toNat]? = some l)
    (q : Q (.val ((N.cut at'.toNat).rdL l).1) (lawC ((N.cut at'.toNat).rdL l).2 (kbL N kb l)) g) : wpD (d__law_read [.val (.int N.n), .pc 0, .pc 1, .pc 2, .val (.int at')] (lawC N kb) g) Q X := by
  refine v_den rfl ?_
  unfold b__law_read
  simp only [List.map_cons, List.map_nil, List.replicate, argS, List.cons_append, List.nil_append]
  unfold lawC
  have hz : sizeLine = 16777216 := rfl
  have hll := ok.ll
  have hlt := (List.getElem?_eq_some_iff.mp hl).1
  have hlen := ok.len
  have hbl := b.len
  have hpos := ok.pos
  have hlm := ok.ls l (List.mem_of_getElem? hl)
  have hg : (N.ls.map Lt.d)[at'.toNat]? = some l.d := getMapL hl
  have hl1 : (N.ls.map Lt.d).length ≤ sizeLine := by rw [List.length_map]; omega
  have hl2 : ((N.ls.eraseIdx at'.toNat).map Lt.d).length < sizeLine := by
    have := List.length_eraseIdx_le N.ls at'.toNat
    rw [List.length_map]; omega
  cases l with
  | tell a s =>
    have ha : a ∈ N.ks := hlm a (by simp [Lt.ps])
    have hh := b.get ha
    have e0 : (N.cut at'.toNat).told a s = N.told a s := rfl
    simp only [Nt.rdL, Nt.rdT, kbL, e0] at q
    cases hb : N.bf a with
    | none =>
      have ht : N.told a s = true := by unfold Nt.told; rw [hb]
      rw [hb] at hh; simp only [optD] at hh
      simp only [ht, if_true] at q
      repeat' first
        | with_reducible refine c_setd rfl (by wtm_at "ck") (by omega) (by wtm_at "pk") ?_
        | (dsimp only [Lt.d])
        | wtm_at "vl"
      rw [eraseIdx_mapL, dput_bf]; exact q
    | some v =>
      rw [hb] at hh; simp only [optD] at hh
      repeat' first
        | with_reducible refine c_setd rfl (by wtm_at "ck") (by omega) (by wtm_at "pk") ?_
        | (dsimp only [Lt.d])
        | wtm_at "vl"
      · have ht : N.told a s = true := by unfold Nt.told; rw [hb]; exact decide_eq_true (by assumption)
        simp only [ht, if_true] at q
        rw [eraseIdx_mapL, dput_bf]; exact q
      · have ht : N.told a s = false := by unfold Nt.told; rw [hb]; exact decide_eq_false (by assumption)
        simp only [ht, Bool.false_eq_true, if_false] at q
        rw [eraseIdx_mapL]; exact q
  | ask a s =>
    have ha : a ∈ N.ks := hlm a (by simp [Lt.ps])
    have hh := b.get ha
    simp only [Nt.rdL, Nt.rdK, kbL] at q
    have e0 : (N.cut at'.toNat).bf a = N.bf a := rfl
    rw [e0] at q
    cases hb : N.bf a with
    | none =>
      rw [hb] at hh q; simp only [optD] at hh
      repeat' first
        | (dsimp only [Lt.d])
        | wtm_at "vl"
      rw [eraseIdx_mapL]; exact q
    | some v =>
      rw [hb] at hh q; simp only [optD] at hh
      repeat' first
        | (dsimp only [Lt.d])
        | wtm_at "vl"
      · rw [eraseIdx_mapL]
        have e : (N.ls.eraseIdx at'.toNat).map Lt.d ++ [(Lt.ans s a v).d] = ((N.ls.eraseIdx at'.toNat) ++ [Lt.ans s a v]).map Lt.d := by rw [List.map_append]; rfl
        show Q _ [_, _, .lst ((N.ls.eraseIdx at'.toNat).map Lt.d ++ [(Lt.ans s a v).d])] _
        rw [e]; exact q
      · rw [eraseIdx_mapL]; exact hl2
  | ans a s m =>
    have ha : a ∈ N.ks := hlm a (by simp [Lt.ps])
    have hh := b.get ha
    simp only [Nt.rdL, Nt.rdA, kbL] at q
    have e0 : (N.cut at'.toNat).nx a = N.nx a := rfl
    have e1 : (N.cut at'.toNat).n = N.n := rfl
    rw [e0, e1] at q
    repeat' first
      | (dsimp only [Lt.d])
      | wtm_at "vl"
    all_goals first
      | (rw [if_pos (And.intro (by assumption) (by assumption))] at q; rw [eraseIdx_mapL, upd_nx]; exact q)
      | (rw [if_neg (fun z => absurd z.2 (by assumption))] at q; rw [eraseIdx_mapL]; exact q)
      | (rw [if_neg (fun z => absurd z.1 (by assumption))] at q; rw [eraseIdx_mapL]; exact q)
      | exact ha
theorem nsetb_w {N : Nt} {a v : Int} {k : Nat} {cs : List C} {g : List Inst} {Q X} (ok : NtOk N) (hg : g[k]? = some (netI N)) (ha : a ∈ N.ks) (hv : v ∈ N.ks)
    (q : Q (.val .non) cs (g.set k (netI { N with bf := upd1 N.bf a (some v) }))) : wpD (d_Net_set_before [.val (.ins k), .val (.int a), .val (.int v)] cs g) Q X := by
  refine v_den rfl ?_
  unfold b_Net_set_before
  simp only [List.map_cons, List.map_nil, List.replicate, argS, List.cons_append, List.nil_append]
  have hz : sizeLine = 16777216 := rfl
  have hlen := ok.len
  repeat' wtm_at "vl"
  all_goals first
    | exact ha
    | exact hv
    | omega
    | (rw [upd_bf]; exact q)
    | trace_state
theorem nsetbN_w {N : Nt} {a : Int} {k : Nat} {cs : List C} {g : List Inst} {Q X} (ok : NtOk N) (hg : g[k]? = some (netI N)) (ha : a ∈ N.ks)
    (q : Q (.val .non) cs (g.set k (netI { N with bf := upd1 N.bf a none }))) : wpD (d_Net_set_before [.val (.ins k), .val (.int a), .val .non] cs g) Q X := by
  refine v_den rfl ?_
  unfold b_Net_set_before
  simp only [List.map_cons, List.map_nil, List.replicate, argS, List.cons_append, List.nil_append]
  have hz : sizeLine = 16777216 := rfl
  have hlen := ok.len
  have hu : upd1 (bfF N.bf) a .non = bfF (upd1 N.bf a none) := by
    funext x; by_cases e : x = a <;> simp [upd1, bfF, e, optD]
  repeat' wtm_at "vl"
  all_goals first
    | exact ha
    | omega
    | (rw [hu]; exact q)
    | trace_state
def tellF (M : Nt) (h : Int) : Nt := (M.rdT (M.nx h) h).2
def Nt.tellAll (N : Nt) : Nt := (sortI N.ks).foldl tellF N
theorem tellF_eq {M : Nt} {h : Int} : tellF M h = if M.told (M.nx h) h = true then { M with bf := upd1 M.bf (M.nx h) (some h) } else M := by
  unfold tellF Nt.rdT; split <;> rfl
structure TaI (N M : Nt) : Prop where
  ok : NtOk M
  ks : M.ks = N.ks
  nx : M.nx = N.nx
  n : M.n = N.n
  ls : M.ls = N.ls
theorem TaI.step {N M : Nt} (t : TaI N M) {h : Int} (hh : h ∈ N.ks) : TaI N (tellF M h) := by
  rw [tellF_eq]
  split
  · exact ⟨t.ok.behind (fun b hb => by cases hb; rw [t.ks]; exact hh), t.ks, t.nx, t.n, t.ls⟩
  · exact t
/-- keys that are just the houses with a before -/
structure Bs (N : Nt) (kb : List Int) : Prop where
  nd : kb.Nodup
  mem : ∀ h, h ∈ kb ↔ h ∈ N.ks ∧ (N.bf h).isSome = true
theorem Bs.len {N : Nt} {kb : List Int} (b : Bs N kb) : kb.length ≤ N.ks.length := nodup_le b.nd fun x hx => ((b.mem x).mp hx).1
theorem Bh.step {M : Nt} {kb : List Int} {a : Int} {o : Option Int} (b : Bh M kb) (ha : a ∈ M.ks) : Bh { M with bf := upd1 M.bf a o } (if a ∈ kb then kb else kb ++ [a]) := by
  refine ⟨?_, fun h hh => ?_, fun h h1 h2 => ?_⟩
  · split
    · exact b.nd
    · rename_i e
      rw [List.nodup_append]
      exact ⟨b.nd, by simp, fun x hx y hy => by rw [List.mem_singleton] at hy; subst hy; intro z; subst z; exact e hx⟩
  · show h ∈ M.ks
    split at hh
    · exact b.sub h hh
    · rcases List.mem_append.mp hh with hh | hh
      · exact b.sub h hh
      · rw [List.mem_singleton] at hh; rw [hh]; exact ha
  · have h2' : (upd1 M.bf a o h).isSome = true := h2
    by_cases e : h = a
    · subst e
      split
      · assumption
      · simp
    · rw [upd1_ne e] at h2'
      have := b.has h h1 h2'
      split
      · exact this
      · exact List.mem_append_left _ this
theorem Bs.step {M : Nt} {kb : List Int} {a s : Int} (b : Bs M kb) (ha : a ∈ M.ks) : Bs { M with bf := upd1 M.bf a (some s) } (if a ∈ kb then kb else kb ++ [a]) := by
  refine ⟨?_, fun h => ?_⟩
  · split
    · exact b.nd
    · rename_i e
      rw [List.nodup_append]
      exact ⟨b.nd, by simp, fun x hx y hy => by rw [List.mem_singleton] at hy; subst hy; intro z; subst z; exact e hx⟩
  · show _ ↔ h ∈ M.ks ∧ (upd1 M.bf a (some s) h).isSome = true
    by_cases eh : h = a
    · subst eh
      rw [upd1_same]
      by_cases e : h ∈ kb
      · rw [if_pos e]; simp [e, ha]
      · rw [if_neg e]; simp [ha]
    · rw [upd1_ne eh, ← b.mem h]
      by_cases e : a ∈ kb
      · rw [if_pos e]
      · rw [if_neg e, List.mem_append, List.mem_singleton]; simp [eh]
theorem lordered_w {ks : List Int} {f : Int → Option Int} {g : List Inst} {Q X} (hn : ks.Nodup) (hl : ks.length < 64) (q : Q (.tmp (.dct (fT ((sortI ks).filter fun h => (f h).isSome) (bfF f)))) [.dct (fT ks (bfF f))] g) : wpD (d__law_ordered [.pc 0] [.dct (fT ks (bfF f))] g) Q X := by
  refine v_den rfl ?_
  unfold b__law_ordered
  simp only [List.map_cons, List.map_nil, List.replicate, argS, List.cons_append, List.nil_append]
  have hz : sizeLine = 16777216 := rfl
  repeat' first
    | with_reducible refine v_stopFor ?_
    | wtm_at "vl"
  refine v_cut (fun s => ∃ z, s = ⟨[.pc 0, .own (.dct (fT ((sortI ks).filter fun h => (f h).isSome) (bfF f))), z], [.dct (fT ks (bfF f))], g⟩) ?_ ?_
  · with_reducible refine v_forL D.int ?_
    repeat' first
      | wtm_at "vl"
    refine ⟨sortI ks, .inl rfl, fun dn s => ∃ z, s = ⟨[.pc 0, .own (.dct (fT (dn.filter fun h => (f h).isSome) (bfF f))), z], [.dct (fT ks (bfF f))], g⟩, ⟨_, rfl⟩, ?_, ?_⟩
    · intro dn h td hd s ⟨z, e⟩
      subst e
      have hs := sortI_nodup hn
      rw [hd] at hs
      have hnew : h ∉ dn.filter fun h => (f h).isSome := fun hm => by
        rw [List.nodup_append] at hs
        exact hs.2.2 h (List.mem_filter.mp hm).1 h List.mem_cons_self rfl
      have hh : h ∈ ks := by
        have : h ∈ sortI ks := by rw [hd]; simp
        exact sortI_mem.mp this
      have hfl : (fT (dn.filter fun h => (f h).isSome) (bfF f)).length < sizeLine := by
        have h1 : dn.length ≤ (sortI ks).length := by rw [hd, List.length_append]; omega
        have h2 := List.length_filter_le (fun h => (f h).isSome) dn
        rw [sortI_len] at h1
        rw [fT_len]; omega
      refine ⟨_, rfl, ?_⟩
      dsimp only [FS.setE, List.set]
      rw [List.filter_append]
      cases hf : f h with
      | none =>
        have hbf : bfF f h = .non := by unfold bfF; rw [hf]; rfl
        have e1 : [h].filter (fun h => (f h).isSome) = [] := by simp [hf]
        rw [e1, List.append_nil]
        repeat' first
          | wtm_at "vl"
        exact ⟨_, rfl⟩
      | some b =>
        have hbf : bfF f h = .int b := by unfold bfF; rw [hf]; rfl
        have e1 : [h].filter (fun h => (f h).isSome) = [h] := by simp [hf]
        rw [e1]
        have hfl2 : (dn.filter fun h => (f h).isSome).length < sizeLine := by rw [fT_len] at hfl; exact hfl
        repeat' first
          | wtm_at "vl"
        refine ⟨.val (.int h), ?_⟩
        rw [fT_congr (g := bfF f) (fun x _ => by by_cases e : x = h <;> simp [upd1, e, hbf])]
    · intro s ⟨z, e⟩
      exact ⟨_, rfl, z, e⟩
  · intro s ⟨z, e⟩
    subst e
    repeat' wtm_at "vl"
    exact q
theorem netI_bf {N : Nt} {bf : Int → Option Int} (h : ∀ x ∈ N.ks, bf x = N.bf x) : netI { N with bf := bf } = netI N := by
  unfold netI
  rw [fT_congr (f := bfF bf) (g := bfF N.bf) fun x hx => by unfold bfF; rw [h x hx]]
theorem ninit2_w {N : Nt} {kb : List Int} {k k' : Nat} {g : List Inst} {Q X} (ok : NtOk N) (hg' : g[k']? = some ⟨Str.ofString "Net", [], []⟩) (hg : g[k]? = some (netI N)) (hne : k' ≠ k) (hkb : kb.length < 64)
    (h3 : ∀ h ∈ kb, h ∈ N.ks ∧ ∃ v, N.bf h = some v ∧ v ∈ N.ks) (q : Q (.val .non) [.dct (fT kb (bfF N.bf))] (g.set k' (netI { N with bf := fun h => if h ∈ kb then N.bf h else none }))) :
    wpD (d_Net___init__ [.val (.ins k'), .val (.int N.n), .ic k 0, .pc 0, .ic k 2] [.dct (fT kb (bfF N.bf))] g) Q X := by
  refine v_den rfl ?_
  unfold b_Net___init__
  simp only [List.map_cons, List.map_nil, List.replicate, List.cons_append, List.nil_append]
  have hz : sizeLine = 16777216 := rfl
  have hlen := ok.len
  have hne2 : k ≠ k' := fun z => hne z.symm
  have h3' : ∀ h ∈ kb, h ∈ N.ks ∧ ∃ v, bfF N.bf h = .int v ∧ v ∈ N.ks := fun h hh => by
    obtain ⟨a, v, b, c⟩ := h3 h hh
    exact ⟨a, v, by unfold bfF; rw [b]; rfl, c⟩
  have hF : ∀ h, (if h ∈ kb then bfF N.bf h else D.non) = bfF (fun h => if h ∈ kb then N.bf h else none) h := fun h => by
    by_cases e : h ∈ kb <;> simp [bfF, e, optD]
  have ha : Hold [.dct (fT kb (bfF N.bf))] g (.ic k 0) (.dct (fT N.ks (nxF N.nx))) := Hold.ic hg rfl
  have hc : Hold [.dct (fT kb (bfF N.bf))] g (.ic k 2) (.lst (N.ls.map Lt.d)) := Hold.ic hg rfl
  repeat' first
    | (with_reducible refine ctables_w ha (Hold.pc rfl) hc hlen hkb ok.rng ok.nx h3' ok.ls ?_)
    | wtm_at "vl"
  with_reducible refine w_dcK N.ks (fun _ => true) (bfF (fun h => if h ∈ kb then N.bf h else none)) ?_
  repeat' wtm_at "vl"
  refine ⟨_, _, Lk.ic (by wtm_at "gk") rfl, by omega, ok.nd, rfl, fun x hx => ⟨_, rfl, ?_⟩, ?_⟩
  · dsimp only [FS.setE, List.set, wipeE]
    have e := hF x
    repeat' wtm_at "vl"
    refine ⟨rfl, fun _ => ?_, fun z => nomatch z⟩
    repeat' wtm_at "vl"
    refine ⟨rfl, ?_⟩
    repeat' wtm_at "vl"
    exact ⟨_, rfl, rfl⟩
  · rw [List.filter_eq_self.mpr (fun _ _ => rfl)]
    repeat' wtm_at "vl"
    exact q
theorem nclone_w {N : Nt} {k : Nat} {cs : List C} {g : List Inst} {Q X} (ok : NtOk N) (hg : g[k]? = some (netI N)) (q : Q (.val (.ins g.length)) cs (g ++ [netI N])) :
    wpD (d_Net_clone [.val (.ins k)] cs g) Q X := by
  refine v_den rfl ?_
  unfold b_Net_clone
  simp only [List.map_cons, List.map_nil, List.replicate, argS, List.cons_append, List.nil_append]
  have hk : k < g.length := (List.getElem?_eq_some_iff.mp hg).1
  have hlen := ok.len
  have e : netI { N with bf := fun h => if h ∈ (sortI N.ks).filter (fun h => (N.bf h).isSome) then N.bf h else none } = netI N := netI_bf fun x hx => by
    by_cases h : x ∈ (sortI N.ks).filter (fun h => (N.bf h).isSome)
    · rw [if_pos h]
    · rw [if_neg h]
      cases hb : N.bf x with
      | none => rfl
      | some v => exact absurd (List.mem_filter.mpr ⟨sortI_mem.mpr hx, by rw [hb]; rfl⟩) h
  have es : (g ++ [(⟨Str.ofString "Net", [], []⟩ : Inst)]).set g.length (netI N) = g ++ [netI N] := by
    rw [List.set_append_right _ _ (Nat.le_refl _), Nat.sub_self]; rfl
  repeat' first
    | (with_reducible refine' nbefores_w ok ?hb0 ?hb1; (case hb0 => wtm_at "gk"))
    | (with_reducible refine ninit2_w ok (by wtm_at "gk") (by wtm_at "gk") (by omega) ?_ ?_ ?_)
    | wtm_at "vl"
  · have := List.length_filter_le (fun h => (N.bf h).isSome) (sortI N.ks)
    rw [sortI_len] at this; omega
  · intro h hh
    obtain ⟨h1, h2⟩ := List.mem_filter.mp hh
    obtain ⟨v, hv⟩ := Option.isSome_iff_exists.mp h2
    show h ∈ N.ks ∧ ∃ v, N.bf h = some v ∧ v ∈ N.ks
    exact ⟨sortI_mem.mp h1, v, hv, ok.bf h (sortI_mem.mp h1) v hv⟩
  · rw [e, es]
    repeat' wtm_at "vl"
    exact q
theorem TaI.fold {N : Nt} (hN : NtOk N) : ∀ {d : List Int}, (∀ h ∈ d, h ∈ N.ks) → TaI N (d.foldl tellF N) := fun {d} => by
  have go : ∀ (d : List Int) (M : Nt), TaI N M → (∀ h ∈ d, h ∈ N.ks) → TaI N (d.foldl tellF M) := fun d => by
    induction d with
    | nil => intro M t _; exact t
    | cons a d ih => intro M t h; exact ih _ (t.step (h a List.mem_cons_self)) fun x hx => h x (List.mem_cons_of_mem _ hx)
  exact go d N ⟨hN, rfl, rfl, rfl, rfl⟩
theorem tellAll_ta {N : Nt} (ok : NtOk N) : TaI N N.tellAll := TaI.fold ok fun h hh => sortI_mem.mp hh
def stepF (p : Nt × Int) (h : Int) : Nt × Int := match p.1.bf (p.1.nx h) with
  | some b => if farI p.1.n h b < farI p.1.n h (p.1.nx h) then ({ p.1 with nx := upd1 p.1.nx h b }, p.2 + 1) else p
  | none => p
def Nt.calm (N : Nt) : Nt × Int := (sortI N.ks).foldl stepF (N.tellAll, 0)
structure CaI (N : Nt) (dn : List Int) (p : Nt × Int) : Prop where
  ok : NtOk p.1
  ks : p.1.ks = N.ks
  n : p.1.n = N.n
  bf : p.1.bf = N.tellAll.bf
  ls : p.1.ls = N.ls
  nx : ∀ x, x ∉ dn → p.1.nx x = N.nx x
theorem CaI.init {N : Nt} (ok : NtOk N) : CaI N [] (N.tellAll, 0) := by
  have t := tellAll_ta ok
  exact ⟨t.ok, t.ks, t.n, rfl, t.ls, fun x _ => by rw [t.nx]⟩
theorem CaI.step {N : Nt} {dn : List Int} {p : Nt × Int} (ok : NtOk N) (c : CaI N dn p) {h : Int} (hh : h ∈ N.ks) : CaI N (dn ++ [h]) (stepF p h) := by
  have rest : CaI N (dn ++ [h]) p := ⟨c.ok, c.ks, c.n, c.bf, c.ls, fun x hx => c.nx x fun z => hx (List.mem_append_left _ z)⟩
  unfold stepF
  cases hb : p.1.bf (p.1.nx h) with
  | none => exact rest
  | some b =>
    simp only []
    split
    · have hm : b ∈ p.1.ks := c.ok.bf _ (c.ok.nx h (by rw [c.ks]; exact hh)) b hb
      exact ⟨c.ok.hold hm, c.ks, c.n, c.bf, c.ls, fun x hx => by
        have h1 : x ∉ dn := fun z => hx (List.mem_append_left _ z)
        have h2 : x ≠ h := fun z => hx (by rw [z]; simp)
        show upd1 p.1.nx h b x = _
        rw [upd1_ne h2]; exact c.nx x h1⟩
    · exact rest
theorem each_w {N : Nt} {k : Nat} {cs : List C} {g : List Inst} {Q X} (ok : NtOk N) (hg : g[k]? = some (netI N)) (q : Q (.val (.bl (decide (sortI (N.ks.map N.nx) = sortI N.ks)))) cs g) :
    wpD (d_each_held_once [.val (.ins k)] cs g) Q X := by
  refine v_den rfl ?_
  unfold b_each_held_once
  simp only [List.map_cons, List.map_nil, List.replicate, argS, List.cons_append, List.nil_append]
  have hz : sizeLine = 16777216 := rfl
  have hlen := ok.len
  have hsl : (sortI N.ks).length < 64 := by rw [sortI_len]; exact hlen
  have e1 : sortI ((sortI N.ks).map N.nx) = sortI (N.ks.map N.nx) := sortI_congr ((sortI_perm _).map _)
  repeat' first
    | with_reducible refine nnexts_w ok (by wtm_at "gk") ?_
    | (with_reducible refine w_lcKi (sortI N.ks) N.nx ?_)
    | wtm_at "vl"
  refine ⟨_, _, Lk.var rfl, by omega, rfl, fun x hx => ⟨_, rfl, ?_⟩, ?_⟩
  · dsimp only [FS.setE, List.set, wipeE]
    repeat' wtm_at "vl"
    exact ⟨rfl, rfl⟩
  · repeat' first
      | wtm_at "vl"
    rw [e1, sortI_idem, Bool.xor_false]
    exact q
theorem Bh.sort {N : Nt} {kb : List Int} (b : Bh N kb) (nd : N.ks.Nodup) : (sortI kb).filter (fun h => (N.bf h).isSome) = (sortI N.ks).filter (fun h => (N.bf h).isSome) := by
  refine List.Perm.eq_of_pairwise (le := (· ≤ ·)) (fun a b _ _ h1 h2 => Int.le_antisymm h1 h2) ((sortI_sorted _).filter _) ((sortI_sorted _).filter _) ?_
  refine (List.perm_ext_iff_of_nodup ((sortI_nodup b.nd).filter _) ((sortI_nodup nd).filter _)).mpr fun h => ?_
  rw [List.mem_filter, List.mem_filter, sortI_mem, sortI_mem]
  exact ⟨fun ⟨h1, h2⟩ => ⟨b.sub h h1, h2⟩, fun ⟨h1, h2⟩ => ⟨b.has h h1 h2, h2⟩⟩
theorem filter_some {ks : List Int} {nx : Int → Int} : ks.filter (fun h => ((fun h => some (nx h)) h : Option Int).isSome) = ks := List.filter_eq_self.mpr fun _ _ => rfl
theorem lstands_w {N : Nt} {kb : List Int} {k : Nat} {g : List Inst} {Q X} (ok : NtOk N) (b : Bh N kb) (hg : g[k]? = some (netI N)) (q : Q (.val (.bl true)) (lawC N kb) g) :
    wpD (d__law_stands [.val (.ins k), .pc 0, .pc 1, .pc 2] (lawC N kb) g) Q X := by
  refine v_den rfl ?_
  unfold b__law_stands
  simp only [List.map_cons, List.map_nil, List.replicate, argS, List.cons_append, List.nil_append]
  have hz : sizeLine = 16777216 := rfl
  have hlen := ok.len
  have hbl : kb.length < 64 := Nat.lt_of_le_of_lt b.len hlen
  have es := b.sort ok.nd
  have ef := filter_some (ks := sortI N.ks) (nx := N.nx)
  have hl := List.length_filter_le (fun h => (N.bf h).isSome) (sortI N.ks)
  have o1 : okD 12 (.dct (fT (sortI N.ks) (nxF N.nx))) := okD_fT (by rw [sortI_len]; omega) fun _ _ => trivial
  have o2 : okD 12 (.dct (fT ((sortI N.ks).filter fun h => (N.bf h).isSome) (bfF N.bf))) := okD_fT (by rw [sortI_len] at hl; omega) fun _ _ => okD_opt
  have o3 : okD 12 (.lst (N.ls.map Lt.d)) := okD_lst ok.ll fun l _ => okD_lt l
  unfold lawC at q ⊢
  repeat' first
    | with_reducible refine nnexts_w ok (by wtm_at "gk") ?_
    | with_reducible refine nbefores_w ok (by wtm_at "gk") ?_
    | (with_unfolding_all refine lordered_w (ks := N.ks) (f := fun h => some (N.nx h)) ok.nd hlen ?_; rw [ef])
    | (with_reducible refine lordered_w (ks := kb) (f := N.bf) b.nd hbl ?_; rw [es])
    | wtm_at "vl"
  all_goals first
    | exact q
    | exact o1
    | exact o2
    | exact o3
    | rfl
    | trace_state
theorem lnexts_w {c : C} {ps : List Int} {g : List Inst} {Q X} (hc : TapeOk c) (hn : ps.Nodup) (h2 : ps.length < 64)
    (q : ∀ (nx : Int → Int) c, (∀ p ∈ ps, nx p ∈ ps) → TapeOk c → Q (.tmp (.dct (fT ps (nxF nx)))) [c, .lst (ps.map D.int)] g) : wpD (d__law_nexts [.pc 0, .pc 1] [c, .lst (ps.map D.int)] g) Q X := by
  unfold d__law_nexts
  with_reducible refine v_den ?ha ?_
  case ha => rfl
  unfold b__law_nexts
  simp only [List.map_cons, List.map_nil, List.replicate, argS, List.cons_append, List.nil_append]
  have hz : sizeLine = 16777216 := rfl
  have hlm : (ps.map D.int).length = ps.length := List.length_map _
  repeat' first
    | with_reducible refine v_stopFor ?_
    | wtm_at "vl"
  with_reducible refine v_cutS (fun s => ∃ (c : C) (nx : Int → Int) (z1 z2 z3 z4 : S), TapeOk c ∧ (∀ p ∈ ps, nx p ∈ ps) ∧ s = ⟨[.pc 0, .pc 1, .own (.dct (fT ps (nxF nx))), .val (.int ps.length), z1, z2, z3, z4], [c, .lst (ps.map D.int)], g⟩) ?_ ?_
  · with_reducible refine v_forR ?_
    repeat' wtm_at "vl"
    refine ⟨fun i s => ∃ (c : C) (nx : Int → Int) (first last ring : Int) (z4 : S), TapeOk c ∧ (∀ p ∈ ps.take i, nx p ∈ ps) ∧ 0 ≤ first ∧ first ≤ i ∧ (i : Int) ≤ last ∧ last ≤ ps.length ∧ (i < last → 1 ≤ ring ∧ ring ≤ last - first) ∧ s = ⟨[.pc 0, .pc 1, .own (.dct (fT (ps.take i) (nxF nx))), .val (.int ps.length), .val (.int first), .val (.int last), .val (.int ring), z4], [c, .lst (ps.map D.int)], g⟩, ?_, ?_, ?_⟩
    · exact ⟨_, id, _, _, _, _, hc, (fun p hp => nomatch hp), Int.le_refl 0, Int.le_refl 0, Int.le_refl 0, by omega, fun z => absurd z (by omega), rfl⟩
    · intro i hi s ⟨c, nx, first, last, ring, z4, hc, hx, h0, h1, h3, h4, h5, e⟩
      subst e
      refine ⟨_, rfl, ?_⟩
      dsimp only [FS.setE, List.set]
      have hi' : i < ps.length := by omega
      have hsp : ps = ps.take i ++ ps[i] :: ps.drop (i + 1) := by rw [List.getElem_cons_drop, List.take_append_drop]
      have hnew : ps[i] ∉ ps.take i := fun z => by
        rw [hsp, List.nodup_append] at hn
        exact hn.2.2 _ z _ List.mem_cons_self rfl
      have ht : ps.take (i + 1) = ps.take i ++ [ps[i]] := by rw [List.take_append_getElem hi']
      have hkl : (ps.take i).length < sizeLine := by rw [List.length_take]; omega
      have fin : ∀ {c : C} {first last ring v : Int} {z4}, TapeOk c → v ∈ ps → 0 ≤ first → first ≤ i → (i : Int) < last → last ≤ ps.length → 1 ≤ ring → ring ≤ last - first → ∃ (c_1 : C) (nx_1 : Int → Int) (first_1 last_1 ring_1 : Int) (z4_1 : S), TapeOk c_1 ∧ (∀ p ∈ ps.take (i + 1), nx_1 p ∈ ps) ∧ 0 ≤ first_1 ∧ first_1 ≤ ((i + 1 : Nat) : Int) ∧ ((i + 1 : Nat) : Int) ≤ last_1 ∧ last_1 ≤ ps.length ∧ (((i + 1 : Nat) : Int) < last_1 → 1 ≤ ring_1 ∧ ring_1 ≤ last_1 - first_1) ∧
          (⟨[.pc 0, .pc 1, .own (.dct (fT (ps.take i ++ [ps[i]]) (upd1 (nxF nx) ps[i] (.int v)))), .val (.int ps.length), .val (.int first), .val (.int last), .val (.int ring), z4], [c, .lst (ps.map D.int)], g⟩ : FS) = ⟨[.pc 0, .pc 1, .own (.dct (fT (ps.take (i + 1)) (nxF nx_1))), .val (.int ps.length), .val (.int first_1), .val (.int last_1), .val (.int ring_1), z4_1], [c_1, .lst (ps.map D.int)], g⟩ := fun {c first last ring v z4} hc hv a1 a2 a3 a4 a5 a6 =>
        ⟨c, upd1 nx ps[i] v, first, last, ring, z4, hc, fun p hp => by
          unfold upd1; split
          · exact hv
          · rename_i hne
            rw [ht] at hp
            rcases List.mem_append.mp hp with hp | hp
            · exact hx p hp
            · rw [List.mem_singleton] at hp; exact absurd hp hne, a1, by omega, by omega, a4, fun _ => ⟨a5, a6⟩, by rw [ht, upd_nx]⟩
      have hpi : ∀ {h : (0 : Int) ≤ (i : Int)} {h2 : (i : Int) < ps.length}, ps[(i : Int).toNat]'(by omega) = ps[i] := fun {_ _} => rfl
      repeat' first
        | with_reducible refine v_stopIf ?_
        | wtm_at "vl"
      with_reducible refine v_cutS (fun s => ∃ (c : C) (first last ring : Int), TapeOk c ∧ 0 ≤ first ∧ first ≤ i ∧ (i : Int) < last ∧ last ≤ ps.length ∧ 1 ≤ ring ∧ ring ≤ last - first ∧ s = ⟨[.pc 0, .pc 1, .own (.dct (fT (ps.take i) (nxF nx))), .val (.int ps.length), .val (.int first), .val (.int last), .val (.int ring), .val (.int i)], [c, .lst (ps.map D.int)], g⟩) ?_ ?_
      · repeat' wtm_at "vl"
        all_goals first
          | omega
          | exact ⟨_, rfl, _, _, _, _, by assumption, by omega, by omega, by omega, by omega, by omega, by omega, rfl⟩
          | exact ⟨_, rfl, _, _, _, _, hc, h0, h1, by omega, h4, (h5 (by omega)).1, (h5 (by omega)).2, rfl⟩
          | trace_state
      · intro s ⟨c, first, last, ring, hc, b0, b1, b2, b3, b4, b5, e⟩
        subst e
        have hnew2 : ps[(i : Int).toNat]'(by omega) ∉ ps.take i := hnew
        repeat' wtm_at "vl"
        all_goals first
          | omega
          | exact fin (by assumption) (List.getElem_mem _) b0 b1 b2 b3 b4 b5
    · intro s ⟨c, nx, first, last, ring, z4, hc, hx, h0, h1, h3, h4, h5, e⟩
      rw [Int.toNat_natCast, List.take_length] at hx e
      exact ⟨_, rfl, c, nx, _, _, _, _, hc, hx, e⟩
  · intro s ⟨c, nx, z1, z2, z3, z4, hc, hx, e⟩
    subst e
    repeat' wtm_at "vl"
    exact q nx c hx hc
theorem lbehinds_w {c : C} {ps : List Int} {g : List Inst} {Q X} (hc : TapeOk c) (hn : ps.Nodup) (h2 : ps.length < 64)
    (q : ∀ (kb : List Int) (bf : Int → Option Int) c, kb.Nodup → (∀ p ∈ kb, p ∈ ps ∧ ∃ v, bf p = some v ∧ v ∈ ps) → TapeOk c → Q (.tmp (.dct (fT kb (bfF bf)))) [c, .lst (ps.map D.int)] g) : wpD (d__law_behinds [.pc 0, .pc 1] [c, .lst (ps.map D.int)] g) Q X := by
  unfold d__law_behinds
  with_reducible refine v_den ?ha ?_
  case ha => rfl
  unfold b__law_behinds
  simp only [List.map_cons, List.map_nil, List.replicate, argS, List.cons_append, List.nil_append]
  have hz : sizeLine = 16777216 := rfl
  have hlm : (ps.map D.int).length = ps.length := List.length_map _
  repeat' first
    | with_reducible refine v_stopFor ?_
    | wtm_at "vl"
  with_reducible refine v_cutS (fun s => ∃ (c : C) (kb : List Int) (bf : Int → Option Int) (z : S), TapeOk c ∧ kb.Nodup ∧ (∀ p ∈ kb, p ∈ ps ∧ ∃ v, bf p = some v ∧ v ∈ ps) ∧ s = ⟨[.pc 0, .pc 1, .own (.dct (fT kb (bfF bf))), z], [c, .lst (ps.map D.int)], g⟩) ?_ ?_
  · with_reducible refine v_forP D.int ?_
    repeat' wtm_at "vl"
    refine ⟨ps, ⟨trivial, rfl⟩, fun dn s => ∃ (c : C) (kb : List Int) (bf : Int → Option Int) (z : S), TapeOk c ∧ kb.Nodup ∧ (∀ p ∈ kb, p ∈ dn ∧ ∃ v, bf p = some v ∧ v ∈ ps) ∧ s = ⟨[.pc 0, .pc 1, .own (.dct (fT kb (bfF bf))), z], [c, .lst (ps.map D.int)], g⟩, ⟨c, [], fun _ => none, _, hc, List.nodup_nil, (fun p hp => nomatch hp), rfl⟩, ?_, ?_, ?_⟩
    · intro dn s ⟨c, kb, bf, z, hc, h1, h3, e⟩
      subst e; rfl
    · intro dn p td hd s ⟨c, kb, bf, z, hc, h1, h3, e⟩
      subst e
      refine ⟨_, rfl, ?_⟩
      dsimp only [FS.setE, List.set]
      have hp : p ∈ ps := by rw [hd]; simp
      have hpos : 0 < ps.length := List.length_pos_of_mem hp
      have hnd : p ∉ dn := fun z => by
        rw [hd, List.nodup_append] at hn
        exact hn.2.2 p z p List.mem_cons_self rfl
      have hnew : p ∉ kb := fun z => hnd (h3 p z).1
      have hkl : kb.length < sizeLine := by
        have := nodup_le h1 (b := dn) fun x hx => (h3 x hx).1
        have : dn.length ≤ ps.length := by rw [hd, List.length_append]; omega
        omega
      have same : ∀ {c}, TapeOk c → ∃ (c_1 : C) (kb_1 : List Int) (bf_1 : Int → Option Int) (z : S), TapeOk c_1 ∧ kb_1.Nodup ∧ (∀ x ∈ kb_1, x ∈ dn ++ [p] ∧ ∃ v, bf_1 x = some v ∧ v ∈ ps) ∧ (⟨[.pc 0, .pc 1, .own (.dct (fT kb (bfF bf))), .val (.int p)], [c, .lst (ps.map D.int)], g⟩ : FS) = ⟨[.pc 0, .pc 1, .own (.dct (fT kb_1 (bfF bf_1))), z], [c_1, .lst (ps.map D.int)], g⟩ := fun {c} hc =>
        ⟨c, kb, bf, _, hc, h1, fun x hx => ⟨List.mem_append_left _ (h3 x hx).1, (h3 x hx).2⟩, rfl⟩
      have more : ∀ {c} {v : Int}, TapeOk c → v ∈ ps → ∃ (c_1 : C) (kb_1 : List Int) (bf_1 : Int → Option Int) (z : S), TapeOk c_1 ∧ kb_1.Nodup ∧ (∀ x ∈ kb_1, x ∈ dn ++ [p] ∧ ∃ v, bf_1 x = some v ∧ v ∈ ps) ∧ (⟨[.pc 0, .pc 1, .own (.dct (fT (kb ++ [p]) (upd1 (bfF bf) p (.int v)))), .val (.int p)], [c, .lst (ps.map D.int)], g⟩ : FS) = ⟨[.pc 0, .pc 1, .own (.dct (fT kb_1 (bfF bf_1))), z], [c_1, .lst (ps.map D.int)], g⟩ := fun {c v} hc hv =>
        ⟨c, kb ++ [p], upd1 bf p (some v), _, hc, by rw [List.nodup_append]; exact ⟨h1, by simp, fun a ha b hb => by rw [List.mem_singleton] at hb; subst hb; rintro rfl; exact hnew ha⟩, fun x hx => by
          by_cases ex : x = p
          · subst ex; exact ⟨by simp, v, upd1_same, hv⟩
          · rcases List.mem_append.mp hx with hx | hx
            · exact ⟨List.mem_append_left _ (h3 x hx).1, by rw [upd1_ne ex]; exact (h3 x hx).2⟩
            · rw [List.mem_singleton] at hx; exact absurd hx ex, by rw [upd_bf]⟩
      repeat' wtm_at "vl"
      all_goals first
        | omega
        | (rw [hlm]; omega)
        | (rename_i z; rw [hlm] at z; omega)
        | exact more (by assumption) (List.getElem_mem _)
        | exact same (by assumption)
        | trace_state
    · intro s ⟨c, kb, bf, z, hc, h1, h3, e⟩
      exact ⟨_, rfl, c, kb, bf, z, hc, h1, h3, e⟩
  · intro s ⟨c, kb, bf, z, hc, h1, h3, e⟩
    subst e
    repeat' wtm_at "vl"
    exact q kb bf c h1 h3 hc
theorem lletter_w {c : C} {ps : List Int} {g : List Inst} {Q X} (hc : TapeOk c) (h1 : 0 < ps.length) (h2 : ps.length ≤ 1000)
    (q : ∀ (l : Lt) c, (∀ p ∈ l.ps, p ∈ ps) → TapeOk c → Q (.val l.d) [c, .lst (ps.map D.int)] g) : wpD (d__law_letter [.pc 0, .pc 1] [c, .lst (ps.map D.int)] g) Q X := by
  refine v_den rfl ?_
  unfold b__law_letter
  simp only [List.map_cons, List.map_nil, List.replicate, argS, List.cons_append, List.nil_append]
  have hm : ∀ {i : Int} (h : 0 ≤ i ∧ i < ps.length), ps[i.toNat]'(by omega) ∈ ps := fun h => List.getElem_mem _
  repeat' wtm_at "vl"
  all_goals first
    | omega
    | (rw [List.length_map]; omega)
    | (rename_i z _ _; rw [List.length_map] at z; omega)
    | (simp only [List.length_map] at *; omega)
    | skip
  all_goals first
    | exact q (.tell _ _) _ (fun p hp => by simp [Lt.ps] at hp; rcases hp with rfl | rfl <;> exact List.getElem_mem _) (by assumption)
    | exact q (.ask _ _) _ (fun p hp => by simp [Lt.ps] at hp; rcases hp with rfl | rfl <;> exact List.getElem_mem _) (by assumption)
    | exact q (.ans _ _ _) _ (fun p hp => by simp [Lt.ps] at hp; rcases hp with rfl | rfl | rfl <;> exact List.getElem_mem _) (by assumption)
end VL
set_option maxRecDepth 100000
set_option maxHeartbeats 4000000
namespace VL
open PySem PySem.Spec L2
open PyProof.Rows hiding St
local macro_rules | `(tactic| wtm_at "vl") => `(tactic| first
  | with_reducible refine v_seq ?_
  | with_reducible refine v_k_next ?_
  | with_reducible refine v_k_ret ?_
  | with_reducible refine v_k_brk ?_
  | with_reducible refine v_k_cont ?_
  | with_reducible refine v_set ?_
  | with_reducible refine v_if ?_
  | with_reducible refine v_ret ?_
  | with_reducible refine v_retN ?_
  | with_reducible refine v_nil ?_
  | with_reducible refine v_brk ?_
  | with_reducible refine v_cont ?_
  | with_reducible refine v_e ?_
  | with_reducible refine v_it ?_
  | with_reducible refine v_aug ?_
  | (with_reducible refine v_sl_val ?_; try dsimp only [List.set, FS.setE, C.toD])
  | (with_reducible refine v_sl_tmp ?h ?q; (case h => with_unfolding_all exact Nat.le_of_ble_eq_true rfl); (case' q => try dsimp only [List.set, FS.setE, C.toD]))
  | (with_reducible refine v_sl_pc ?_; try dsimp only [List.set, FS.setE, C.toD])
  | (with_reducible refine v_sl_ic ?_; try dsimp only [List.set, FS.setE, C.toD])
  | (with_reducible refine' w_var_val ?h0 ?q; (case h0 => with_unfolding_all rfl))
  | (with_reducible refine' w_var_own ?h0 ?q; (case h0 => with_unfolding_all rfl))
  | (with_reducible refine' w_var_pc ?h0 ?q; (case h0 => with_unfolding_all rfl))
  | (with_reducible refine' w_var_lck ?h0 ?q; (case h0 => with_unfolding_all rfl))
  | (with_reducible refine' w_var_ic ?h0 ?q; (case h0 => with_unfolding_all rfl))
  | with_reducible refine w_d ?_
  | with_reducible refine w_bin ?_
  | with_reducible refine w_cons ?_
  | with_reducible refine w_nil ?_
  | with_reducible refine w_T ?_
  | with_reducible refine w_asB ?_
  | with_reducible refine w_add ?_
  | with_reducible refine w_sub ?_
  | with_reducible refine w_lt ?_
  | with_reducible refine w_le ?_
  | with_reducible refine w_gt ?_
  | with_reducible refine w_ge ?_
  | with_reducible refine w_eqi ?_
  | with_reducible refine w_nei ?_
  | with_reducible refine w_mod ?_ ?_
  | with_reducible refine w_div ?_ ?_ ?_
  | with_reducible refine w_pow (by decide) ?_
  | with_reducible refine w_mul ?_ ?_
  | with_reducible refine w_addI ?_
  | with_reducible refine w_max ?_
  | with_reducible refine w_min ?_
  | with_reducible refine w_un ?_
  | with_reducible refine w_neg ?_
  | (with_reducible refine' w_ixl ?h0 ?h1 ?q; (case h0 => with_unfolding_all rfl); (case h1 => with_unfolding_all rfl))
  | (with_reducible refine' w_ixl ?h ?h2 ?q; (case h => with_unfolding_all rfl); (case' h2 => with_reducible refine atI_ints ?_ ?_))
  | (with_reducible refine' w_ixt ?h0 ?q; (case h0 => with_unfolding_all rfl))
  | with_reducible refine w_mand ?_
  | with_reducible refine w_mor ?_
  | with_reducible refine w_mnot ?_
  | with_reducible refine w_yes ?_
  | with_reducible refine w_eand ?_
  | with_reducible refine w_eor ?_
  | with_reducible refine w_enot ?_
  | with_reducible refine w_eif ?_
  | with_reducible refine w_ch ?_
  | with_reducible refine w_lst ?_
  | with_reducible refine w_tup ?_
  | with_reducible refine w_dict0 ?_
  | with_reducible refine w_cb ?_
  | with_reducible refine w_k1 ?_
  | with_reducible refine w_k2 ?_
  | with_reducible refine w_abs ?_
  | with_reducible refine w_int ?_
  | with_reducible refine w_intb ?_
  | (with_reducible refine' w_lenl ?h0 ?q; (case h0 => with_unfolding_all rfl))
  | with_reducible refine w_lent ?_
  | with_reducible refine w_isT ?_
  | with_reducible refine w_eCall ?_
  | with_reducible refine w_eqb ?_
  | with_reducible refine w_eqs ?_
  | with_reducible refine i_true ?_
  | with_reducible refine i_false ?_
  | with_reducible refine i_not ?_
  | with_reducible refine i_dec (fun _ => ?_) (fun _ => ?_)
  | with_reducible refine f_next ?_
  | with_reducible refine f_val ?_
  | with_reducible refine f_tmp ?_
  | with_reducible refine f_pc ?_
  | (with_reducible refine' f_var ?h0 ?q; (case h0 => with_unfolding_all rfl))
  | (with_reducible refine' i_lt ?h0 ?q; (case h0 => with_unfolding_all rfl))
  | (with_reducible refine' i_lf ?h0 ?q; (case h0 => with_unfolding_all rfl))
  | (with_reducible refine' x_it ?h ?h2 ?q; (case h => with_unfolding_all rfl); (case h2 => (with_reducible refine' setItem_lst ?a ?b ?c; (case a => with_unfolding_all rfl); (case b => with_unfolding_all rfl); (case c => with_unfolding_all rfl))); (case' q => try dsimp only [List.set, FS.setE, C.toD, Int.reduceToNat]))
  | (with_reducible refine' x_frz ?h0 ?h1 ?q; (case h0 => with_unfolding_all rfl); (case h1 => with_unfolding_all rfl); (case' q => try dsimp only [List.set, FS.setE, C.toD]))
  | (with_reducible refine' x_call ?h0 ?h1 ?q; (case h0 => with_unfolding_all rfl); (case h1 => with_unfolding_all rfl); (case' q => try dsimp only [List.set, FS.setE, C.toD]))
  | (with_reducible refine' x_back ?h0 ?q; (case h0 => with_unfolding_all rfl); (case' q => try dsimp only [List.set, FS.setE, C.toD]))
  | (with_reducible refine' x_ty ?h0 ?q; (case h0 => with_unfolding_all rfl))
  | (with_reducible refine' x_frz1 ?h0 ?q; (case h0 => with_unfolding_all rfl); (case' q => try dsimp only [List.set, FS.setE, C.toD]))
  | with_reducible refine x_r1 ⟨?_, ?_⟩ ?_
  | with_reducible refine x_r2 ⟨?_, ?_, ?_, ?_⟩ ?_
  | with_reducible refine w_m ?_
  | (with_reducible refine' x_has ?h0 ?q; (case h0 => with_unfolding_all rfl))
  | (with_reducible refine' w_app ?h ?h1 ?h2 ?h3 ?h4 ?q; (case h => with_unfolding_all rfl); (case h1 => with_unfolding_all rfl); (case h3 => rfl); (case h4 => with_unfolding_all rfl); (case' q => try dsimp only [List.set, FS.setE, C.toD]))
  | with_reducible refine w_isT ?_
  | (with_reducible refine' w_is ?h0 ?q; (case h0 => with_unfolding_all rfl))
  | (with_reducible refine' w_call ?h0 ?q; (case h0 => with_unfolding_all rfl); (case' q => try dsimp only [List.nil_append, List.cons_append, List.length_nil, List.length_cons, Nat.reduceAdd]))
  | (with_reducible refine' w_listOf ?h0 ?q; (case h0 => with_unfolding_all rfl))
  | (with_reducible refine' w_tupOf ?h0 ?q; (case h0 => with_unfolding_all rfl))
  | (with_reducible show @LE.le Int _ _ _; omega)
  | (with_reducible show @LT.lt Int _ _ _; omega)
  | fail)
local macro_rules | `(tactic| wtm_at "vl") => `(tactic| first
  | with_reducible refine pick_w (by assumption) ?_ ?_ (fun _ _ _ _ _ => ?_)
  | with_reducible refine size_w (by assumption) ?_ (fun _ _ _ _ _ _ => ?_)
  | with_reducible refine wide_w (by assumption) ?_ (fun _ _ _ _ _ => ?_)
  | with_reducible refine place_w (by assumption) ?_ (fun _ _ _ _ _ => ?_)
  | with_reducible refine near_w (by assumption) ?_ ?_ ?_ (fun _ _ _ _ _ => ?_)
  | with_reducible refine circle_w (by assumption) ?_ (fun _ _ _ _ _ _ => ?_)
  | with_reducible refine tape_w (by assumption) (fun _ _ => ?_)
  | with_reducible refine far_w ?_ ?_)
local macro_rules | `(tactic| wtm_at "gk") => `(tactic| first | with_unfolding_all assumption | with_unfolding_all rfl | exact g_app | (apply g_set; wtm_at "gk") | (apply g_appL; wtm_at "gk") | (apply g_ne; (first | assumption | omega); wtm_at "gk"))
local macro_rules | `(tactic| wtm_at "vl") => `(tactic| first
  | (with_reducible refine' i_st ?h0 ?q; (case h0 => decide +kernel))
  | (with_reducible refine' i_sf ?h0 ?q; (case h0 => decide +kernel))
  | (with_reducible refine l_next ?_; try dsimp only)
  | (with_reducible refine l_cont ?_; try dsimp only)
  | with_reducible refine l_brk ?_
  | with_reducible refine l_ret ?_
  | with_reducible refine w_fld ?_
  | (with_reducible refine' x_fld ?h0 ?h1 ?h2 ?q; (case h0 => wtm_at "gk"); (case h1 => with_unfolding_all first | exact List.mem_cons_self | exact List.mem_cons_of_mem _ List.mem_cons_self); (case h2 => with_unfolding_all rfl); (case' q => try dsimp only [fldR]))
  | with_reducible refine w_meth ?_
  | (with_reducible refine' x_meth ?h0 ?h1 ?h2 ?q; (case h0 => wtm_at "gk"); (case h1 => with_unfolding_all rfl); (case h2 => with_unfolding_all rfl); (case' q => try dsimp only [List.map_nil, List.map_cons, List.append_nil, List.cons_append, List.nil_append]))
  | (with_reducible refine w_make ?_; try dsimp only [List.map_nil, List.map_cons, List.append_nil, List.cons_append, List.nil_append, List.length_nil, List.length_cons, Nat.reduceAdd])
  | with_reducible refine m_mk ?_
  | with_reducible refine w_eLc ?_
  | with_reducible refine w_eLn ?_
  | with_reducible refine v_fld ?_
  | (with_reducible refine' x_stf ?h0 ?h1 ?h2 ?q; (case h0 => wtm_at "gk"); (case h1 => with_unfolding_all first | exact List.mem_cons_self | exact List.mem_cons_of_mem _ List.mem_cons_self); (case h2 => first | (with_reducible refine' storeF_val ?a ?b; (case a => wtm_at "gk"); (case b => with_unfolding_all rfl)) | (with_reducible refine' storeF_tmp ?a ?b; (case a => wtm_at "gk"); (case b => with_unfolding_all rfl))); (case' q => try dsimp only [List.set]; try simp only [List.set_set]))
  | with_reducible refine w_box ?_
  | (with_reducible refine x_boxed ?_)
  | (with_reducible refine w_callD ?_; try dsimp only [List.map_nil, List.map_cons, List.append_nil, List.cons_append, List.nil_append])
  | (with_reducible refine' w_app ?h ?h1 ?h2 ?h3 ?h4 ?q; (case h => with_unfolding_all rfl); (case h1 => with_unfolding_all rfl); (case h3 => with_unfolding_all rfl); (case h4 => with_unfolding_all rfl); (case h2 => with_unfolding_all exact Nat.le_of_ble_eq_true rfl); (case' q => try dsimp only [List.set, FS.setE, C.toD, List.nil_append, List.cons_append]))
  | (with_reducible refine' w_app ?h ?h1 ?h2 ?h3 ?h4 ?q; (case h => with_unfolding_all rfl); (case h1 => with_unfolding_all rfl); (case h3 => with_unfolding_all rfl); (case h4 => with_unfolding_all rfl); (case' q => try dsimp only [List.set, FS.setE, C.toD, List.nil_append, List.cons_append]))
  | with_reducible refine v_par ?_
  | with_reducible refine v_tupA ?_
  | with_reducible refine w_dm1 ?_
  | with_reducible refine w_dm2 ?_
  | (with_reducible refine' w_ixb ?h0 ?h1 ?q; (case h0 => wtm_at "gk"); (case h1 => with_unfolding_all rfl))
  | (with_reducible refine' w_lenb ?h0 ?q; (case h0 => wtm_at "gk"))
  | (with_reducible refine' x_itb ?h0 ?h1 ?h2 ?q; (case h0 => with_unfolding_all rfl); (case h1 => wtm_at "gk"); (case h2 => with_unfolding_all rfl); (case' q => try dsimp only [List.set, FS.setE, C.toD, Int.reduceToNat]; try simp only [List.set_set]))
  | fail)
local macro_rules | `(tactic| wtm_at "vl") => `(tactic| first
  | with_reducible refine between_w ?_ ?_
  | with_reducible refine lfar_w ?_ ?_
  | with_reducible refine lbetween_w ?_ ?_
  | with_reducible refine places_w (by assumption) ?_ ?_ ?_ ?_ (fun _ _ _ _ _ _ => ?_)
  | fail)
local macro_rules | `(tactic| wtm_at "ck") => `(tactic| first
  | with_unfolding_all rfl
  | (with_unfolding_all refine' cont_ic ?a ?b; (case a => wtm_at "gk"); (case b => with_unfolding_all rfl))
  | (with_unfolding_all refine' cont_box ?a; (case a => wtm_at "gk"))
  | (with_unfolding_all refine' Hold.cont ?a; (case a => with_unfolding_all assumption)))
local macro_rules | `(tactic| wtm_at "pk") => `(tactic| first
  | with_unfolding_all rfl
  | (with_unfolding_all refine' put_ic ?a ?b ?c; (case a => wtm_at "gk"); (case b => with_unfolding_all rfl); (case c => exact fun _ z => nomatch z))
  | (with_unfolding_all refine' put_box ?a ?c; (case a => wtm_at "gk"); (case c => exact fun _ z => nomatch z)))
local macro_rules | `(tactic| wtm_at "vl") => `(tactic| first
  | (with_reducible refine' c_ixd ?h0 ?h1 ?q; (case h0 => wtm_at "ck"); (case' q => try dsimp only [nxF, bfF]))
  | (with_reducible refine' c_ixl ?h0 ?h1 ?q; (case h0 => wtm_at "ck"); (case h1 => first | with_unfolding_all rfl | assumption))
  | (with_reducible refine' c_len ?h0 ?q; (case h0 => wtm_at "ck"))
  | (with_reducible refine' c_lend ?h0 ?q; (case h0 => wtm_at "ck"))
  | (with_reducible refine' c_in ?h0 ?q; (case h0 => wtm_at "ck"))
  | (with_reducible refine' c_sorted ?h0 ?h1 ?q; (case h0 => wtm_at "ck"))
  | (with_reducible refine' c_get1 ?h0 ?q; (case h0 => wtm_at "ck"))
  | (with_reducible refine' c_dictOf ?h0 ?q; (case h0 => wtm_at "ck"))
  | (with_reducible refine' c_listOf ?h0 ?q; (case h0 => wtm_at "ck"))
  | (with_reducible refine' c_tupOf ?h0 ?q; (case h0 => wtm_at "ck"))
  | (with_reducible refine c_dm1 ?_)
  | (with_reducible refine' x_contD ?h0 ?q; (case h0 => wtm_at "ck"))
  | (with_reducible refine' c_app ?h ?h1 ?h2 ?h3 ?h4 ?q; (case h => with_unfolding_all rfl); (case h1 => wtm_at "ck"); (case h3 => with_unfolding_all rfl); (case h4 => wtm_at "pk"); (case' q => try dsimp only [List.set, FS.setE, C.toD, List.nil_append, List.cons_append]; try simp only [List.set_set]))
  | (with_reducible refine' x_hasL ?h0 ?q; (case h0 => wtm_at "ck"))
  | (with_reducible refine' c_setdM ?h0 ?h1 ?h2 ?h3 ?h4 ?q; (case h0 => with_unfolding_all rfl); (case h1 => wtm_at "ck"); (case h4 => wtm_at "pk"); (case' q => try dsimp only [List.set, FS.setE, C.toD, List.nil_append, List.cons_append]; try simp only [List.set_set]))
  | (with_reducible refine' w_varA ?ha ?h0 ?q; (case h0 => with_unfolding_all rfl); (case ha => assumption))
  | fail)
local macro_rules | `(tactic| wtm_at "vl") => `(tactic| first
  | with_reducible refine cplace_w ?_ ?_
  | (with_reducible refine' chouses1_w ?h0 ?h1 ?q; (case h0 => wtm_at "gk"))
  | (with_reducible refine' chouses2_w ?h0 ?h1 ?h2 ?q; (case h0 => wtm_at "gk"))
  | (with_reducible refine' nlose_w ?h ?h0 ?h1 ?h2 ?q; (case h0 => wtm_at "gk"); (case h => assumption); (case h1 => assumption); (case h2 => assumption))
  | (with_reducible refine' nread_w ?h ?h0 ?h1 ?h2 ?q; (case h0 => wtm_at "gk"); (case h => assumption); (case h1 => assumption); (case h2 => assumption))
  | (with_reducible refine' nrepeat_w ?h ?h0 ?h1 ?h2 ?q; (case h0 => wtm_at "gk"); (case h => assumption); (case h1 => assumption); (case h2 => assumption))
  | (with_reducible refine' ntell_w ?h ?h0 ?h1 ?q; (case h0 => wtm_at "gk"); (case h => assumption))
  | (with_reducible refine' nask_w ?h ?h0 ?h1 ?q; (case h0 => wtm_at "gk"); (case h => assumption))
  | (with_reducible refine' nhold_w ?h ?h0 ?h1 ?h2 ?q; (case h0 => wtm_at "gk"); (case h => assumption))
  | (with_reducible refine' nletters_w ?h0 ?q; (case h0 => wtm_at "gk"))
  | fail)
local macro_rules | `(tactic| wtm_at "vl") => `(tactic| first
  | (with_reducible refine lp_next ?_; try dsimp only)
  | (with_reducible refine lp_cont ?_; try dsimp only)
  | with_reducible refine lp_brk ?_
  | with_reducible refine lp_ret ?_
  | (with_reducible refine' c_inY ?h0 ?h1 ?q; (case h0 => wtm_at "ck"); (case h1 => assumption))
  | (with_reducible refine' c_inN ?h0 ?h1 ?q; (case h0 => wtm_at "ck"); (case h1 => assumption))
  | (with_reducible refine' c_ixdE ?h0 ?h1 ?h2 ?q; (case h0 => wtm_at "ck"); (case h1 => assumption); (case h2 => assumption))
  | (with_reducible refine' c_get1E ?h0 ?h1 ?q; (case h0 => wtm_at "ck"); (case h1 => assumption))
  | (with_reducible refine' c_popAt ?h0 ?h1 ?h2 ?h3 ?h4 ?q; (case h0 => wtm_at "ck"); (case h2 => assumption); (case h3 => assumption); (case h4 => wtm_at "pk"); (case' h1 => try assumption); (case' q => try dsimp only [List.set, FS.setE, C.toD]; try simp only [List.set_set]))
  | (with_reducible refine' c_sorted ?h0 ?h1 ?q; (case h0 => wtm_at "ck"); (case h1 => assumption))
  | (with_reducible refine' c_setdM ?h0 ?h1 ?h2 ?h3 ?h4 ?q; (case h0 => with_unfolding_all rfl); (case h1 => wtm_at "ck"); (case h2 => assumption); (case h4 => wtm_at "pk"); (case h3 => first | assumption | omega); (case' q => try dsimp only [List.set, FS.setE, C.toD, List.nil_append, List.cons_append]; try simp only [List.set_set]))
  | (with_reducible refine' c_setdN ?h0 ?h1 ?h2 ?h3 ?h4 ?q; (case h0 => with_unfolding_all rfl); (case h1 => wtm_at "ck"); (case h2 => assumption); (case h4 => wtm_at "pk"); (case h3 => first | assumption | omega); (case' q => try dsimp only [List.set, FS.setE, C.toD, List.nil_append, List.cons_append]; try simp only [List.set_set]))
  | (with_reducible refine' c_ixdL ?h0 ?h1 ?q; (case h0 => wtm_at "ck"); (case h1 => first | assumption | skip); (case' q => try dsimp only [nxF, bfF]))
  | (with_reducible refine' w_sortI ?h0 ?q; (case h0 => with_unfolding_all rfl))
  | (with_reducible refine same_vv ?_ ?_ ?_)
  | (with_reducible refine' same_01 ?h0 ?h1 ?h2 ?q; (case h0 => with_unfolding_all rfl))
  | (with_reducible refine' same_v0 ?h0 ?h2 ?q; (case h0 => with_unfolding_all rfl))
  | (with_reducible refine' same_0v ?h0 ?h2 ?q; (case h0 => with_unfolding_all rfl))
  | (with_reducible refine' w_eqL ?h0 ?h1 ?h2 ?h3 ?q; (case h0 => with_unfolding_all rfl); (case h1 => with_unfolding_all rfl); (case h2 => with_unfolding_all (intro _ z; cases z)); (case h3 => with_unfolding_all (intro _ z; cases z)))
  | fail)
local macro_rules | `(tactic| wtm_at "vl") => `(tactic| first
  | (with_reducible refine' c_lenM ?h0 ?q; (case h0 => wtm_at "ck"))
  | fail)
local macro_rules | `(tactic| wtm_at "gk") => `(tactic| first | with_reducible assumption | with_unfolding_all rfl | exact g_app | (with_reducible apply g_set; wtm_at "gk") | (with_reducible apply g_appL; wtm_at "gk") | (with_reducible apply g_ne; (first | assumption | omega); wtm_at "gk"))
local macro_rules | `(tactic| wtm_at "ck") => `(tactic| first
  | with_unfolding_all rfl
  | (with_reducible refine' cont_ic ?a ?b; (case a => wtm_at "gk"); (case b => with_unfolding_all rfl))
  | (with_reducible refine' cont_box ?a; (case a => wtm_at "gk"))
  | (with_reducible refine' Hold.cont ?a; (case a => with_reducible assumption)))
theorem NtOk.rdL {N : Nt} (ok : NtOk N) {l : Lt} (hl : ∀ p ∈ l.ps, p ∈ N.ks) (h : N.ls.length < 100000) : NtOk (N.rdL l).2 := by
  cases l with
  | tell a s =>
    simp only [Nt.rdL, Nt.rdT]
    split
    · exact ok.behind fun b hb => by cases hb; exact hl s (by simp [Lt.ps])
    · exact ok
  | ask a s =>
    simp only [Nt.rdL, Nt.rdK]
    have ha := hl a (by simp [Lt.ps])
    cases hb : N.bf a with
    | none => exact ok
    | some b =>
      exact ok.app (fun p hp => by
        simp [Lt.ps] at hp
        rcases hp with rfl | rfl | rfl
        · exact hl p (by simp [Lt.ps])
        · exact ha
        · exact ok.bf a ha p hb) h
  | ans a s m =>
    simp only [Nt.rdL, Nt.rdA]
    split
    · exact ok.hold (hl m (by simp [Lt.ps]))
    · exact ok
theorem Bh.rdL {N : Nt} {kb : List Int} (b : Bh N kb) {l : Lt} (hl : ∀ p ∈ l.ps, p ∈ N.ks) : Bh (N.rdL l).2 (kbL N kb l) := by
  cases l with
  | tell a s =>
    simp only [Nt.rdL, Nt.rdT, kbL]
    by_cases h : N.told a s = true
    · rw [if_pos h, if_pos h]; exact b.step (hl a (by simp [Lt.ps]))
    · rw [if_neg h, if_neg h]; exact b
  | ask a s =>
    simp only [Nt.rdL, Nt.rdK, kbL]
    cases hb : N.bf a <;> exact ⟨b.nd, b.sub, b.has⟩
  | ans a s m =>
    simp only [Nt.rdL, Nt.rdA, kbL]
    split <;> exact ⟨b.nd, b.sub, b.has⟩
theorem Bh.cut {N : Nt} {kb : List Int} (b : Bh N kb) {i : Nat} : Bh (N.cut i) kb := ⟨b.nd, b.sub, b.has⟩
end VL
set_option maxRecDepth 100000
set_option maxHeartbeats 4000000
namespace VL
open PySem PySem.Spec L2
open PyProof.Rows hiding St
section
variable {Q : R → FS → Prop} {X : Ex → FS → Prop} {s : FS}
theorem c_slHi {α : Type} {a : R} {f : α → D} {ys : List α} {i : Int} (hc : cont s a = some (.lst (ys.map f))) (h : 0 ≤ i) (q : Q (.tmp (.lst ((ys.take i.toNat).map f))) s) : wp (kSlHi a (.val (.int i)) s) Q X := by
  obtain ⟨k, rfl⟩ := Int.eq_ofNat_of_zero_le h
  refine w_slHi (w_sll (seqL_of hc) ?_)
  rw [cut_hi, ← List.map_take]; exact q
theorem c_slLo {α : Type} {a : R} {f : α → D} {ys : List α} {i : Int} (hc : cont s a = some (.lst (ys.map f))) (h : 0 ≤ i) (q : Q (.tmp (.lst ((ys.drop i.toNat).map f))) s) : wp (kSlLo a (.val (.int i)) s) Q X := by
  obtain ⟨k, rfl⟩ := Int.eq_ofNat_of_zero_le h
  refine w_slLo (w_sll (seqL_of hc) ?_)
  rw [cut_lo, ← List.map_drop]; exact q
end
theorem w_stopLc {Q : R → FS → Prop} {X : Ex → FS → Prop} {s : FS} {f : M Lp} {own : List Nat} {g : D → FS → Option FS} {t : M Bool} {e : M R} (h : Stop (wp (eLc f own g t e s) Q X)) : wp (eLc f own g t e s) Q X := h
theorem v_stopRet {f : M R} {Q : SRes → Prop} {s : FS} (h : Stop (wpS (sRet f s) Q)) : wpS (sRet f s) Q := h
theorem v_stopSet {i : Nat} {f : M R} {g : SM} {Q : SRes → Prop} {s : FS} (h : Stop (wpS (sSeq (sSet i f) g s) Q)) : wpS (sSeq (sSet i f) g s) Q := h
theorem i_decX {A B p : Prop} [Decidable p] (h1 : ¬ p → A) (h2 : p → B) : ((decide p ^^ true) = true → A) ∧ ((decide p ^^ true) = false → B) := by
  by_cases h : p
  · rw [decide_eq_true h]; exact ⟨(fun z => nomatch z), fun _ => h2 h⟩
  · rw [decide_eq_false h]; exact ⟨fun _ => h1 h, (fun z => nomatch z)⟩
theorem i_decF {A B p : Prop} [Decidable p] (h1 : p → A) (h2 : ¬ p → B) : ((decide p ^^ false) = true → A) ∧ ((decide p ^^ false) = false → B) := by
  rw [Bool.xor_false]; exact i_dec h1 h2
end VL
set_option maxRecDepth 100000
set_option maxHeartbeats 4000000
namespace VL
open PySem PySem.Spec L2
open PyProof.Rows hiding St
noncomputable def b__law_sayings : SM := (sSeq (sSet 4 (eLc (iAny (eCB (k1 kSorted) (eCons (eVar 1) eNil))) [5] (gSet 5) mYes (eTup (eCons (eVar 5) (eCons (eB kIx (eVar 1) (eVar 5)) (eCons (eCall d__law_far (eCons (eVar 0) (eCons (eVar 5) (eCons (eB kIx (eVar 1) (eVar 5)) eNil)))) eNil))))))
  (sSeq (sFor (iAny (eCB (k1 kSorted) (eCons (eVar 2) eNil))) (gSet 5)
  (sIf (eT (eB (kIsN true) (eB kIx (eVar 2) (eVar 5)) (eD .non)))
  (sE (eM "list" kApp (eVar 4) (eCons (eTup (eCons (eB kIx (eVar 2) (eVar 5)) (eCons (eVar 5) (eCons (eCall d__law_far (eCons (eVar 0) (eCons (eB kIx (eVar 2) (eVar 5)) (eCons (eVar 5) eNil)))) eNil)))) eNil)))
  sNil))
  (sSeq (sFor (iAny (eVar 3)) (gSet 6)
  (sSeq (sIf (eT (eB (kEqN false) (eB kIx (eVar 6) (eD (.int 0))) (eD (.str "tell"))))
  (sE (eM "list" kApp (eVar 4) (eCons (eTup (eCons (eB kIx (eVar 6) (eD (.int 2))) (eCons (eB kIx (eVar 6) (eD (.int 1))) (eCons (eCall d__law_far (eCons (eVar 0) (eCons (eB kIx (eVar 6) (eD (.int 2))) (eCons (eB kIx (eVar 6) (eD (.int 1))) eNil)))) eNil)))) eNil)))
  sNil)
  (sIf (eT (eB (kEqN false) (eB kIx (eVar 6) (eD (.int 0))) (eD (.str "answer"))))
  (sE (eM "list" kApp (eVar 4) (eCons (eTup (eCons (eB kIx (eVar 6) (eD (.int 3))) (eCons (eB kIx (eVar 6) (eD (.int 2))) (eCons (eCall d__law_far (eCons (eVar 0) (eCons (eB kIx (eVar 6) (eD (.int 3))) (eCons (eB kIx (eVar 6) (eD (.int 2))) eNil)))) eNil)))) eNil)))
  sNil)))
  (sRet (eVar 4)))))
noncomputable def d__law_sayings : Den := mkDen 4 3 b__law_sayings
noncomputable def b_letter_saying : SM := (sSeq (sIf (eT (eB (kEqN false) (eB kIx (eVar 1) (eD (.int 0))) (eD (.str "tell"))))
  (sRet (eTup (eCons (eB kIx (eVar 1) (eD (.int 2))) (eCons (eB kIx (eVar 1) (eD (.int 1))) (eCons (eCall d_far (eCons (eVar 0) (eCons (eB kIx (eVar 1) (eD (.int 2))) (eCons (eB kIx (eVar 1) (eD (.int 1))) eNil)))) eNil)))))
  sNil)
  (sSeq (sIf (eT (eB (kEqN false) (eB kIx (eVar 1) (eD (.int 0))) (eD (.str "answer"))))
  (sRet (eTup (eCons (eB kIx (eVar 1) (eD (.int 3))) (eCons (eB kIx (eVar 1) (eD (.int 2))) (eCons (eCall d_far (eCons (eVar 0) (eCons (eB kIx (eVar 1) (eD (.int 3))) (eCons (eB kIx (eVar 1) (eD (.int 2))) eNil)))) eNil)))))
  sNil)
  (sRet (eD .non))))
noncomputable def d_letter_saying : Den := mkDen 2 0 b_letter_saying
noncomputable def b_sayings : SM := (sSeq (sSet 1 (eFld ["Net"] "size" (eVar 0)))
  (sSeq (sSet 2 (eMeth "Net" "nexts" d_Net_nexts [] (eVar 0) eNil))
  (sSeq (sSet 3 (eMeth "Net" "befores" d_Net_befores [] (eVar 0) eNil))
  (sSeq (sSet 4 (eLc (iAny (eCB (k1 kSorted) (eCons (eVar 2) eNil))) [5] (gSet 5) mYes (eTup (eCons (eVar 5) (eCons (eB kIx (eVar 2) (eVar 5)) (eCons (eCall d_far (eCons (eVar 1) (eCons (eVar 5) (eCons (eB kIx (eVar 2) (eVar 5)) eNil)))) eNil))))))
  (sSeq (sFor (iAny (eCB (k1 kSorted) (eCons (eVar 3) eNil))) (gSet 5)
  (sE (eM "list" kApp (eVar 4) (eCons (eTup (eCons (eB kIx (eVar 3) (eVar 5)) (eCons (eVar 5) (eCons (eCall d_far (eCons (eVar 1) (eCons (eB kIx (eVar 3) (eVar 5)) (eCons (eVar 5) eNil)))) eNil)))) eNil))))
  (sSeq (sFor (iAny (eMeth "Net" "letters" d_Net_letters [] (eVar 0) eNil)) (gSet 6)
  (sSeq (sSet 7 (eCall d_letter_saying (eCons (eVar 1) (eCons (eVar 6) eNil))))
  (sIf (eT (eB (kIsN true) (eVar 7) (eD .non)))
  (sE (eM "list" kApp (eVar 4) (eCons (eVar 7) eNil)))
  sNil)))
  (sRet (eVar 4))))))))
noncomputable def d_sayings : Den := mkDen 1 7 b_sayings
noncomputable def b_Net_snapshot : SM := (sSeq (sSet 1 (eLc (iAny (eCB (k1 kSorted) (eCons (eFld ["Net"] "_nexts" (eVar 0)) eNil))) [2] (gSet 2) mYes (eTup (eCons (eVar 2) (eCons (eB kIx (eFld ["Net"] "_nexts" (eVar 0)) (eVar 2)) (eCons (eB kIx (eFld ["Net"] "_befores" (eVar 0)) (eVar 2)) eNil))))))
  (sRet (eTup (eCons (eFld ["Net"] "size" (eVar 0)) (eCons (eCB (k1 kTupOf) (eCons (eVar 1) eNil)) (eCons (eCB (k1 kTupOf) (eCons (eFld ["Net"] "_letters" (eVar 0)) eNil)) eNil))))))
noncomputable def d_Net_snapshot : Den := mkDen 1 2 b_Net_snapshot
noncomputable def b__law_snapshot : SM := (sSeq (sSet 4 (eLc (iAny (eCB (k1 kSorted) (eCons (eVar 1) eNil))) [5] (gSet 5) mYes (eTup (eCons (eVar 5) (eCons (eB kIx (eVar 1) (eVar 5)) (eCons (eDM1 kGet1 (eVar 2) (eVar 5)) eNil))))))
  (sRet (eTup (eCons (eVar 0) (eCons (eCB (k1 kTupOf) (eCons (eVar 4) eNil)) (eCons (eCB (k1 kTupOf) (eCons (eVar 3) eNil)) eNil))))))
noncomputable def d__law_snapshot : Den := mkDen 4 2 b__law_snapshot
noncomputable def b_Net_admit : SM := (sSeq (sE (eCall d_check_place (eCons (eFld ["Net"] "size" (eVar 0)) (eCons (eVar 1) eNil))))
  (sSeq (sIf (eT (eB (kIn false) (eVar 1) (eFld ["Net"] "_nexts" (eVar 0))))
  sNever
  sNil)
  (sSeq (sIf (eT (eB (kEqN true) (eVar 2) (eVar 1)))
  (sE (eCall d_check_houses (eCons (eFld ["Net"] "_nexts" (eVar 0)) (eCons (eLst (eCons (eVar 2) eNil)) eNil))))
  sNil)
  (sSeq (sSetIt (eFld ["Net"] "_nexts" (eVar 0)) (eVar 1) (eVar 2))
  (sSetIt (eFld ["Net"] "_befores" (eVar 0)) (eVar 1) (eD .non))))))
noncomputable def d_Net_admit : Den := mkDen 3 0 b_Net_admit
local macro_rules | `(tactic| wtm_at "vl") => `(tactic| first
  | with_reducible refine v_seq ?_
  | with_reducible refine v_k_next ?_
  | with_reducible refine v_k_ret ?_
  | with_reducible refine v_k_brk ?_
  | with_reducible refine v_k_cont ?_
  | with_reducible refine v_set ?_
  | with_reducible refine v_if ?_
  | with_reducible refine v_ret ?_
  | with_reducible refine v_retN ?_
  | with_reducible refine v_nil ?_
  | with_reducible refine v_brk ?_
  | with_reducible refine v_cont ?_
  | with_reducible refine v_e ?_
  | with_reducible refine v_it ?_
  | with_reducible refine v_aug ?_
  | (with_reducible refine v_sl_val ?_; try dsimp only [List.set, FS.setE, C.toD])
  | (with_reducible refine v_sl_tmp ?h ?q; (case h => with_unfolding_all exact Nat.le_of_ble_eq_true rfl); (case' q => try dsimp only [List.set, FS.setE, C.toD]))
  | (with_reducible refine v_sl_pc ?_; try dsimp only [List.set, FS.setE, C.toD])
  | (with_reducible refine v_sl_ic ?_; try dsimp only [List.set, FS.setE, C.toD])
  | (with_reducible refine' w_var_val ?h0 ?q; (case h0 => with_unfolding_all rfl))
  | (with_reducible refine' w_var_own ?h0 ?q; (case h0 => with_unfolding_all rfl))
  | (with_reducible refine' w_var_pc ?h0 ?q; (case h0 => with_unfolding_all rfl))
  | (with_reducible refine' w_var_lck ?h0 ?q; (case h0 => with_unfolding_all rfl))
  | (with_reducible refine' w_var_ic ?h0 ?q; (case h0 => with_unfolding_all rfl))
  | with_reducible refine w_d ?_
  | with_reducible refine w_bin ?_
  | with_reducible refine w_cons ?_
  | with_reducible refine w_nil ?_
  | with_reducible refine w_T ?_
  | with_reducible refine w_asB ?_
  | with_reducible refine w_add ?_
  | with_reducible refine w_sub ?_
  | with_reducible refine w_lt ?_
  | with_reducible refine w_le ?_
  | with_reducible refine w_gt ?_
  | with_reducible refine w_ge ?_
  | with_reducible refine w_eqi ?_
  | with_reducible refine w_nei ?_
  | with_reducible refine w_mod ?_ ?_
  | with_reducible refine w_div ?_ ?_ ?_
  | with_reducible refine w_pow (by decide) ?_
  | with_reducible refine w_mul ?_ ?_
  | with_reducible refine w_addI ?_
  | with_reducible refine w_max ?_
  | with_reducible refine w_min ?_
  | with_reducible refine w_un ?_
  | with_reducible refine w_neg ?_
  | (with_reducible refine' w_ixl ?h0 ?h1 ?q; (case h0 => with_unfolding_all rfl); (case h1 => with_unfolding_all rfl))
  | (with_reducible refine' w_ixl ?h ?h2 ?q; (case h => with_unfolding_all rfl); (case' h2 => with_reducible refine atI_ints ?_ ?_))
  | (with_reducible refine' w_ixt ?h0 ?q; (case h0 => with_unfolding_all rfl))
  | with_reducible refine w_mand ?_
  | with_reducible refine w_mor ?_
  | with_reducible refine w_mnot ?_
  | with_reducible refine w_yes ?_
  | with_reducible refine w_eand ?_
  | with_reducible refine w_eor ?_
  | with_reducible refine w_enot ?_
  | with_reducible refine w_eif ?_
  | with_reducible refine w_ch ?_
  | with_reducible refine w_lst ?_
  | with_reducible refine w_tup ?_
  | with_reducible refine w_dict0 ?_
  | with_reducible refine w_cb ?_
  | with_reducible refine w_k1 ?_
  | with_reducible refine w_k2 ?_
  | with_reducible refine w_abs ?_
  | with_reducible refine w_int ?_
  | with_reducible refine w_intb ?_
  | (with_reducible refine' w_lenl ?h0 ?q; (case h0 => with_unfolding_all rfl))
  | with_reducible refine w_lent ?_
  | with_reducible refine w_isT ?_
  | with_reducible refine w_eCall ?_
  | with_reducible refine w_eqb ?_
  | with_reducible refine w_eqs ?_
  | with_reducible refine i_true ?_
  | with_reducible refine i_false ?_
  | with_reducible refine i_not ?_
  | with_reducible refine i_dec (fun _ => ?_) (fun _ => ?_)
  | with_reducible refine f_next ?_
  | with_reducible refine f_val ?_
  | with_reducible refine f_tmp ?_
  | with_reducible refine f_pc ?_
  | (with_reducible refine' f_var ?h0 ?q; (case h0 => with_unfolding_all rfl))
  | (with_reducible refine' i_lt ?h0 ?q; (case h0 => with_unfolding_all rfl))
  | (with_reducible refine' i_lf ?h0 ?q; (case h0 => with_unfolding_all rfl))
  | (with_reducible refine' x_it ?h ?h2 ?q; (case h => with_unfolding_all rfl); (case h2 => (with_reducible refine' setItem_lst ?a ?b ?c; (case a => with_unfolding_all rfl); (case b => with_unfolding_all rfl); (case c => with_unfolding_all rfl))); (case' q => try dsimp only [List.set, FS.setE, C.toD, Int.reduceToNat]))
  | (with_reducible refine' x_frz ?h0 ?h1 ?q; (case h0 => with_unfolding_all rfl); (case h1 => with_unfolding_all rfl); (case' q => try dsimp only [List.set, FS.setE, C.toD]))
  | (with_reducible refine' x_call ?h0 ?h1 ?q; (case h0 => with_unfolding_all rfl); (case h1 => with_unfolding_all rfl); (case' q => try dsimp only [List.set, FS.setE, C.toD]))
  | (with_reducible refine' x_back ?h0 ?q; (case h0 => with_unfolding_all rfl); (case' q => try dsimp only [List.set, FS.setE, C.toD]))
  | (with_reducible refine' x_ty ?h0 ?q; (case h0 => with_unfolding_all rfl))
  | (with_reducible refine' x_frz1 ?h0 ?q; (case h0 => with_unfolding_all rfl); (case' q => try dsimp only [List.set, FS.setE, C.toD]))
  | with_reducible refine x_r1 ⟨?_, ?_⟩ ?_
  | with_reducible refine x_r2 ⟨?_, ?_, ?_, ?_⟩ ?_
  | with_reducible refine w_m ?_
  | (with_reducible refine' x_has ?h0 ?q; (case h0 => with_unfolding_all rfl))
  | (with_reducible refine' w_app ?h ?h1 ?h2 ?h3 ?h4 ?q; (case h => with_unfolding_all rfl); (case h1 => with_unfolding_all rfl); (case h3 => rfl); (case h4 => with_unfolding_all rfl); (case' q => try dsimp only [List.set, FS.setE, C.toD]))
  | with_reducible refine w_isT ?_
  | (with_reducible refine' w_is ?h0 ?q; (case h0 => with_unfolding_all rfl))
  | (with_reducible refine' w_call ?h0 ?q; (case h0 => with_unfolding_all rfl); (case' q => try dsimp only [List.nil_append, List.cons_append, List.length_nil, List.length_cons, Nat.reduceAdd]))
  | (with_reducible refine' w_listOf ?h0 ?q; (case h0 => with_unfolding_all rfl))
  | (with_reducible refine' w_tupOf ?h0 ?q; (case h0 => with_unfolding_all rfl))
  | (with_reducible show @LE.le Int _ _ _; omega)
  | (with_reducible show @LT.lt Int _ _ _; omega)
  | fail)
local macro_rules | `(tactic| wtm_at "vl") => `(tactic| first
  | with_reducible refine pick_w (by assumption) ?_ ?_ (fun _ _ _ _ _ => ?_)
  | with_reducible refine size_w (by assumption) ?_ (fun _ _ _ _ _ _ => ?_)
  | with_reducible refine wide_w (by assumption) ?_ (fun _ _ _ _ _ => ?_)
  | with_reducible refine place_w (by assumption) ?_ (fun _ _ _ _ _ => ?_)
  | with_reducible refine near_w (by assumption) ?_ ?_ ?_ (fun _ _ _ _ _ => ?_)
  | with_reducible refine circle_w (by assumption) ?_ (fun _ _ _ _ _ _ => ?_)
  | with_reducible refine tape_w (by assumption) (fun _ _ => ?_)
  | with_reducible refine far_w ?_ ?_)
local macro_rules | `(tactic| wtm_at "gk") => `(tactic| first | with_unfolding_all assumption | with_unfolding_all rfl | exact g_app | (apply g_set; wtm_at "gk") | (apply g_appL; wtm_at "gk") | (apply g_ne; (first | assumption | omega); wtm_at "gk"))
local macro_rules | `(tactic| wtm_at "vl") => `(tactic| first
  | (with_reducible refine' i_st ?h0 ?q; (case h0 => decide +kernel))
  | (with_reducible refine' i_sf ?h0 ?q; (case h0 => decide +kernel))
  | (with_reducible refine l_next ?_; try dsimp only)
  | (with_reducible refine l_cont ?_; try dsimp only)
  | with_reducible refine l_brk ?_
  | with_reducible refine l_ret ?_
  | with_reducible refine w_fld ?_
  | (with_reducible refine' x_fld ?h0 ?h1 ?h2 ?q; (case h0 => wtm_at "gk"); (case h1 => with_unfolding_all first | exact List.mem_cons_self | exact List.mem_cons_of_mem _ List.mem_cons_self); (case h2 => with_unfolding_all rfl); (case' q => try dsimp only [fldR]))
  | with_reducible refine w_meth ?_
  | (with_reducible refine' x_meth ?h0 ?h1 ?h2 ?q; (case h0 => wtm_at "gk"); (case h1 => with_unfolding_all rfl); (case h2 => with_unfolding_all rfl); (case' q => try dsimp only [List.map_nil, List.map_cons, List.append_nil, List.cons_append, List.nil_append]))
  | (with_reducible refine w_make ?_; try dsimp only [List.map_nil, List.map_cons, List.append_nil, List.cons_append, List.nil_append, List.length_nil, List.length_cons, Nat.reduceAdd])
  | with_reducible refine m_mk ?_
  | with_reducible refine w_eLc ?_
  | with_reducible refine w_eLn ?_
  | with_reducible refine v_fld ?_
  | (with_reducible refine' x_stf ?h0 ?h1 ?h2 ?q; (case h0 => wtm_at "gk"); (case h1 => with_unfolding_all first | exact List.mem_cons_self | exact List.mem_cons_of_mem _ List.mem_cons_self); (case h2 => first | (with_reducible refine' storeF_val ?a ?b; (case a => wtm_at "gk"); (case b => with_unfolding_all rfl)) | (with_reducible refine' storeF_tmp ?a ?b; (case a => wtm_at "gk"); (case b => with_unfolding_all rfl))); (case' q => try dsimp only [List.set]; try simp only [List.set_set]))
  | with_reducible refine w_box ?_
  | (with_reducible refine x_boxed ?_)
  | (with_reducible refine w_callD ?_; try dsimp only [List.map_nil, List.map_cons, List.append_nil, List.cons_append, List.nil_append])
  | (with_reducible refine' w_app ?h ?h1 ?h2 ?h3 ?h4 ?q; (case h => with_unfolding_all rfl); (case h1 => with_unfolding_all rfl); (case h3 => with_unfolding_all rfl); (case h4 => with_unfolding_all rfl); (case h2 => with_unfolding_all exact Nat.le_of_ble_eq_true rfl); (case' q => try dsimp only [List.set, FS.setE, C.toD, List.nil_append, List.cons_append]))
  | (with_reducible refine' w_app ?h ?h1 ?h2 ?h3 ?h4 ?q; (case h => with_unfolding_all rfl); (case h1 => with_unfolding_all rfl); (case h3 => with_unfolding_all rfl); (case h4 => with_unfolding_all rfl); (case' q => try dsimp only [List.set, FS.setE, C.toD, List.nil_append, List.cons_append]))
  | with_reducible refine v_par ?_
  | with_reducible refine v_tupA ?_
  | with_reducible refine w_dm1 ?_
  | with_reducible refine w_dm2 ?_
  | (with_reducible refine' w_ixb ?h0 ?h1 ?q; (case h0 => wtm_at "gk"); (case h1 => with_unfolding_all rfl))
  | (with_reducible refine' w_lenb ?h0 ?q; (case h0 => wtm_at "gk"))
  | (with_reducible refine' x_itb ?h0 ?h1 ?h2 ?q; (case h0 => with_unfolding_all rfl); (case h1 => wtm_at "gk"); (case h2 => with_unfolding_all rfl); (case' q => try dsimp only [List.set, FS.setE, C.toD, Int.reduceToNat]; try simp only [List.set_set]))
  | fail)
local macro_rules | `(tactic| wtm_at "vl") => `(tactic| first
  | with_reducible refine between_w ?_ ?_
  | with_reducible refine lfar_w ?_ ?_
  | with_reducible refine lbetween_w ?_ ?_
  | with_reducible refine places_w (by assumption) ?_ ?_ ?_ ?_ (fun _ _ _ _ _ _ => ?_)
  | fail)
local macro_rules | `(tactic| wtm_at "ck") => `(tactic| first
  | with_unfolding_all rfl
  | (with_unfolding_all refine' cont_ic ?a ?b; (case a => wtm_at "gk"); (case b => with_unfolding_all rfl))
  | (with_unfolding_all refine' cont_box ?a; (case a => wtm_at "gk"))
  | (with_unfolding_all refine' Hold.cont ?a; (case a => with_unfolding_all assumption)))
local macro_rules | `(tactic| wtm_at "pk") => `(tactic| first
  | with_unfolding_all rfl
  | (with_unfolding_all refine' put_ic ?a ?b ?c; (case a => wtm_at "gk"); (case b => with_unfolding_all rfl); (case c => exact fun _ z => nomatch z))
  | (with_unfolding_all refine' put_box ?a ?c; (case a => wtm_at "gk"); (case c => exact fun _ z => nomatch z)))
local macro_rules | `(tactic| wtm_at "vl") => `(tactic| first
  | (with_reducible refine' c_ixd ?h0 ?h1 ?q; (case h0 => wtm_at "ck"); (case' q => try dsimp only [nxF, bfF]))
  | (with_reducible refine' c_ixl ?h0 ?h1 ?q; (case h0 => wtm_at "ck"); (case h1 => first | with_unfolding_all rfl | assumption))
  | (with_reducible refine' c_len ?h0 ?q; (case h0 => wtm_at "ck"))
  | (with_reducible refine' c_lend ?h0 ?q; (case h0 => wtm_at "ck"))
  | (with_reducible refine' c_in ?h0 ?q; (case h0 => wtm_at "ck"))
  | (with_reducible refine' c_sorted ?h0 ?h1 ?q; (case h0 => wtm_at "ck"))
  | (with_reducible refine' c_get1 ?h0 ?q; (case h0 => wtm_at "ck"))
  | (with_reducible refine' c_dictOf ?h0 ?q; (case h0 => wtm_at "ck"))
  | (with_reducible refine' c_listOf ?h0 ?q; (case h0 => wtm_at "ck"))
  | (with_reducible refine' c_tupOf ?h0 ?q; (case h0 => wtm_at "ck"))
  | (with_reducible refine c_dm1 ?_)
  | (with_reducible refine' x_contD ?h0 ?q; (case h0 => wtm_at "ck"))
  | (with_reducible refine' c_app ?h ?h1 ?h2 ?h3 ?h4 ?q; (case h => with_unfolding_all rfl); (case h1 => wtm_at "ck"); (case h3 => with_unfolding_all rfl); (case h4 => wtm_at "pk"); (case' q => try dsimp only [List.set, FS.setE, C.toD, List.nil_append, List.cons_append]; try simp only [List.set_set]))
  | (with_reducible refine' x_hasL ?h0 ?q; (case h0 => wtm_at "ck"))
  | (with_reducible refine' c_setdM ?h0 ?h1 ?h2 ?h3 ?h4 ?q; (case h0 => with_unfolding_all rfl); (case h1 => wtm_at "ck"); (case h4 => wtm_at "pk"); (case' q => try dsimp only [List.set, FS.setE, C.toD, List.nil_append, List.cons_append]; try simp only [List.set_set]))
  | (with_reducible refine' w_varA ?ha ?h0 ?q; (case h0 => with_unfolding_all rfl); (case ha => assumption))
  | fail)
local macro_rules | `(tactic| wtm_at "vl") => `(tactic| first
  | with_reducible refine cplace_w ?_ ?_
  | (with_reducible refine' chouses1_w ?h0 ?h1 ?q; (case h0 => wtm_at "gk"))
  | (with_reducible refine' chouses2_w ?h0 ?h1 ?h2 ?q; (case h0 => wtm_at "gk"))
  | (with_reducible refine' nlose_w ?h ?h0 ?h1 ?h2 ?q; (case h0 => wtm_at "gk"); (case h => assumption); (case h1 => assumption); (case h2 => assumption))
  | (with_reducible refine' nread_w ?h ?h0 ?h1 ?h2 ?q; (case h0 => wtm_at "gk"); (case h => assumption); (case h1 => assumption); (case h2 => assumption))
  | (with_reducible refine' nrepeat_w ?h ?h0 ?h1 ?h2 ?q; (case h0 => wtm_at "gk"); (case h => assumption); (case h1 => assumption); (case h2 => assumption))
  | (with_reducible refine' ntell_w ?h ?h0 ?h1 ?q; (case h0 => wtm_at "gk"); (case h => assumption))
  | (with_reducible refine' nask_w ?h ?h0 ?h1 ?q; (case h0 => wtm_at "gk"); (case h => assumption))
  | (with_reducible refine' nhold_w ?h ?h0 ?h1 ?h2 ?q; (case h0 => wtm_at "gk"); (case h => assumption))
  | (with_reducible refine' nletters_w ?h0 ?q; (case h0 => wtm_at "gk"))
  | fail)
local macro_rules | `(tactic| wtm_at "vl") => `(tactic| first
  | (with_reducible refine lp_next ?_; try dsimp only)
  | (with_reducible refine lp_cont ?_; try dsimp only)
  | with_reducible refine lp_brk ?_
  | with_reducible refine lp_ret ?_
  | (with_reducible refine' c_inY ?h0 ?h1 ?q; (case h0 => wtm_at "ck"); (case h1 => assumption))
  | (with_reducible refine' c_inN ?h0 ?h1 ?q; (case h0 => wtm_at "ck"); (case h1 => assumption))
  | (with_reducible refine' c_ixdE ?h0 ?h1 ?h2 ?q; (case h0 => wtm_at "ck"); (case h1 => assumption); (case h2 => assumption))
  | (with_reducible refine' c_get1E ?h0 ?h1 ?q; (case h0 => wtm_at "ck"); (case h1 => assumption))
  | (with_reducible refine' c_popAt ?h0 ?h1 ?h2 ?h3 ?h4 ?q; (case h0 => wtm_at "ck"); (case h2 => assumption); (case h3 => assumption); (case h4 => wtm_at "pk"); (case' h1 => try assumption); (case' q => try dsimp only [List.set, FS.setE, C.toD]; try simp only [List.set_set]))
  | (with_reducible refine' c_sorted ?h0 ?h1 ?q; (case h0 => wtm_at "ck"); (case h1 => assumption))
  | (with_reducible refine' c_setdM ?h0 ?h1 ?h2 ?h3 ?h4 ?q; (case h0 => with_unfolding_all rfl); (case h1 => wtm_at "ck"); (case h2 => assumption); (case h4 => wtm_at "pk"); (case h3 => first | assumption | omega); (case' q => try dsimp only [List.set, FS.setE, C.toD, List.nil_append, List.cons_append]; try simp only [List.set_set]))
  | (with_reducible refine' c_setdN ?h0 ?h1 ?h2 ?h3 ?h4 ?q; (case h0 => with_unfolding_all rfl); (case h1 => wtm_at "ck"); (case h2 => assumption); (case h4 => wtm_at "pk"); (case h3 => first | assumption | omega); (case' q => try dsimp only [List.set, FS.setE, C.toD, List.nil_append, List.cons_append]; try simp only [List.set_set]))
  | (with_reducible refine' c_ixdL ?h0 ?h1 ?q; (case h0 => wtm_at "ck"); (case h1 => first | assumption | skip); (case' q => try dsimp only [nxF, bfF]))
  | (with_reducible refine' w_sortI ?h0 ?q; (case h0 => with_unfolding_all rfl))
  | (with_reducible refine same_vv ?_ ?_ ?_)
  | (with_reducible refine' same_01 ?h0 ?h1 ?h2 ?q; (case h0 => with_unfolding_all rfl))
  | (with_reducible refine' same_v0 ?h0 ?h2 ?q; (case h0 => with_unfolding_all rfl))
  | (with_reducible refine' same_0v ?h0 ?h2 ?q; (case h0 => with_unfolding_all rfl))
  | (with_reducible refine' w_eqL ?h0 ?h1 ?h2 ?h3 ?q; (case h0 => with_unfolding_all rfl); (case h1 => with_unfolding_all rfl); (case h2 => with_unfolding_all (intro _ z; cases z)); (case h3 => with_unfolding_all (intro _ z; cases z)))
  | fail)
local macro_rules | `(tactic| wtm_at "vl") => `(tactic| first
  | (with_reducible refine' c_lenM ?h0 ?q; (case h0 => wtm_at "ck"))
  | fail)
local macro_rules | `(tactic| wtm_at "gk") => `(tactic| first | with_reducible assumption | with_unfolding_all rfl | exact g_app | (with_reducible apply g_set; wtm_at "gk") | (with_reducible apply g_appL; wtm_at "gk") | (with_reducible apply g_ne; (first | assumption | omega); wtm_at "gk"))
local macro_rules | `(tactic| wtm_at "ck") => `(tactic| first
  | with_unfolding_all rfl
  | (with_reducible refine' cont_ic ?a ?b; (case a => wtm_at "gk"); (case b => with_unfolding_all rfl))
  | (with_reducible refine' cont_box ?a; (case a => wtm_at "gk"))
  | (with_reducible refine' Hold.cont ?a; (case a => with_reducible assumption)))
local macro_rules | `(tactic| wtm_at "vl") => `(tactic| first
  | (with_reducible refine' c_slHi ?h0 ?h1 ?q; (case h0 => wtm_at "ck"); (case h1 => first | assumption | omega))
  | (with_reducible refine' c_slLo ?h0 ?h1 ?q; (case h0 => wtm_at "ck"); (case h1 => first | assumption | omega))
  | fail)
/-- a saying as data -/
def sayD (t : Int × Int × Int) : D := .tup [.int t.1, .int t.2.1, .int t.2.2]
def Lt.say (n : Int) : Lt → Option (Int × Int × Int)
  | .tell a s => some (s, a, farI n s a)
  | .ask _ _ => none
  | .ans _ s m => some (m, s, farI n m s)
def sayN (n : Int) (nx : Int → Int) (h : Int) : Int × Int × Int := (h, nx h, farI n h (nx h))
def sayB (n : Int) (bf : Int → Option Int) (h : Int) : Option (Int × Int × Int) := match bf h with
  | none => none
  | some b => some (b, h, farI n b h)
/-- all sayings, in the told order -/
def Nt.says (N : Nt) : List (Int × Int × Int) := (sortI N.ks).map (sayN N.n N.nx) ++ (sortI N.ks).filterMap (sayB N.n N.bf) ++ N.ls.filterMap (Lt.say N.n)
theorem filterMap_le {α β : Type} (f : α → Option β) (l : List α) : (l.filterMap f).length ≤ l.length := List.length_filterMap_le f l
theorem map_say {n : Int} {nx : Int → Int} {l : List Int} : l.map (fun h => sayD (sayN n nx h)) = (l.map (sayN n nx)).map sayD := by rw [List.map_map]; rfl
theorem map_say1 {X Y : List (Int × Int × Int)} {t : Int × Int × Int} : (X ++ (Y ++ [t])).map sayD = (X ++ Y).map sayD ++ [sayD t] := by rw [← List.append_assoc, List.map_append]; rfl
theorem lsay_w {n : Int} {l : Lt} {cs : List C} {g : List Inst} {Q X} (h : 0 < n) (q : Q (.val (match l.say n with | some t => sayD t | none => .non)) cs g) : wpD (d_letter_saying [.val (.int n), .val l.d] cs g) Q X := by
  unfold d_letter_saying
  with_reducible refine v_den ?ha ?_
  case ha => rfl
  unfold b_letter_saying
  simp only [List.map_cons, List.map_nil, List.replicate, argS, List.cons_append, List.nil_append]
  cases l <;> (dsimp only [Lt.d, Lt.say] at q ⊢; repeat' wtm_at "vl") <;> first
    | exact h
    | exact q
    | trace_state
theorem sayings_w {N : Nt} {k : Nat} {cs : List C} {g : List Inst} {Q X} (ok : NtOk N) (hg : g[k]? = some (netI N)) (q : Q (.tmp (.lst (N.says.map sayD))) cs g) : wpD (d_sayings [.val (.ins k)] cs g) Q X := by
  unfold d_sayings
  with_reducible refine v_den ?ha ?_
  case ha => rfl
  unfold b_sayings
  simp only [List.map_cons, List.map_nil, List.replicate, argS, List.cons_append, List.nil_append]
  have hz : sizeLine = 16777216 := rfl
  have hlen := ok.len
  have hpos := ok.pos
  have hll := ok.ll
  have hsl : (sortI N.ks).length < 64 := by rw [sortI_len]; exact hlen
  have hfl : ((sortI N.ks).filter fun h => (N.bf h).isSome).length < 64 := Nat.lt_of_le_of_lt (List.length_filter_le _ _) hsl
  repeat' first
    | (with_reducible refine' nnexts_w ok ?ha0 ?ha1; (case ha0 => wtm_at "gk"))
    | (with_reducible refine' nbefores_w ok ?hb0 ?hb1; (case hb0 => wtm_at "gk"))
    | with_reducible refine v_stopFor ?_
    | (with_reducible refine w_lcL D.int (fun h => some (sayD (sayN N.n N.nx h))) ?_)
    | wtm_at "vl"
  refine ⟨sortI (sortI N.ks), .inl rfl, by rw [sortI_len]; omega, rfl, fun x hx => ⟨_, rfl, ?_⟩, ?_⟩
  · dsimp only [FS.setE, List.set, wipeE]
    have hx2 : x ∈ sortI N.ks := sortI_mem.mp hx
    repeat' wtm_at "vl"
    all_goals first
      | exact hx2
      | exact hpos
      | exact ⟨rfl, rfl⟩
      | exact ⟨_, _, rfl, rfl, rfl⟩
      | trace_state
  · rw [sortI_idem, List.filterMap_eq_map', map_say]
    repeat' first
      | with_reducible refine v_stopFor ?_
      | wtm_at "vl"
    have sorted_f : sortI ((sortI N.ks).filter fun h => (N.bf h).isSome) = (sortI N.ks).filter fun h => (N.bf h).isSome := (sortI_uniq (List.Perm.refl _) ((sortI_sorted _).filter _)).symm
    with_reducible refine v_cutS (fun s => ∃ (z1 z2 z3 : S), s = ⟨[.val (.ins k), .val (.int N.n), .own (.dct (fT (sortI N.ks) (nxF N.nx))), .own (.dct (fT ((sortI N.ks).filter fun h => (N.bf h).isSome) (bfF N.bf))), .own (.lst (((sortI N.ks).map (sayN N.n N.nx) ++ (sortI N.ks).filterMap (sayB N.n N.bf)).map sayD)), z1, z2, z3], cs, g⟩) ?_ ?_
    · with_reducible refine v_forL D.int ?_
      repeat' wtm_at "vl"
      refine ⟨_, .inl rfl, fun dn s => ∃ (z1 z2 z3 : S), s = ⟨[.val (.ins k), .val (.int N.n), .own (.dct (fT (sortI N.ks) (nxF N.nx))), .own (.dct (fT ((sortI N.ks).filter fun h => (N.bf h).isSome) (bfF N.bf))), .own (.lst (((sortI N.ks).map (sayN N.n N.nx) ++ dn.filterMap (sayB N.n N.bf)).map sayD)), z1, z2, z3], cs, g⟩, ⟨_, _, _, by rw [List.filterMap_nil, List.append_nil]⟩, ?_, ?_⟩
      · intro dn h td hd s ⟨z1, z2, z3, e⟩
        subst e
        rw [sorted_f] at hd
        have hm : h ∈ (sortI N.ks).filter fun h => (N.bf h).isSome := by rw [hd]; simp
        obtain ⟨b, hb⟩ := Option.isSome_iff_exists.mp (List.mem_filter.mp hm).2
        have hbf : bfF N.bf h = .int b := by unfold bfF; rw [hb]; rfl
        have hbl : (((sortI N.ks).map (sayN N.n N.nx) ++ dn.filterMap (sayB N.n N.bf)).map sayD).length < sizeLine := by
          have h1 := filterMap_le (sayB N.n N.bf) dn
          have h2 : dn.length < 64 := by
            have := congrArg List.length hd
            rw [List.length_append] at this; omega
          rw [List.length_map, List.length_append, List.length_map]; omega
        refine ⟨_, rfl, ?_⟩
        dsimp only [FS.setE, List.set]
        have ef : (dn ++ [h]).filterMap (sayB N.n N.bf) = dn.filterMap (sayB N.n N.bf) ++ [(b, h, farI N.n b h)] := by
          rw [List.filterMap_append]
          congr 1
          simp [sayB, hb]
        repeat' wtm_at "vl"
        all_goals first
          | exact hpos
          | exact hbl
          | exact ⟨_, _, _, by rw [ef, map_say1] <;> rfl⟩
          | trace_state
      · intro s ⟨z1, z2, z3, e⟩
        rw [sorted_f] at e
        refine ⟨_, rfl, z1, z2, z3, ?_⟩
        rw [e]
        have : ((sortI N.ks).filter fun h => (N.bf h).isSome).filterMap (sayB N.n N.bf) = (sortI N.ks).filterMap (sayB N.n N.bf) := by
          rw [List.filterMap_filter]
          refine congrArg (fun f => (sortI N.ks).filterMap f) (funext fun h => ?_)
          cases hb : N.bf h <;> simp [sayB, hb]
        rw [this]
    · intro s ⟨z1, z2, z3, e⟩
      subst e
      repeat' first
        | with_reducible refine v_stopFor ?_
        | wtm_at "vl"
      with_reducible refine v_cutS (fun s => ∃ (z1 z2 z3 : S), s = ⟨[.val (.ins k), .val (.int N.n), .own (.dct (fT (sortI N.ks) (nxF N.nx))), .own (.dct (fT ((sortI N.ks).filter fun h => (N.bf h).isSome) (bfF N.bf))), .own (.lst (N.says.map sayD)), z1, z2, z3], cs, g⟩) ?_ ?_
      · with_reducible refine v_forL Lt.d ?_
        repeat' wtm_at "vl"
        refine ⟨N.ls, .inl rfl, fun dn s => ∃ (z1 z2 z3 : S), s = ⟨[.val (.ins k), .val (.int N.n), .own (.dct (fT (sortI N.ks) (nxF N.nx))), .own (.dct (fT ((sortI N.ks).filter fun h => (N.bf h).isSome) (bfF N.bf))), .own (.lst (((sortI N.ks).map (sayN N.n N.nx) ++ (sortI N.ks).filterMap (sayB N.n N.bf) ++ dn.filterMap (Lt.say N.n)).map sayD)), z1, z2, z3], cs, g⟩, ⟨_, _, _, by rw [List.filterMap_nil, List.append_nil]⟩, ?_, ?_⟩
        · intro dn l td hd s ⟨z1, z2, z3, e⟩
          subst e
          refine ⟨_, rfl, ?_⟩
          dsimp only [FS.setE, List.set]
          have hbl : (((sortI N.ks).map (sayN N.n N.nx) ++ (sortI N.ks).filterMap (sayB N.n N.bf) ++ dn.filterMap (Lt.say N.n)).map sayD).length < sizeLine := by
            have h1 := filterMap_le (Lt.say N.n) dn
            have h2 : dn.length ≤ 100000 := by
              have := congrArg List.length hd
              rw [List.length_append] at this; omega
            have h3 := filterMap_le (sayB N.n N.bf) (sortI N.ks)
            rw [List.length_map, List.length_append, List.length_append, List.length_map]; omega
          rw [List.filterMap_append]
          cases hs : l.say N.n with
          | none =>
            have e1 : [l].filterMap (Lt.say N.n) = [] := by simp [hs]
            rw [e1, List.append_nil]
            repeat' first
              | with_reducible refine lsay_w hpos ?_
              | (rw [hs]; dsimp only)
              | wtm_at "vl"
            exact ⟨_, _, _, rfl⟩
          | some t =>
            have e1 : [l].filterMap (Lt.say N.n) = [t] := by simp [hs]
            rw [e1]
            repeat' first
              | with_reducible refine lsay_w hpos ?_
              | (rw [hs]; dsimp only [sayD])
              | wtm_at "vl"
            all_goals first
              | exact hbl
              | exact ⟨_, _, _, by rw [map_say1] <;> rfl⟩
              | trace_state
        · intro s ⟨z1, z2, z3, e⟩
          exact ⟨_, rfl, z1, z2, z3, e⟩
      · intro s ⟨z1, z2, z3, e⟩
        subst e
        repeat' wtm_at "vl"
        exact q
theorem lsays_w {N : Nt} {kb : List Int} {g : List Inst} {Q X} (ok : NtOk N) (b : Bh N kb) (q : Q (.tmp (.lst (N.says.map sayD))) (lawC N kb) g) : wpD (d__law_sayings [.val (.int N.n), .pc 0, .pc 1, .pc 2] (lawC N kb) g) Q X := by
  unfold d__law_sayings
  with_reducible refine v_den ?ha ?_
  case ha => rfl
  unfold b__law_sayings
  simp only [List.map_cons, List.map_nil, List.replicate, argS, List.cons_append, List.nil_append]
  have hz : sizeLine = 16777216 := rfl
  have hlen := ok.len
  have hpos := ok.pos
  have hll := ok.ll
  have hsl : (sortI N.ks).length < 64 := by rw [sortI_len]; exact hlen
  have hkl : kb.length < 64 := Nat.lt_of_le_of_lt b.len hlen
  have hskl : (sortI kb).length < 64 := by rw [sortI_len]; exact hkl
  unfold lawC at q ⊢
  repeat' first
    | with_reducible refine v_stopFor ?_
    | (with_reducible refine w_lcL D.int (fun h => some (sayD (sayN N.n N.nx h))) ?_)
    | wtm_at "vl"
  refine ⟨sortI N.ks, .inl rfl, by omega, rfl, fun x hx => ⟨_, rfl, ?_⟩, ?_⟩
  · dsimp only [FS.setE, List.set, wipeE]
    have hx2 : x ∈ N.ks := sortI_mem.mp hx
    repeat' wtm_at "vl"
    all_goals first
      | exact hx2
      | exact hpos
      | exact ⟨rfl, rfl⟩
      | exact ⟨_, _, rfl, rfl, rfl⟩
      | trace_state
  · rw [List.filterMap_eq_map', map_say]
    repeat' first
      | with_reducible refine v_stopFor ?_
      | wtm_at "vl"
    with_reducible refine v_cutS (fun s => ∃ (z1 z2 : S), s = ⟨[.val (.int N.n), .pc 0, .pc 1, .pc 2, .own (.lst (((sortI N.ks).map (sayN N.n N.nx) ++ (sortI N.ks).filterMap (sayB N.n N.bf)).map sayD)), z1, z2], [.dct (fT N.ks (nxF N.nx)), .dct (fT kb (bfF N.bf)), .lst (N.ls.map Lt.d)], g⟩) ?_ ?_
    · with_reducible refine v_forL D.int ?_
      repeat' wtm_at "vl"
      refine ⟨_, .inl rfl, fun dn s => ∃ (z1 z2 : S), s = ⟨[.val (.int N.n), .pc 0, .pc 1, .pc 2, .own (.lst (((sortI N.ks).map (sayN N.n N.nx) ++ dn.filterMap (sayB N.n N.bf)).map sayD)), z1, z2], [.dct (fT N.ks (nxF N.nx)), .dct (fT kb (bfF N.bf)), .lst (N.ls.map Lt.d)], g⟩, ⟨_, _, by rw [List.filterMap_nil, List.append_nil]⟩, ?_, ?_⟩
      · intro dn h td hd s ⟨z1, z2, e⟩
        subst e
        have hm : h ∈ kb := sortI_mem.mp (by rw [hd]; simp)
        have hbl : (((sortI N.ks).map (sayN N.n N.nx) ++ dn.filterMap (sayB N.n N.bf)).map sayD).length < sizeLine := by
          have h1 := filterMap_le (sayB N.n N.bf) dn
          have h2 : dn.length < 64 := by
            have := congrArg List.length hd
            rw [List.length_append] at this; omega
          rw [List.length_map, List.length_append, List.length_map]; omega
        refine ⟨_, rfl, ?_⟩
        dsimp only [FS.setE, List.set]
        rw [List.filterMap_append]
        cases hb : N.bf h with
        | none =>
          have hbf : bfF N.bf h = .non := by unfold bfF; rw [hb]; rfl
          have e1 : [h].filterMap (sayB N.n N.bf) = [] := by simp [sayB, hb]
          rw [e1, List.append_nil]
          repeat' wtm_at "vl"
          exact ⟨_, _, rfl⟩
        | some b =>
          have hbf : bfF N.bf h = .int b := by unfold bfF; rw [hb]; rfl
          have e1 : [h].filterMap (sayB N.n N.bf) = [(b, h, farI N.n b h)] := by simp [sayB, hb]
          rw [e1]
          repeat' wtm_at "vl"
          all_goals first
            | exact hpos
            | exact hbl
            | exact ⟨_, _, by rw [map_say1] <;> rfl⟩
            | trace_state
      · intro s ⟨z1, z2, e⟩
        refine ⟨_, rfl, z1, z2, ?_⟩
        rw [e]
        have f : ∀ l : List Int, (l.filter fun h => (N.bf h).isSome).filterMap (sayB N.n N.bf) = l.filterMap (sayB N.n N.bf) := fun l => by
          rw [List.filterMap_filter]
          refine congrArg (fun f => l.filterMap f) (funext fun h => ?_)
          cases hb : N.bf h <;> simp [sayB, hb]
        rw [← f (sortI kb), b.sort ok.nd, f]
    · intro s ⟨z1, z2, e⟩
      subst e
      repeat' first
        | with_reducible refine v_stopFor ?_
        | wtm_at "vl"
      with_reducible refine v_cutS (fun s => ∃ (z1 z2 : S), s = ⟨[.val (.int N.n), .pc 0, .pc 1, .pc 2, .own (.lst (N.says.map sayD)), z1, z2], [.dct (fT N.ks (nxF N.nx)), .dct (fT kb (bfF N.bf)), .lst (N.ls.map Lt.d)], g⟩) ?_ ?_
      · with_reducible refine v_forP Lt.d ?_
        repeat' wtm_at "vl"
        refine ⟨N.ls, ⟨trivial, rfl⟩, fun dn s => ∃ (z1 z2 : S), s = ⟨[.val (.int N.n), .pc 0, .pc 1, .pc 2, .own (.lst (((sortI N.ks).map (sayN N.n N.nx) ++ (sortI N.ks).filterMap (sayB N.n N.bf) ++ dn.filterMap (Lt.say N.n)).map sayD)), z1, z2], [.dct (fT N.ks (nxF N.nx)), .dct (fT kb (bfF N.bf)), .lst (N.ls.map Lt.d)], g⟩, ⟨_, _, by rw [List.filterMap_nil, List.append_nil]⟩, ?_, ?_, ?_⟩
        · intro dn s ⟨z1, z2, e⟩
          subst e; rfl
        · intro dn l td hd s ⟨z1, z2, e⟩
          subst e
          refine ⟨_, rfl, ?_⟩
          dsimp only [FS.setE, List.set]
          have hbl : (((sortI N.ks).map (sayN N.n N.nx) ++ (sortI N.ks).filterMap (sayB N.n N.bf) ++ dn.filterMap (Lt.say N.n)).map sayD).length < sizeLine := by
            have h1 := filterMap_le (Lt.say N.n) dn
            have h2 : dn.length ≤ 100000 := by
              have := congrArg List.length hd
              rw [List.length_append] at this; omega
            have h3 := filterMap_le (sayB N.n N.bf) (sortI N.ks)
            rw [List.length_map, List.length_append, List.length_append, List.length_map]; omega
          rw [List.filterMap_append]
          cases l with
          | ask a s =>
            have e1 : [Lt.ask a s].filterMap (Lt.say N.n) = [] := rfl
            rw [e1, List.append_nil]
            dsimp only [Lt.d]
            repeat' wtm_at "vl"
            exact ⟨_, _, rfl⟩
          | tell a s =>
            have e1 : [Lt.tell a s].filterMap (Lt.say N.n) = [(s, a, farI N.n s a)] := rfl
            rw [e1]
            dsimp only [Lt.d]
            repeat' wtm_at "vl"
            all_goals first
              | exact hpos
              | exact hbl
              | exact ⟨_, _, by rw [map_say1] <;> rfl⟩
              | trace_state
          | ans a s m =>
            have e1 : [Lt.ans a s m].filterMap (Lt.say N.n) = [(m, s, farI N.n m s)] := rfl
            rw [e1]
            dsimp only [Lt.d]
            repeat' wtm_at "vl"
            all_goals first
              | exact hpos
              | exact hbl
              | exact ⟨_, _, by rw [map_say1] <;> rfl⟩
              | trace_state
        · intro s ⟨z1, z2, e⟩
          exact ⟨_, rfl, z1, z2, e⟩
      · intro s ⟨z1, z2, e⟩
        subst e
        repeat' wtm_at "vl"
        exact q
def rowD (nx : Int → Int) (bf : Int → Option Int) (h : Int) : D := .tup [.int h, .int (nx h), optD (bf h)]
def Nt.snap (N : Nt) : D := .tup [.int N.n, .tup ((sortI N.ks).map (rowD N.nx N.bf)), .tup (N.ls.map Lt.d)]
theorem nsnap_w {N : Nt} {k : Nat} {cs : List C} {g : List Inst} {Q X} (ok : NtOk N) (hg : g[k]? = some (netI N)) (q : Q (.val N.snap) cs g) : wpD (d_Net_snapshot [.val (.ins k)] cs g) Q X := by
  unfold d_Net_snapshot
  with_reducible refine v_den ?ha ?_
  case ha => rfl
  unfold b_Net_snapshot
  simp only [List.map_cons, List.map_nil, List.replicate, argS, List.cons_append, List.nil_append]
  have hz : sizeLine = 16777216 := rfl
  have hlen := ok.len
  have hsl : (sortI N.ks).length < 64 := by rw [sortI_len]; exact hlen
  repeat' first
    | (with_reducible refine w_lcL D.int (fun h => some (rowD N.nx N.bf h)) ?_)
    | wtm_at "vl"
  refine ⟨sortI N.ks, .inl rfl, by omega, rfl, fun x hx => ⟨_, rfl, ?_⟩, ?_⟩
  · dsimp only [FS.setE, List.set, wipeE]
    have hx2 : x ∈ N.ks := sortI_mem.mp hx
    repeat' wtm_at "vl"
    all_goals first
      | exact hx2
      | exact ⟨rfl, rfl⟩
      | trace_state
  · rw [List.filterMap_eq_map']
    repeat' wtm_at "vl"
    exact q
theorem lsnap_w {N : Nt} {kb : List Int} {g : List Inst} {Q X} (ok : NtOk N) (b : Bh N kb) (q : Q (.val N.snap) (lawC N kb) g) : wpD (d__law_snapshot [.val (.int N.n), .pc 0, .pc 1, .pc 2] (lawC N kb) g) Q X := by
  unfold d__law_snapshot
  with_reducible refine v_den ?ha ?_
  case ha => rfl
  unfold b__law_snapshot
  simp only [List.map_cons, List.map_nil, List.replicate, argS, List.cons_append, List.nil_append]
  have hz : sizeLine = 16777216 := rfl
  have hlen := ok.len
  have hsl : (sortI N.ks).length < 64 := by rw [sortI_len]; exact hlen
  unfold lawC at q ⊢
  repeat' first
    | (with_reducible refine w_lcL D.int (fun h => some (rowD N.nx N.bf h)) ?_)
    | wtm_at "vl"
  refine ⟨sortI N.ks, .inl rfl, by omega, rfl, fun x hx => ⟨_, rfl, ?_⟩, ?_⟩
  · dsimp only [FS.setE, List.set, wipeE]
    have hx2 : x ∈ N.ks := sortI_mem.mp hx
    have hh := b.get hx2
    repeat' wtm_at "vl"
    all_goals first
      | exact hx2
      | exact ⟨rfl, rfl⟩
      | trace_state
  · rw [List.filterMap_eq_map']
    repeat' wtm_at "vl"
    exact q
def Nt.adm (N : Nt) (p host : Int) : Nt := { N with ks := N.ks ++ [p], nx := upd1 N.nx p host, bf := upd1 N.bf p none }
theorem nadmit_w {N : Nt} {p host : Int} {k : Nat} {cs : List C} {g : List Inst} {Q X} (ok : NtOk N) (hg : g[k]? = some (netI N)) (hp : 0 ≤ p ∧ p < N.n) (hm : p ∉ N.ks) (hh : host ∈ N.ks ∨ host = p)
    (q : Q (.val .non) cs (g.set k (netI (N.adm p host)))) : wpD (d_Net_admit [.val (.ins k), .val (.int p), .val (.int host)] cs g) Q X := by
  unfold d_Net_admit
  with_reducible refine v_den ?ha ?_
  case ha => rfl
  unfold b_Net_admit
  simp only [List.map_cons, List.map_nil, List.replicate, argS, List.cons_append, List.nil_append]
  have hz : sizeLine = 16777216 := rfl
  have hlen := ok.len
  have hu : upd1 (bfF N.bf) p .non = bfF (upd1 N.bf p none) := by
    funext x; by_cases e : x = p <;> simp [upd1, bfF, e, optD]
  have hkl : N.ks.length < sizeLine := by omega
  repeat' wtm_at "vl"
  all_goals first
    | exact hp
    | exact hh.resolve_right (by assumption)
    | (rw [upd_nx, hu]; exact q)
    | trace_state
theorem NtOk.adm {N : Nt} (ok : NtOk N) {p host : Int} (hp : 0 ≤ p ∧ p < N.n) (hm : p ∉ N.ks) (hh : host ∈ N.ks ∨ host = p) (hl : N.ks.length < 63) : NtOk (N.adm p host) := by
  have mem : ∀ x, x ∈ N.ks ++ [p] ↔ x ∈ N.ks ∨ x = p := fun x => by simp
  refine ⟨ok.pos, ?_, ?_, fun h hh => ?_, fun h hh' => ?_, fun h hh' b hb => ?_, fun l hl p' hp' => ?_, ok.ll⟩
  · show (N.ks ++ [p]).Nodup
    rw [List.nodup_append]
    exact ⟨ok.nd, by simp, fun a ha b hb => by rw [List.mem_singleton] at hb; subst hb; rintro rfl; exact hm ha⟩
  · show (N.ks ++ [p]).length < 64
    rw [List.length_append]; show N.ks.length + 1 < 64; omega
  · rcases (mem h).mp hh with h1 | rfl
    · exact ok.rng h h1
    · exact hp
  · refine (mem _).mpr ?_
    show upd1 N.nx p host h ∈ N.ks ∨ upd1 N.nx p host h = p
    by_cases e : h = p
    · rw [e, upd1_same]; exact hh
    · rw [upd1_ne e]; exact .inl (ok.nx h (((mem h).mp hh').resolve_right e))
  · have hb' : upd1 N.bf p none h = some b := hb
    by_cases e : h = p
    · rw [e, upd1_same] at hb'; cases hb'
    · rw [upd1_ne e] at hb'; exact (mem _).mpr (.inl (ok.bf h (((mem h).mp hh').resolve_right e) b hb'))
  · exact (mem _).mpr (.inl (ok.ls l hl p' hp'))
theorem Bh.adm {N : Nt} {kb : List Int} (b : Bh N kb) {p host : Int} (hm : p ∉ N.ks) : Bh (N.adm p host) kb := by
  refine ⟨b.nd, fun h hh => List.mem_append_left _ (b.sub h hh), fun h h1 h2 => ?_⟩
  have h2' : (upd1 N.bf p none h).isSome = true := h2
  by_cases e : h = p
  · rw [e, upd1_same] at h2'; cases h2'
  · rw [upd1_ne e] at h2'
    have h1' : h ∈ N.ks ++ [p] := h1
    rcases List.mem_append.mp h1' with h1' | h1'
    · exact b.has h h1' h2'
    · rw [List.mem_singleton] at h1'; exact absurd h1' e
/-- the same lemmas with the law's tables written out -/
theorem lread_e {N : Nt} {kb : List Int} {at' : Int} {l : Lt} {g : List Inst} {Q X} (ok : NtOk N) (b : Bh N kb) (h : 0 ≤ at') (hl : N.ls[at'.toNat]? = some l)
    (q : Q (.val ((N.cut at'.toNat).rdL l).1) [.dct (fT ((N.cut at'.toNat).rdL l).2.ks (nxF ((N.cut at'.toNat).rdL l).2.nx)), .dct (fT (kbL N kb l) (bfF ((N.cut at'.toNat).rdL l).2.bf)), .lst (((N.cut at'.toNat).rdL l).2.ls.map Lt.d)] g) :
    wpD (d__law_read [.val (.int N.n), .pc 0, .pc 1, .pc 2, .val (.int at')] [.dct (fT N.ks (nxF N.nx)), .dct (fT kb (bfF N.bf)), .lst (N.ls.map Lt.d)] g) Q X := lread_w ok b h hl q
theorem lsays_e {N : Nt} {kb : List Int} {g : List Inst} {Q X} (ok : NtOk N) (b : Bh N kb) (q : Q (.tmp (.lst (N.says.map sayD))) [.dct (fT N.ks (nxF N.nx)), .dct (fT kb (bfF N.bf)), .lst (N.ls.map Lt.d)] g) :
    wpD (d__law_sayings [.val (.int N.n), .pc 0, .pc 1, .pc 2] [.dct (fT N.ks (nxF N.nx)), .dct (fT kb (bfF N.bf)), .lst (N.ls.map Lt.d)] g) Q X := lsays_w ok b q
theorem lsnap_e {N : Nt} {kb : List Int} {g : List Inst} {Q X} (ok : NtOk N) (b : Bh N kb) (q : Q (.val N.snap) [.dct (fT N.ks (nxF N.nx)), .dct (fT kb (bfF N.bf)), .lst (N.ls.map Lt.d)] g) :
    wpD (d__law_snapshot [.val (.int N.n), .pc 0, .pc 1, .pc 2] [.dct (fT N.ks (nxF N.nx)), .dct (fT kb (bfF N.bf)), .lst (N.ls.map Lt.d)] g) Q X := lsnap_w ok b q
theorem lstands_e {N : Nt} {kb : List Int} {k : Nat} {g : List Inst} {Q X} (ok : NtOk N) (b : Bh N kb) (hg : g[k]? = some (netI N)) (q : Q (.val (.bl true)) [.dct (fT N.ks (nxF N.nx)), .dct (fT kb (bfF N.bf)), .lst (N.ls.map Lt.d)] g) :
    wpD (d__law_stands [.val (.ins k), .pc 0, .pc 1, .pc 2] [.dct (fT N.ks (nxF N.nx)), .dct (fT kb (bfF N.bf)), .lst (N.ls.map Lt.d)] g) Q X := lstands_w ok b hg q
end VL
set_option maxRecDepth 100000
set_option maxHeartbeats 4000000
namespace VL
open PySem PySem.Spec L2
open PyProof.Rows hiding St
/-- k steps along the nexts -/
def it (nx : Int → Int) : Nat → Int → Int
  | 0, x => x
  | k + 1, x => it nx k (nx x)
/-- the length of k steps -/
def ln (n : Int) (nx : Int → Int) : Nat → Int → Int
  | 0, _ => 0
  | k + 1, x => farI n x (nx x) + ln n nx k (nx x)
section
variable {n : Int} {nx : Int → Int} {ks : List Int}
theorem nodup_leM {α : Type} [BEq α] [LawfulBEq α] : ∀ {a b : List α}, a.Nodup → (∀ x ∈ a, x ∈ b) → a.length ≤ b.length
  | [], b, _, _ => Nat.zero_le _
  | x :: xs, b, h1, h2 => by
    obtain ⟨h3, h4⟩ := List.nodup_cons.mp h1
    have hx := h2 x List.mem_cons_self
    have := nodup_leM (a := xs) (b := b.erase x) h4 fun y hy => (List.mem_erase_of_ne (by rintro rfl; exact h3 hy)).mpr (h2 y (List.mem_cons_of_mem _ hy))
    rw [List.length_erase_of_mem hx] at this
    have hp := List.length_pos_of_mem hx
    rw [List.length_cons]; omega
theorem it_add : ∀ (a b : Nat) (x : Int), it nx (a + b) x = it nx b (it nx a x)
  | 0, b, x => by rw [Nat.zero_add]; rfl
  | a + 1, b, x => by rw [Nat.succ_add]; exact it_add a b (nx x)
theorem it_succ (k : Nat) (x : Int) : it nx (k + 1) x = nx (it nx k x) := it_add k 1 x
theorem ln_add : ∀ (a b : Nat) (x : Int), ln n nx (a + b) x = ln n nx a x + ln n nx b (it nx a x)
  | 0, b, x => by rw [Nat.zero_add]; show _ = 0 + _; rw [Int.zero_add]; rfl
  | a + 1, b, x => by
    rw [Nat.succ_add]
    show farI n x (nx x) + ln n nx (a + b) (nx x) = farI n x (nx x) + ln n nx a (nx x) + ln n nx b (it nx a (nx x))
    rw [ln_add a b (nx x), Int.add_assoc]
theorem ln_succ (k : Nat) (x : Int) : ln n nx (k + 1) x = ln n nx k x + farI n (it nx k x) (nx (it nx k x)) := by
  rw [ln_add k 1 x]
  show _ + (farI n (it nx k x) (nx (it nx k x)) + 0) = _
  rw [Int.add_zero]
theorem it_mem (h : ∀ x ∈ ks, nx x ∈ ks) : ∀ (k : Nat) {x : Int}, x ∈ ks → it nx k x ∈ ks
  | 0, _, hx => hx
  | k + 1, x, hx => it_mem h k (h x hx)
theorem ln_ge (hn : 0 < n) : ∀ (k : Nat) (x : Int), (k : Int) ≤ ln n nx k x
  | 0, x => Int.le_refl 0
  | k + 1, x => by
    have h1 := ln_ge hn k (nx x)
    have h2 := (farI_pos (s := x) (e := nx x) hn).1
    show ((k + 1 : Nat) : Int) ≤ farI n x (nx x) + ln n nx k (nx x)
    omega
theorem ln_mono (hn : 0 < n) {a b : Nat} (h : a ≤ b) (x : Int) : ln n nx a x ≤ ln n nx b x := by
  obtain ⟨c, rfl⟩ := Nat.le.dest h
  rw [ln_add]
  have := ln_ge (n := n) (nx := nx) hn c (it nx a x)
  omega
theorem ln_lt (hn : 0 < n) {a b : Nat} (h : a < b) (x : Int) : ln n nx a x < ln n nx b x := by
  have h1 := ln_mono (nx := nx) hn (Nat.succ_le_of_lt h) x
  have h2 : ln n nx (a + 1) x = ln n nx a x + farI n (it nx a x) (nx (it nx a x)) := ln_succ a x
  have h3 := (farI_pos (s := it nx a x) (e := nx (it nx a x)) hn).1
  have h4 : ln n nx a.succ x = ln n nx (a + 1) x := rfl
  omega
theorem farI_mod (s e : Int) : farI n s e % n = (e - s) % n := by
  unfold farI
  split
  · rename_i h; rw [h]; exact Int.emod_self
  · exact Int.emod_emod_of_dvd _ (Int.dvd_refl n)
/-- the length of a way tells where it is -/
theorem ln_mod : ∀ (k : Nat) (x : Int), ln n nx k x % n = (it nx k x - x) % n
  | 0, x => by show 0 % n = (x - x) % n; rw [Int.sub_self]
  | k + 1, x => by
    show (farI n x (nx x) + ln n nx k (nx x)) % n = (it nx k (nx x) - x) % n
    rw [Int.add_emod, farI_mod, ln_mod k (nx x), ← Int.add_emod]
    congr 1; omega
/-- places are told apart by their rests -/
theorem mod_inj {a b : Int} (ha : 0 ≤ a ∧ a < n) (hb : 0 ≤ b ∧ b < n) (h : (a - b) % n = 0) : a = b := by
  have h1 : a % n = b % n := Int.emod_eq_emod_iff_emod_sub_eq_zero.mpr h
  rwa [Int.emod_eq_of_lt ha.1 ha.2, Int.emod_eq_of_lt hb.1 hb.2] at h1
/-- the way from a stands at b after just d -/
def Tr (n : Int) (nx : Int → Int) (t : Int × Int × Int) : Prop := ∃ k, it nx k t.1 = t.2.1 ∧ ln n nx k t.1 = t.2.2
/-- two houses are met again among as many steps as there are houses -/
theorem meets (hd : ks.Nodup) (h : ∀ x ∈ ks, nx x ∈ ks) {x : Int} (hx : x ∈ ks) : ∃ i j, i < j ∧ j ≤ ks.length ∧ it nx i x = it nx j x := by
  by_cases hc : ∃ i j, i < j ∧ j ≤ ks.length ∧ it nx i x = it nx j x
  · exact hc
  · exfalso
    have hnd : ((List.range (ks.length + 1)).map fun k => it nx k x).Nodup := by
      rw [List.Nodup, List.pairwise_map]
      refine List.Pairwise.imp_of_mem ?_ (List.pairwise_lt_range (n := ks.length + 1))
      intro a b ha hb hab he
      exact hc ⟨a, b, hab, by rw [List.mem_range] at hb; omega, he⟩
    have := nodup_leM hnd (b := ks) fun y hy => by
      obtain ⟨k, _, rfl⟩ := List.mem_map.mp hy
      exact it_mem h k hx
    rw [List.length_map, List.length_range] at this
    omega
end
end VL
set_option maxRecDepth 100000
set_option maxHeartbeats 4000000
namespace VL
open PySem PySem.Spec L2
open PyProof.Rows hiding St
section
variable {n : Int} {nx : Int → Int} {ks : List Int}
theorem emod_uniq {a b : Int} (hn : 0 < n) (h : a % n = b % n) (ha : 0 < a ∧ a ≤ n) (hb : 0 < b ∧ b ≤ n) : a = b := by
  have h1 : (a - b) % n = 0 := Int.emod_eq_emod_iff_emod_sub_eq_zero.mp h
  have h2 := Int.emod_add_mul_ediv (a - b) n
  rw [h1, Int.zero_add] at h2
  generalize (a - b) / n = q at h2
  rcases Int.lt_trichotomy q 0 with hq | hq | hq
  · have : n * q ≤ n * (-1) := Int.mul_le_mul_of_nonneg_left (by omega) (by omega)
    omega
  · rw [hq, Int.mul_zero] at h2; omega
  · have : n * 1 ≤ n * q := Int.mul_le_mul_of_nonneg_left (by omega) (by omega)
    omega
theorem farI_uniq {s e d : Int} (hn : 0 < n) (h : d % n = (e - s) % n) (hd : 0 < d ∧ d ≤ n) : farI n s e = d :=
  emod_uniq hn ((farI_mod s e).trans h.symm) (farI_pos hn) hd
theorem far_split {a m s : Int} (hn : 0 < n) (h : farI n a m < farI n a s) : farI n a m + farI n m s = farI n a s := by
  have h1 := farI_pos (s := a) (e := m) hn
  have h2 := farI_pos (s := a) (e := s) hn
  have e : farI n m s = farI n a s - farI n a m := by
    refine farI_uniq hn ?_ ⟨by omega, by omega⟩
    rw [Int.sub_emod, farI_mod, farI_mod, ← Int.sub_emod]
    congr 1; omega
  omega
theorem farI_self {a : Int} (hn : 0 < n) : farI n a a = n := farI_uniq hn (by rw [Int.sub_self, Int.emod_self, Int.zero_emod]) ⟨hn, Int.le_refl n⟩
theorem far_back {a m : Int} (hn : 0 < n) (h : farI n a m < n) : farI n m a = n - farI n a m := by
  have h1 := farI_pos (s := a) (e := m) hn
  refine farI_uniq hn ?_ ⟨by omega, by omega⟩
  rw [Int.sub_emod, farI_mod, Int.emod_self, ← Int.emod_self (a := n), ← Int.sub_emod]
  rw [show n - (m - a) = (a - m) + n by omega, Int.add_emod_right]
/-- a length of the right rest is at least the distance -/
theorem far_least {s e L : Int} (hn : 0 < n) (h : L % n = (e - s) % n) (hL : 0 < L) : farI n s e ≤ L := by
  have h1 := farI_pos (s := s) (e := e) hn
  by_cases hc : L ≤ n
  · rw [farI_uniq hn h ⟨hL, hc⟩]; exact Int.le_refl L
  · omega
/-- the way from a target between to the old next does not come by the house -/
theorem way_avoids {a m s : Int} (hn : 0 < n) (hb : farI n a m < farI n a s) {k : Nat} (h1 : ln n nx k m = farI n m s) {j : Nat} (hj : j < k) : it nx j m ≠ a := by
  intro he
  have hs := far_split hn hb
  have h2 := farI_pos (s := a) (e := s) hn
  have h3 : ln n nx j m < ln n nx k m := ln_lt hn hj m
  have h4 := ln_mod (n := n) (nx := nx) j m
  rw [he] at h4
  by_cases h0 : 0 < ln n nx j m
  · have h5 := far_least hn h4 h0
    have h6 := far_back (a := a) (m := m) hn (by omega)
    omega
  · have h7 := ln_ge (n := n) (nx := nx) hn j m
    have hj0 : j = 0 := by omega
    subst hj0
    have he' : m = a := he
    rw [he', farI_self hn] at hb
    omega
theorem it_upd {a m : Int} : ∀ {k : Nat} {x : Int}, (∀ j, j < k → it nx j x ≠ a) → it (upd1 nx a m) k x = it nx k x ∧ ln n (upd1 nx a m) k x = ln n nx k x
  | 0, x, _ => ⟨rfl, rfl⟩
  | k + 1, x, h => by
    have hx : x ≠ a := h 0 (by omega)
    have e : upd1 nx a m x = nx x := upd1_ne hx
    have ih := it_upd (a := a) (m := m) (k := k) (x := nx x) fun j hj => h (j + 1) (by omega)
    show it (upd1 nx a m) k (upd1 nx a m x) = it nx k (nx x) ∧ farI n x (upd1 nx a m x) + ln n (upd1 nx a m) k (upd1 nx a m x) = farI n x (nx x) + ln n nx k (nx x)
    rw [e]
    exact ⟨ih.1, by rw [ih.2]⟩
/-- a faithful change keeps each way: it stands where it stood, at the same length -/
theorem way_stays {a m : Int} (hn : 0 < n) (hb : farI n a m < farI n a (nx a)) (ht : Tr n nx (m, nx a, farI n m (nx a))) : ∀ (k : Nat) (x : Int), ∃ k', it (upd1 nx a m) k' x = it nx k x ∧ ln n (upd1 nx a m) k' x = ln n nx k x
  | 0, x => ⟨0, rfl, rfl⟩
  | k + 1, x => by
    obtain ⟨k', h1, h2⟩ := way_stays hn hb ht k (nx x)
    by_cases hx : x = a
    · subst hx
      obtain ⟨q, hq1, hq2⟩ := ht
      have av := it_upd (n := n) (a := x) (m := m) (k := q) (x := m) fun j hj => way_avoids hn hb hq2 hj
      have e1 : upd1 nx x m x = m := upd1_same
      have hs := far_split hn hb
      dsimp only at hq1 hq2
      have i1 : it (upd1 nx x m) q m = nx x := av.1.trans hq1
      have i2 : ln n (upd1 nx x m) q m = farI n m (nx x) := av.2.trans hq2
      refine ⟨(q + k') + 1, ?_, ?_⟩
      · show it (upd1 nx x m) (q + k') (upd1 nx x m x) = it nx k (nx x)
        rw [e1, it_add, i1]
        exact h1
      · show farI n x (upd1 nx x m x) + ln n (upd1 nx x m) (q + k') (upd1 nx x m x) = farI n x (nx x) + ln n nx k (nx x)
        rw [e1, ln_add, i1, i2, h2]
        omega
    · refine ⟨k' + 1, ?_, ?_⟩
      · show it (upd1 nx a m) k' (upd1 nx a m x) = it nx k (nx x)
        rw [upd1_ne hx]; exact h1
      · show farI n x (upd1 nx a m x) + ln n (upd1 nx a m) k' (upd1 nx a m x) = farI n x (nx x) + ln n nx k (nx x)
        rw [upd1_ne hx, h2]
theorem tr_stays {a m : Int} (hn : 0 < n) (hb : farI n a m < farI n a (nx a)) (ht : Tr n nx (m, nx a, farI n m (nx a))) {t : Int × Int × Int} (h : Tr n nx t) : Tr n (upd1 nx a m) t := by
  obtain ⟨k, h1, h2⟩ := h
  obtain ⟨k', h3, h4⟩ := way_stays hn hb ht k t.1
  exact ⟨k', h3.trans h1, h4.trans h2⟩
/-- a change back from a longer step: where the old next is still told, the change was faithful -/
theorem tr_back {a m : Int} (hn : 0 < n) (hb : farI n a m < farI n a (nx a)) (h : Tr n (upd1 nx a m) (a, nx a, farI n a (nx a))) : Tr n nx (m, nx a, farI n m (nx a)) := by
  obtain ⟨k, h1, h2⟩ := h
  dsimp only at h1 h2
  cases k with
  | zero =>
    have := (farI_pos (s := a) (e := nx a) hn).1
    have h2' : (0 : Int) = farI n a (nx a) := h2
    omega
  | succ k =>
    have e1 : upd1 nx a m a = m := upd1_same
    have h1' : it (upd1 nx a m) k (upd1 nx a m a) = nx a := h1
    have h2' : farI n a (upd1 nx a m a) + ln n (upd1 nx a m) k (upd1 nx a m a) = farI n a (nx a) := h2
    rw [e1] at h1' h2'
    have hs := far_split hn hb
    have h3 : ln n (upd1 nx a m) k m = farI n m (nx a) := by omega
    -- the new way from m avoids a, so it is the old one
    have av : ∀ j, j < k → it (upd1 nx a m) j m ≠ a := fun j hj => way_avoids (nx := upd1 nx a m) hn hb h3 hj
    have back : ∀ (k : Nat) (x : Int), (∀ j, j < k → it (upd1 nx a m) j x ≠ a) → it nx k x = it (upd1 nx a m) k x ∧ ln n nx k x = ln n (upd1 nx a m) k x := by
      intro k
      induction k with
      | zero => intro x _; exact ⟨rfl, rfl⟩
      | succ k ih =>
        intro x h
        have hx : x ≠ a := h 0 (by omega)
        have e : upd1 nx a m x = nx x := upd1_ne hx
        have i := ih (nx x) fun j hj => by
          have := h (j + 1) (by omega)
          have e2 : it (upd1 nx a m) (j + 1) x = it (upd1 nx a m) j (upd1 nx a m x) := rfl
          rw [e2, e] at this; exact this
        show it nx k (nx x) = it (upd1 nx a m) k (upd1 nx a m x) ∧ farI n x (nx x) + ln n nx k (nx x) = farI n x (upd1 nx a m x) + ln n (upd1 nx a m) k (upd1 nx a m x)
        rw [e]
        exact ⟨i.1, by rw [i.2]⟩
    obtain ⟨b1, b2⟩ := back k m av
    exact ⟨k, b1.trans h1', b2.trans h3⟩
end
end VL
set_option maxRecDepth 100000
set_option maxHeartbeats 4000000
namespace VL
open PySem PySem.Spec L2
open PyProof.Rows hiding St
theorem v_stopWhile {t : M Bool} {A g : SM} {Q : SRes → Prop} {s : FS} (h : Stop (wpS (sSeq (sWhile t A) g s) Q)) : wpS (sSeq (sWhile t A) g s) Q := h
section
variable {n : Int} {nx : Int → Int} {ks : List Int}
/-- as many steps as there are houses go round at least once -/
theorem lap_ge (hn : 0 < n) (hd : ks.Nodup) (h : ∀ x ∈ ks, nx x ∈ ks) {x : Int} (hx : x ∈ ks) : n ≤ ln n nx ks.length x := by
  obtain ⟨i, j, hij, hj, e⟩ := meets hd h hx
  obtain ⟨c, rfl⟩ := Nat.le.dest (Nat.le_of_lt hij)
  have h1 := ln_add (n := n) (nx := nx) i c x
  have h2 := ln_mod (n := n) (nx := nx) c (it nx i x)
  rw [← it_add, ← e, Int.sub_self, Int.zero_emod] at h2
  have h3 := ln_ge (n := n) (nx := nx) hn c (it nx i x)
  have h4 := ln_ge (n := n) (nx := nx) hn i x
  have h5 := ln_mono (nx := nx) hn hj x
  have h6 : n ≤ ln n nx c (it nx i x) := by
    obtain ⟨q, hq⟩ := Int.dvd_of_emod_eq_zero h2
    rw [hq] at h3 ⊢
    have hq1 : 1 ≤ q := by
      rcases Int.lt_or_le q 1 with h | h
      · have : n * q ≤ n * 0 := Int.mul_le_mul_of_nonneg_left (by omega) (by omega)
        omega
      · exact h
    have := Int.mul_le_mul_of_nonneg_left hq1 (Int.le_of_lt hn)
    omega
  omega
end
theorem v_stopFor1 {f : M Lp} {t : D → FS → Option FS} {A : SM} {Q : SRes → Prop} {s : FS} (h : Stop (wpS (sFor f t A s) Q)) : wpS (sFor f t A s) Q := h
end VL
set_option maxRecDepth 100000
set_option maxHeartbeats 4000000
namespace VL
open PySem PySem.Spec L2
open PyProof.Rows hiding St
noncomputable def b_is_true : SM := (sSeq (sTupA [4, 5, 6] (eVar 2))
  (sSeq (sSet 3 (eD (.int 0)))
  (sSeq (sWhile (eT (eB (kII pLt) (eVar 3) (eVar 6)))
  (sSeq (sAug 3 (kII pAdd) (eCall d_far (eCons (eVar 0) (eCons (eVar 4) (eCons (eB kIx (eVar 1) (eVar 4)) eNil)))))
  (sSet 4 (eB kIx (eVar 1) (eVar 4)))))
  (sRet (eAnd (eB (kEqN false) (eVar 4) (eVar 5)) (eB (kEqN false) (eVar 3) (eVar 6)))))))
noncomputable def d_is_true : Den := mkDen 3 4 b_is_true
local macro_rules | `(tactic| wtm_at "vl") => `(tactic| first
  | with_reducible refine v_seq ?_
  | with_reducible refine v_k_next ?_
  | with_reducible refine v_k_ret ?_
  | with_reducible refine v_k_brk ?_
  | with_reducible refine v_k_cont ?_
  | with_reducible refine v_set ?_
  | with_reducible refine v_if ?_
  | with_reducible refine v_ret ?_
  | with_reducible refine v_retN ?_
  | with_reducible refine v_nil ?_
  | with_reducible refine v_brk ?_
  | with_reducible refine v_cont ?_
  | with_reducible refine v_e ?_
  | with_reducible refine v_it ?_
  | with_reducible refine v_aug ?_
  | (with_reducible refine v_sl_val ?_; try dsimp only [List.set, FS.setE, C.toD])
  | (with_reducible refine v_sl_tmp ?h ?q; (case h => with_unfolding_all exact Nat.le_of_ble_eq_true rfl); (case' q => try dsimp only [List.set, FS.setE, C.toD]))
  | (with_reducible refine v_sl_pc ?_; try dsimp only [List.set, FS.setE, C.toD])
  | (with_reducible refine v_sl_ic ?_; try dsimp only [List.set, FS.setE, C.toD])
  | (with_reducible refine' w_var_val ?h0 ?q; (case h0 => with_unfolding_all rfl))
  | (with_reducible refine' w_var_own ?h0 ?q; (case h0 => with_unfolding_all rfl))
  | (with_reducible refine' w_var_pc ?h0 ?q; (case h0 => with_unfolding_all rfl))
  | (with_reducible refine' w_var_lck ?h0 ?q; (case h0 => with_unfolding_all rfl))
  | (with_reducible refine' w_var_ic ?h0 ?q; (case h0 => with_unfolding_all rfl))
  | with_reducible refine w_d ?_
  | with_reducible refine w_bin ?_
  | with_reducible refine w_cons ?_
  | with_reducible refine w_nil ?_
  | with_reducible refine w_T ?_
  | with_reducible refine w_asB ?_
  | with_reducible refine w_add ?_
  | with_reducible refine w_sub ?_
  | with_reducible refine w_lt ?_
  | with_reducible refine w_le ?_
  | with_reducible refine w_gt ?_
  | with_reducible refine w_ge ?_
  | with_reducible refine w_eqi ?_
  | with_reducible refine w_nei ?_
  | with_reducible refine w_mod ?_ ?_
  | with_reducible refine w_div ?_ ?_ ?_
  | with_reducible refine w_pow (by decide) ?_
  | with_reducible refine w_mul ?_ ?_
  | with_reducible refine w_addI ?_
  | with_reducible refine w_max ?_
  | with_reducible refine w_min ?_
  | with_reducible refine w_un ?_
  | with_reducible refine w_neg ?_
  | (with_reducible refine' w_ixl ?h0 ?h1 ?q; (case h0 => with_unfolding_all rfl); (case h1 => with_unfolding_all rfl))
  | (with_reducible refine' w_ixl ?h ?h2 ?q; (case h => with_unfolding_all rfl); (case' h2 => with_reducible refine atI_ints ?_ ?_))
  | (with_reducible refine' w_ixt ?h0 ?q; (case h0 => with_unfolding_all rfl))
  | with_reducible refine w_mand ?_
  | with_reducible refine w_mor ?_
  | with_reducible refine w_mnot ?_
  | with_reducible refine w_yes ?_
  | with_reducible refine w_eand ?_
  | with_reducible refine w_eor ?_
  | with_reducible refine w_enot ?_
  | with_reducible refine w_eif ?_
  | with_reducible refine w_ch ?_
  | with_reducible refine w_lst ?_
  | with_reducible refine w_tup ?_
  | with_reducible refine w_dict0 ?_
  | with_reducible refine w_cb ?_
  | with_reducible refine w_k1 ?_
  | with_reducible refine w_k2 ?_
  | with_reducible refine w_abs ?_
  | with_reducible refine w_int ?_
  | with_reducible refine w_intb ?_
  | (with_reducible refine' w_lenl ?h0 ?q; (case h0 => with_unfolding_all rfl))
  | with_reducible refine w_lent ?_
  | with_reducible refine w_isT ?_
  | with_reducible refine w_eCall ?_
  | with_reducible refine w_eqb ?_
  | with_reducible refine w_eqs ?_
  | with_reducible refine i_true ?_
  | with_reducible refine i_false ?_
  | with_reducible refine i_not ?_
  | with_reducible refine i_dec (fun _ => ?_) (fun _ => ?_)
  | with_reducible refine f_next ?_
  | with_reducible refine f_val ?_
  | with_reducible refine f_tmp ?_
  | with_reducible refine f_pc ?_
  | (with_reducible refine' f_var ?h0 ?q; (case h0 => with_unfolding_all rfl))
  | (with_reducible refine' i_lt ?h0 ?q; (case h0 => with_unfolding_all rfl))
  | (with_reducible refine' i_lf ?h0 ?q; (case h0 => with_unfolding_all rfl))
  | (with_reducible refine' x_it ?h ?h2 ?q; (case h => with_unfolding_all rfl); (case h2 => (with_reducible refine' setItem_lst ?a ?b ?c; (case a => with_unfolding_all rfl); (case b => with_unfolding_all rfl); (case c => with_unfolding_all rfl))); (case' q => try dsimp only [List.set, FS.setE, C.toD, Int.reduceToNat]))
  | (with_reducible refine' x_frz ?h0 ?h1 ?q; (case h0 => with_unfolding_all rfl); (case h1 => with_unfolding_all rfl); (case' q => try dsimp only [List.set, FS.setE, C.toD]))
  | (with_reducible refine' x_call ?h0 ?h1 ?q; (case h0 => with_unfolding_all rfl); (case h1 => with_unfolding_all rfl); (case' q => try dsimp only [List.set, FS.setE, C.toD]))
  | (with_reducible refine' x_back ?h0 ?q; (case h0 => with_unfolding_all rfl); (case' q => try dsimp only [List.set, FS.setE, C.toD]))
  | (with_reducible refine' x_ty ?h0 ?q; (case h0 => with_unfolding_all rfl))
  | (with_reducible refine' x_frz1 ?h0 ?q; (case h0 => with_unfolding_all rfl); (case' q => try dsimp only [List.set, FS.setE, C.toD]))
  | with_reducible refine x_r1 ⟨?_, ?_⟩ ?_
  | with_reducible refine x_r2 ⟨?_, ?_, ?_, ?_⟩ ?_
  | with_reducible refine w_m ?_
  | (with_reducible refine' x_has ?h0 ?q; (case h0 => with_unfolding_all rfl))
  | (with_reducible refine' w_app ?h ?h1 ?h2 ?h3 ?h4 ?q; (case h => with_unfolding_all rfl); (case h1 => with_unfolding_all rfl); (case h3 => rfl); (case h4 => with_unfolding_all rfl); (case' q => try dsimp only [List.set, FS.setE, C.toD]))
  | with_reducible refine w_isT ?_
  | (with_reducible refine' w_is ?h0 ?q; (case h0 => with_unfolding_all rfl))
  | (with_reducible refine' w_call ?h0 ?q; (case h0 => with_unfolding_all rfl); (case' q => try dsimp only [List.nil_append, List.cons_append, List.length_nil, List.length_cons, Nat.reduceAdd]))
  | (with_reducible refine' w_listOf ?h0 ?q; (case h0 => with_unfolding_all rfl))
  | (with_reducible refine' w_tupOf ?h0 ?q; (case h0 => with_unfolding_all rfl))
  | (with_reducible show @LE.le Int _ _ _; omega)
  | (with_reducible show @LT.lt Int _ _ _; omega)
  | fail)
local macro_rules | `(tactic| wtm_at "vl") => `(tactic| first
  | with_reducible refine pick_w (by assumption) ?_ ?_ (fun _ _ _ _ _ => ?_)
  | with_reducible refine size_w (by assumption) ?_ (fun _ _ _ _ _ _ => ?_)
  | with_reducible refine wide_w (by assumption) ?_ (fun _ _ _ _ _ => ?_)
  | with_reducible refine place_w (by assumption) ?_ (fun _ _ _ _ _ => ?_)
  | with_reducible refine near_w (by assumption) ?_ ?_ ?_ (fun _ _ _ _ _ => ?_)
  | with_reducible refine circle_w (by assumption) ?_ (fun _ _ _ _ _ _ => ?_)
  | with_reducible refine tape_w (by assumption) (fun _ _ => ?_)
  | with_reducible refine far_w ?_ ?_)
local macro_rules | `(tactic| wtm_at "gk") => `(tactic| first | with_unfolding_all assumption | with_unfolding_all rfl | exact g_app | (apply g_set; wtm_at "gk") | (apply g_appL; wtm_at "gk") | (apply g_ne; (first | assumption | omega); wtm_at "gk"))
local macro_rules | `(tactic| wtm_at "vl") => `(tactic| first
  | (with_reducible refine' i_st ?h0 ?q; (case h0 => decide +kernel))
  | (with_reducible refine' i_sf ?h0 ?q; (case h0 => decide +kernel))
  | (with_reducible refine l_next ?_; try dsimp only)
  | (with_reducible refine l_cont ?_; try dsimp only)
  | with_reducible refine l_brk ?_
  | with_reducible refine l_ret ?_
  | with_reducible refine w_fld ?_
  | (with_reducible refine' x_fld ?h0 ?h1 ?h2 ?q; (case h0 => wtm_at "gk"); (case h1 => with_unfolding_all first | exact List.mem_cons_self | exact List.mem_cons_of_mem _ List.mem_cons_self); (case h2 => with_unfolding_all rfl); (case' q => try dsimp only [fldR]))
  | with_reducible refine w_meth ?_
  | (with_reducible refine' x_meth ?h0 ?h1 ?h2 ?q; (case h0 => wtm_at "gk"); (case h1 => with_unfolding_all rfl); (case h2 => with_unfolding_all rfl); (case' q => try dsimp only [List.map_nil, List.map_cons, List.append_nil, List.cons_append, List.nil_append]))
  | (with_reducible refine w_make ?_; try dsimp only [List.map_nil, List.map_cons, List.append_nil, List.cons_append, List.nil_append, List.length_nil, List.length_cons, Nat.reduceAdd])
  | with_reducible refine m_mk ?_
  | with_reducible refine w_eLc ?_
  | with_reducible refine w_eLn ?_
  | with_reducible refine v_fld ?_
  | (with_reducible refine' x_stf ?h0 ?h1 ?h2 ?q; (case h0 => wtm_at "gk"); (case h1 => with_unfolding_all first | exact List.mem_cons_self | exact List.mem_cons_of_mem _ List.mem_cons_self); (case h2 => first | (with_reducible refine' storeF_val ?a ?b; (case a => wtm_at "gk"); (case b => with_unfolding_all rfl)) | (with_reducible refine' storeF_tmp ?a ?b; (case a => wtm_at "gk"); (case b => with_unfolding_all rfl))); (case' q => try dsimp only [List.set]; try simp only [List.set_set]))
  | with_reducible refine w_box ?_
  | (with_reducible refine x_boxed ?_)
  | (with_reducible refine w_callD ?_; try dsimp only [List.map_nil, List.map_cons, List.append_nil, List.cons_append, List.nil_append])
  | (with_reducible refine' w_app ?h ?h1 ?h2 ?h3 ?h4 ?q; (case h => with_unfolding_all rfl); (case h1 => with_unfolding_all rfl); (case h3 => with_unfolding_all rfl); (case h4 => with_unfolding_all rfl); (case h2 => with_unfolding_all exact Nat.le_of_ble_eq_true rfl); (case' q => try dsimp only [List.set, FS.setE, C.toD, List.nil_append, List.cons_append]))
  | (with_reducible refine' w_app ?h ?h1 ?h2 ?h3 ?h4 ?q; (case h => with_unfolding_all rfl); (case h1 => with_unfolding_all rfl); (case h3 => with_unfolding_all rfl); (case h4 => with_unfolding_all rfl); (case' q => try dsimp only [List.set, FS.setE, C.toD, List.nil_append, List.cons_append]))
  | with_reducible refine v_par ?_
  | with_reducible refine v_tupA ?_
  | with_reducible refine w_dm1 ?_
  | with_reducible refine w_dm2 ?_
  | (with_reducible refine' w_ixb ?h0 ?h1 ?q; (case h0 => wtm_at "gk"); (case h1 => with_unfolding_all rfl))
  | (with_reducible refine' w_lenb ?h0 ?q; (case h0 => wtm_at "gk"))
  | (with_reducible refine' x_itb ?h0 ?h1 ?h2 ?q; (case h0 => with_unfolding_all rfl); (case h1 => wtm_at "gk"); (case h2 => with_unfolding_all rfl); (case' q => try dsimp only [List.set, FS.setE, C.toD, Int.reduceToNat]; try simp only [List.set_set]))
  | fail)
local macro_rules | `(tactic| wtm_at "vl") => `(tactic| first
  | with_reducible refine between_w ?_ ?_
  | with_reducible refine lfar_w ?_ ?_
  | with_reducible refine lbetween_w ?_ ?_
  | with_reducible refine places_w (by assumption) ?_ ?_ ?_ ?_ (fun _ _ _ _ _ _ => ?_)
  | fail)
local macro_rules | `(tactic| wtm_at "ck") => `(tactic| first
  | with_unfolding_all rfl
  | (with_unfolding_all refine' cont_ic ?a ?b; (case a => wtm_at "gk"); (case b => with_unfolding_all rfl))
  | (with_unfolding_all refine' cont_box ?a; (case a => wtm_at "gk"))
  | (with_unfolding_all refine' Hold.cont ?a; (case a => with_unfolding_all assumption)))
local macro_rules | `(tactic| wtm_at "pk") => `(tactic| first
  | with_unfolding_all rfl
  | (with_unfolding_all refine' put_ic ?a ?b ?c; (case a => wtm_at "gk"); (case b => with_unfolding_all rfl); (case c => exact fun _ z => nomatch z))
  | (with_unfolding_all refine' put_box ?a ?c; (case a => wtm_at "gk"); (case c => exact fun _ z => nomatch z)))
local macro_rules | `(tactic| wtm_at "vl") => `(tactic| first
  | (with_reducible refine' c_ixd ?h0 ?h1 ?q; (case h0 => wtm_at "ck"); (case' q => try dsimp only [nxF, bfF]))
  | (with_reducible refine' c_ixl ?h0 ?h1 ?q; (case h0 => wtm_at "ck"); (case h1 => first | with_unfolding_all rfl | assumption))
  | (with_reducible refine' c_len ?h0 ?q; (case h0 => wtm_at "ck"))
  | (with_reducible refine' c_lend ?h0 ?q; (case h0 => wtm_at "ck"))
  | (with_reducible refine' c_in ?h0 ?q; (case h0 => wtm_at "ck"))
  | (with_reducible refine' c_sorted ?h0 ?h1 ?q; (case h0 => wtm_at "ck"))
  | (with_reducible refine' c_get1 ?h0 ?q; (case h0 => wtm_at "ck"))
  | (with_reducible refine' c_dictOf ?h0 ?q; (case h0 => wtm_at "ck"))
  | (with_reducible refine' c_listOf ?h0 ?q; (case h0 => wtm_at "ck"))
  | (with_reducible refine' c_tupOf ?h0 ?q; (case h0 => wtm_at "ck"))
  | (with_reducible refine c_dm1 ?_)
  | (with_reducible refine' x_contD ?h0 ?q; (case h0 => wtm_at "ck"))
  | (with_reducible refine' c_app ?h ?h1 ?h2 ?h3 ?h4 ?q; (case h => with_unfolding_all rfl); (case h1 => wtm_at "ck"); (case h3 => with_unfolding_all rfl); (case h4 => wtm_at "pk"); (case' q => try dsimp only [List.set, FS.setE, C.toD, List.nil_append, List.cons_append]; try simp only [List.set_set]))
  | (with_reducible refine' x_hasL ?h0 ?q; (case h0 => wtm_at "ck"))
  | (with_reducible refine' c_setdM ?h0 ?h1 ?h2 ?h3 ?h4 ?q; (case h0 => with_unfolding_all rfl); (case h1 => wtm_at "ck"); (case h4 => wtm_at "pk"); (case' q => try dsimp only [List.set, FS.setE, C.toD, List.nil_append, List.cons_append]; try simp only [List.set_set]))
  | (with_reducible refine' w_varA ?ha ?h0 ?q; (case h0 => with_unfolding_all rfl); (case ha => assumption))
  | fail)
local macro_rules | `(tactic| wtm_at "vl") => `(tactic| first
  | with_reducible refine cplace_w ?_ ?_
  | (with_reducible refine' chouses1_w ?h0 ?h1 ?q; (case h0 => wtm_at "gk"))
  | (with_reducible refine' chouses2_w ?h0 ?h1 ?h2 ?q; (case h0 => wtm_at "gk"))
  | (with_reducible refine' nlose_w ?h ?h0 ?h1 ?h2 ?q; (case h0 => wtm_at "gk"); (case h => assumption); (case h1 => assumption); (case h2 => assumption))
  | (with_reducible refine' nread_w ?h ?h0 ?h1 ?h2 ?q; (case h0 => wtm_at "gk"); (case h => assumption); (case h1 => assumption); (case h2 => assumption))
  | (with_reducible refine' nrepeat_w ?h ?h0 ?h1 ?h2 ?q; (case h0 => wtm_at "gk"); (case h => assumption); (case h1 => assumption); (case h2 => assumption))
  | (with_reducible refine' ntell_w ?h ?h0 ?h1 ?q; (case h0 => wtm_at "gk"); (case h => assumption))
  | (with_reducible refine' nask_w ?h ?h0 ?h1 ?q; (case h0 => wtm_at "gk"); (case h => assumption))
  | (with_reducible refine' nhold_w ?h ?h0 ?h1 ?h2 ?q; (case h0 => wtm_at "gk"); (case h => assumption))
  | (with_reducible refine' nletters_w ?h0 ?q; (case h0 => wtm_at "gk"))
  | fail)
local macro_rules | `(tactic| wtm_at "vl") => `(tactic| first
  | (with_reducible refine lp_next ?_; try dsimp only)
  | (with_reducible refine lp_cont ?_; try dsimp only)
  | with_reducible refine lp_brk ?_
  | with_reducible refine lp_ret ?_
  | (with_reducible refine' c_inY ?h0 ?h1 ?q; (case h0 => wtm_at "ck"); (case h1 => assumption))
  | (with_reducible refine' c_inN ?h0 ?h1 ?q; (case h0 => wtm_at "ck"); (case h1 => assumption))
  | (with_reducible refine' c_ixdE ?h0 ?h1 ?h2 ?q; (case h0 => wtm_at "ck"); (case h1 => assumption); (case h2 => assumption))
  | (with_reducible refine' c_get1E ?h0 ?h1 ?q; (case h0 => wtm_at "ck"); (case h1 => assumption))
  | (with_reducible refine' c_popAt ?h0 ?h1 ?h2 ?h3 ?h4 ?q; (case h0 => wtm_at "ck"); (case h2 => assumption); (case h3 => assumption); (case h4 => wtm_at "pk"); (case' h1 => try assumption); (case' q => try dsimp only [List.set, FS.setE, C.toD]; try simp only [List.set_set]))
  | (with_reducible refine' c_sorted ?h0 ?h1 ?q; (case h0 => wtm_at "ck"); (case h1 => assumption))
  | (with_reducible refine' c_setdM ?h0 ?h1 ?h2 ?h3 ?h4 ?q; (case h0 => with_unfolding_all rfl); (case h1 => wtm_at "ck"); (case h2 => assumption); (case h4 => wtm_at "pk"); (case h3 => first | assumption | omega); (case' q => try dsimp only [List.set, FS.setE, C.toD, List.nil_append, List.cons_append]; try simp only [List.set_set]))
  | (with_reducible refine' c_setdN ?h0 ?h1 ?h2 ?h3 ?h4 ?q; (case h0 => with_unfolding_all rfl); (case h1 => wtm_at "ck"); (case h2 => assumption); (case h4 => wtm_at "pk"); (case h3 => first | assumption | omega); (case' q => try dsimp only [List.set, FS.setE, C.toD, List.nil_append, List.cons_append]; try simp only [List.set_set]))
  | (with_reducible refine' c_ixdL ?h0 ?h1 ?q; (case h0 => wtm_at "ck"); (case h1 => first | assumption | skip); (case' q => try dsimp only [nxF, bfF]))
  | (with_reducible refine' w_sortI ?h0 ?q; (case h0 => with_unfolding_all rfl))
  | (with_reducible refine same_vv ?_ ?_ ?_)
  | (with_reducible refine' same_01 ?h0 ?h1 ?h2 ?q; (case h0 => with_unfolding_all rfl))
  | (with_reducible refine' same_v0 ?h0 ?h2 ?q; (case h0 => with_unfolding_all rfl))
  | (with_reducible refine' same_0v ?h0 ?h2 ?q; (case h0 => with_unfolding_all rfl))
  | (with_reducible refine' w_eqL ?h0 ?h1 ?h2 ?h3 ?q; (case h0 => with_unfolding_all rfl); (case h1 => with_unfolding_all rfl); (case h2 => with_unfolding_all (intro _ z; cases z)); (case h3 => with_unfolding_all (intro _ z; cases z)))
  | fail)
local macro_rules | `(tactic| wtm_at "vl") => `(tactic| first
  | (with_reducible refine' c_lenM ?h0 ?q; (case h0 => wtm_at "ck"))
  | fail)
local macro_rules | `(tactic| wtm_at "gk") => `(tactic| first | with_reducible assumption | with_unfolding_all rfl | exact g_app | (with_reducible apply g_set; wtm_at "gk") | (with_reducible apply g_appL; wtm_at "gk") | (with_reducible apply g_ne; (first | assumption | omega); wtm_at "gk"))
local macro_rules | `(tactic| wtm_at "ck") => `(tactic| first
  | with_unfolding_all rfl
  | (with_reducible refine' cont_ic ?a ?b; (case a => wtm_at "gk"); (case b => with_unfolding_all rfl))
  | (with_reducible refine' cont_box ?a; (case a => wtm_at "gk"))
  | (with_reducible refine' Hold.cont ?a; (case a => with_reducible assumption)))
local macro_rules | `(tactic| wtm_at "vl") => `(tactic| first
  | (with_reducible refine' c_slHi ?h0 ?h1 ?q; (case h0 => wtm_at "ck"); (case h1 => first | assumption | omega))
  | (with_reducible refine' c_slLo ?h0 ?h1 ?q; (case h0 => wtm_at "ck"); (case h1 => first | assumption | omega))
  | fail)
local macro_rules | `(tactic| wtm_at "vl") => `(tactic| first
  | (with_reducible refine' nnexts_w ?h ?h0 ?q; (case h0 => wtm_at "gk"); (case h => assumption))
  | (with_reducible refine' nbefores_w ?h ?h0 ?q; (case h0 => wtm_at "gk"); (case h => assumption))
  | (with_reducible refine' nclone_w ?h ?h0 ?q; (case h0 => wtm_at "gk"); (case h => assumption))
  | (with_reducible refine' sayings_w ?h ?h0 ?q; (case h0 => wtm_at "gk"); (case h => assumption))
  | (with_reducible refine' nsnap_w ?h ?h0 ?q; (case h0 => wtm_at "gk"); (case h => assumption))
  | (with_reducible refine' nadmit_w ?h ?h0 ?h1 ?h2 ?h3 ?q; (case h0 => wtm_at "gk"); (case h => assumption); (case h2 => assumption); (case' h1 => try assumption); (case' h3 => try assumption))
  | (with_reducible refine' nsetb_w ?h ?h0 ?h1 ?h2 ?q; (case h0 => wtm_at "gk"); (case h => assumption); (case' h1 => try assumption); (case' h2 => try assumption))
  | (with_reducible refine' nsetbN_w ?h ?h0 ?h1 ?q; (case h0 => wtm_at "gk"); (case h => assumption); (case' h1 => try assumption))
  | (with_reducible refine' nhold_w ?h ?h0 ?h1 ?h2 ?q; (case h0 => wtm_at "gk"); (case h => assumption); (case' h1 => try assumption); (case' h2 => try assumption))
  | (with_reducible refine' ntell_w ?h ?h0 ?h1 ?q; (case h0 => wtm_at "gk"); (case h => assumption); (case' h1 => try assumption))
  | (with_reducible refine' nask_w ?h ?h0 ?h1 ?q; (case h0 => wtm_at "gk"); (case h => assumption); (case' h1 => try assumption))
  | with_reducible refine i_decX (fun _ => ?_) (fun _ => ?_)
  | with_reducible refine i_decF (fun _ => ?_) (fun _ => ?_)
  | (with_reducible refine' c_setdM ?h0 ?h1 ?h2 ?h3 ?h4 ?q; (case h0 => with_unfolding_all rfl); (case h1 => wtm_at "ck"); (case h2 => assumption); (case h4 => wtm_at "pk"); (case h3 => first | assumption | omega); (case' q => try dsimp only [List.set, FS.setE, C.toD, List.nil_append, List.cons_append]; try simp only [List.set_set]))
  | (with_reducible refine' c_setdN ?h0 ?h1 ?h2 ?h3 ?h4 ?q; (case h0 => with_unfolding_all rfl); (case h1 => wtm_at "ck"); (case h2 => assumption); (case h4 => wtm_at "pk"); (case h3 => first | assumption | omega); (case' q => try dsimp only [List.set, FS.setE, C.toD, List.nil_append, List.cons_append]; try simp only [List.set_set]))
  | (with_reducible refine' c_setd ?h0 ?h1 ?h2 ?h3 ?q; (case h0 => with_unfolding_all rfl); (case h1 => wtm_at "ck"); (case h3 => wtm_at "pk"); (case h2 => first | assumption | omega); (case' q => try dsimp only [List.set, FS.setE, C.toD, List.nil_append, List.cons_append]; try simp only [List.set_set]))
  | (with_reducible refine' lread_e ?h ?b ?h0 ?h1 ?q; (case h => assumption); (case b => assumption); (case h0 => assumption); (case h1 => assumption))
  | (with_reducible refine' lsays_e ?h ?b ?q; (case h => assumption); (case b => assumption))
  | (with_reducible refine' lsnap_e ?h ?b ?q; (case h => assumption); (case b => assumption))
  | (with_reducible refine' lstands_e ?h ?b ?h0 ?q; (case h => assumption); (case b => assumption); (case h0 => wtm_at "gk"))
  | fail)
local macro_rules | `(tactic| wtm_at "vl") => `(tactic| first
  | with_reducible refine v_seq ?_
  | with_reducible refine v_k_next ?_
  | with_reducible refine v_set ?_
  | (with_reducible refine v_sl_val ?_; try dsimp only [List.set, FS.setE, C.toD])
  | (with_reducible refine v_sl_tmp ?h ?q; (case h => with_unfolding_all exact Nat.le_of_ble_eq_true rfl); (case' q => try dsimp only [List.set, FS.setE, C.toD]))
  | (with_reducible refine' w_var_val ?h0 ?q; (case h0 => with_unfolding_all rfl))
  | with_reducible refine w_cons ?_
  | with_reducible refine w_nil ?_
  | with_reducible refine w_bin ?_
  | with_reducible refine w_d ?_
  | with_reducible refine w_T ?_
  | with_reducible refine w_asB ?_
  | with_reducible refine v_if ?_
  | (with_reducible refine' w_var_own ?h0 ?q; (case h0 => with_unfolding_all rfl))
  | (with_reducible refine' w_var_pc ?h0 ?q; (case h0 => with_unfolding_all rfl))
  | with_reducible refine w_eCall ?_
  | (with_reducible refine' w_call ?h0 ?q; (case h0 => with_unfolding_all rfl); (case' q => try dsimp only [List.nil_append, List.cons_append, List.length_nil, List.length_cons, Nat.reduceAdd]))
  | with_reducible refine w_cb ?_
  | with_reducible refine w_k1 ?_
  | with_reducible refine i_dec (fun _ => ?_) (fun _ => ?_)
  | with_reducible refine w_eqi ?_
  | with_reducible refine w_lt ?_
  | with_reducible refine w_gt ?_
  | with_reducible refine w_ge ?_
  | with_reducible refine w_le ?_
  | with_reducible refine w_add ?_
  | with_reducible refine w_sub ?_
  | with_reducible refine w_mand ?_
  | with_reducible refine w_mor ?_
  | with_reducible refine w_mnot ?_
  | with_reducible refine i_not ?_
  | with_reducible refine v_it ?_
  | with_reducible refine w_fld ?_
  | with_reducible refine w_eqs ?_
  | with_reducible refine w_un ?_
  | with_reducible refine w_tup ?_
  | (with_reducible refine' x_frz ?h0 ?h1 ?q; (case h0 => with_unfolding_all rfl); (case h1 => with_unfolding_all rfl); (case' q => try dsimp only [List.set, FS.setE, C.toD]))
  | with_reducible refine i_true ?_
  | with_reducible refine i_false ?_
  | with_reducible refine w_m ?_
  | with_reducible refine v_e ?_
  | (with_reducible refine' w_is ?h0 ?q; (case h0 => with_unfolding_all rfl))
  | (with_reducible refine' w_ixt ?h0 ?q; (case h0 => with_unfolding_all rfl))
  | with_reducible refine w_meth ?_
  | with_reducible refine v_ret ?_
  | with_reducible refine f_val ?_
  | with_reducible refine f_tmp ?_
  | with_reducible refine v_nil ?_
  | (with_reducible refine lp_next ?_; try dsimp only)
  | with_reducible refine v_k_ret ?_
  | (with_reducible refine v_sl_pc ?_; try dsimp only [List.set, FS.setE, C.toD])
  | with_reducible refine w_isT ?_
  | with_reducible refine w_isT ?_
  | (with_reducible refine' w_listOf ?h0 ?q; (case h0 => with_unfolding_all rfl))
  | (with_reducible refine' x_call ?h0 ?h1 ?q; (case h0 => with_unfolding_all rfl); (case h1 => with_unfolding_all rfl); (case' q => try dsimp only [List.set, FS.setE, C.toD]))
  | fail)
theorem istrue_w {n : Int} {ts : List Int} {nx : Int → Int} {a b d : Int} {g : List Inst} {Q X} (hn : 0 < n) (hx : ∀ x ∈ ts, nx x ∈ ts) (ha : a ∈ ts)
    (q : ∀ r : Bool, (r = true ↔ Tr n nx (a, b, d)) → Q (.val (.bl r)) [.dct (fT ts (nxF nx))] g) : wpD (d_is_true [.val (.int n), .pc 0, .val (sayD (a, b, d))] [.dct (fT ts (nxF nx))] g) Q X := by
  unfold d_is_true
  with_reducible refine v_den ?ha ?_
  case ha => rfl
  unfold b_is_true
  simp only [List.map_cons, List.map_nil, List.replicate, argS, List.cons_append, List.nil_append]
  dsimp only [sayD]
  repeat' first
    | with_reducible refine v_stopWhile ?_
    | wtm_at "vl"
  refine ⟨_, _, rfl, rfl, ?_⟩
  try dsimp only [FS.setE, List.set]
  repeat' first
    | with_reducible refine v_stopWhile ?_
    | wtm_at "vl"
  with_reducible refine v_cutS (fun s => ∃ k : Nat, d ≤ ln n nx k a ∧ (∀ j, j < k → ln n nx j a < d) ∧ s = ⟨[.val (.int n), .pc 0, .val (.tup [.int a, .int b, .int d]), .val (.int (ln n nx k a)), .val (.int (it nx k a)), .val (.int b), .val (.int d)], [.dct (fT ts (nxF nx))], g⟩) ?_ ?_
  · refine v_while (n := d.toNat) (fun m s => ∃ k : Nat, (d - ln n nx k a).toNat ≤ m ∧ (∀ j, j < k → ln n nx j a < d) ∧ s = ⟨[.val (.int n), .pc 0, .val (.tup [.int a, .int b, .int d]), .val (.int (ln n nx k a)), .val (.int (it nx k a)), .val (.int b), .val (.int d)], [.dct (fT ts (nxF nx))], g⟩) ⟨0, by show (d - 0).toNat ≤ d.toNat; omega, (fun j hj => absurd hj (by omega)), rfl⟩ ?_
    intro m s ⟨k, hm, hj, e⟩
    subst e
    have hk := it_mem hx k ha
    have hp := (farI_pos (s := it nx k a) (e := nx (it nx k a)) hn).1
    have hs := ln_succ (n := n) (nx := nx) k a
    repeat' wtm_at "vl"
    all_goals first
      | exact hk
      | exact hn
      | (refine ⟨m - 1, by omega, k + 1, by omega, fun j hj2 => ?_, ?_⟩
         · rcases Nat.lt_succ_iff_lt_or_eq.mp hj2 with h | h
           · exact hj j h
           · subst h; omega
         · rw [hs, it_succ])
      | (exact ⟨_, rfl, k, by omega, hj, rfl⟩)
      | trace_state
  · intro s ⟨k, h1, h2, e⟩
    subst e
    have key : ∀ r : Bool, (r = true ↔ (it nx k a = b ∧ ln n nx k a = d)) → (r = true ↔ Tr n nx (a, b, d)) := fun r hr => by
      rw [hr]
      constructor
      · intro h; exact ⟨k, h⟩
      · intro ⟨j, h3, h4⟩
        dsimp only at h3 h4
        have : j = k := by
          rcases Nat.lt_trichotomy j k with h | h | h
          · have := h2 j h; omega
          · exact h
          · have := ln_lt (nx := nx) hn h a; omega
        subst this; exact ⟨h3, h4⟩
    repeat' wtm_at "vl"
    all_goals first
      | exact q _ (key _ (by simp [*]))
      | trace_state
end VL
set_option maxRecDepth 100000
set_option maxHeartbeats 4000000
namespace VL
open PySem PySem.Spec L2
open PyProof.Rows hiding St
noncomputable def b_holds_true : SM := (sRet (eCall d_is_true (eCons (eFld ["Net"] "size" (eVar 0)) (eCons (eMeth "Net" "nexts" d_Net_nexts [] (eVar 0) eNil) (eCons (eVar 1) eNil)))))
noncomputable def d_holds_true : Den := mkDen 2 0 b_holds_true
noncomputable def b_refuse_strangers : SM := (sSeq (sSet 2 (eMeth "Net" "nexts" d_Net_nexts [] (eVar 0) eNil))
  (sFor (iAny (eVar 1)) (gSet 3)
  (sFor (iAny (eVar 3)) (gSet 4)
  (sIf (eT (eB (kIn true) (eVar 4) (eVar 2)))
  sNever
  sNil))))
noncomputable def d_refuse_strangers : Den := mkDen 2 3 b_refuse_strangers
noncomputable def b_Net_next_of : SM := (sSeq (sE (eCall d_check_houses (eCons (eFld ["Net"] "_nexts" (eVar 0)) (eCons (eLst (eCons (eVar 1) eNil)) eNil))))
  (sRet (eB kIx (eFld ["Net"] "_nexts" (eVar 0)) (eVar 1))))
noncomputable def d_Net_next_of : Den := mkDen 2 0 b_Net_next_of
noncomputable def b_is_faithful : SM := (sSeq (sE (eCall d_refuse_strangers (eCons (eVar 0) (eCons (eLst (eCons (eTup (eCons (eVar 1) (eCons (eVar 2) eNil))) eNil)) eNil))))
  (sSeq (sSet 3 (eMeth "Net" "next_of" d_Net_next_of [] (eVar 0) (eCons (eVar 1) eNil)))
  (sSeq (sIf (mNot (eT (eCall d_between (eCons (eFld ["Net"] "size" (eVar 0)) (eCons (eVar 1) (eCons (eVar 2) (eCons (eVar 3) eNil)))))))
  (sRet (eD (.bl false)))
  sNil)
  (sRet (eCall d_holds_true (eCons (eVar 0) (eCons (eTup (eCons (eVar 2) (eCons (eVar 3) (eCons (eCall d_far (eCons (eFld ["Net"] "size" (eVar 0)) (eCons (eVar 2) (eCons (eVar 3) eNil)))) eNil)))) eNil)))))))
noncomputable def d_is_faithful : Den := mkDen 3 1 b_is_faithful
local macro_rules | `(tactic| wtm_at "vl") => `(tactic| first
  | with_reducible refine v_seq ?_
  | with_reducible refine v_k_next ?_
  | with_reducible refine v_k_ret ?_
  | with_reducible refine v_k_brk ?_
  | with_reducible refine v_k_cont ?_
  | with_reducible refine v_set ?_
  | with_reducible refine v_if ?_
  | with_reducible refine v_ret ?_
  | with_reducible refine v_retN ?_
  | with_reducible refine v_nil ?_
  | with_reducible refine v_brk ?_
  | with_reducible refine v_cont ?_
  | with_reducible refine v_e ?_
  | with_reducible refine v_it ?_
  | with_reducible refine v_aug ?_
  | (with_reducible refine v_sl_val ?_; try dsimp only [List.set, FS.setE, C.toD])
  | (with_reducible refine v_sl_tmp ?h ?q; (case h => with_unfolding_all exact Nat.le_of_ble_eq_true rfl); (case' q => try dsimp only [List.set, FS.setE, C.toD]))
  | (with_reducible refine v_sl_pc ?_; try dsimp only [List.set, FS.setE, C.toD])
  | (with_reducible refine v_sl_ic ?_; try dsimp only [List.set, FS.setE, C.toD])
  | (with_reducible refine' w_var_val ?h0 ?q; (case h0 => with_unfolding_all rfl))
  | (with_reducible refine' w_var_own ?h0 ?q; (case h0 => with_unfolding_all rfl))
  | (with_reducible refine' w_var_pc ?h0 ?q; (case h0 => with_unfolding_all rfl))
  | (with_reducible refine' w_var_lck ?h0 ?q; (case h0 => with_unfolding_all rfl))
  | (with_reducible refine' w_var_ic ?h0 ?q; (case h0 => with_unfolding_all rfl))
  | with_reducible refine w_d ?_
  | with_reducible refine w_bin ?_
  | with_reducible refine w_cons ?_
  | with_reducible refine w_nil ?_
  | with_reducible refine w_T ?_
  | with_reducible refine w_asB ?_
  | with_reducible refine w_add ?_
  | with_reducible refine w_sub ?_
  | with_reducible refine w_lt ?_
  | with_reducible refine w_le ?_
  | with_reducible refine w_gt ?_
  | with_reducible refine w_ge ?_
  | with_reducible refine w_eqi ?_
  | with_reducible refine w_nei ?_
  | with_reducible refine w_mod ?_ ?_
  | with_reducible refine w_div ?_ ?_ ?_
  | with_reducible refine w_pow (by decide) ?_
  | with_reducible refine w_mul ?_ ?_
  | with_reducible refine w_addI ?_
  | with_reducible refine w_max ?_
  | with_reducible refine w_min ?_
  | with_reducible refine w_un ?_
  | with_reducible refine w_neg ?_
  | (with_reducible refine' w_ixl ?h0 ?h1 ?q; (case h0 => with_unfolding_all rfl); (case h1 => with_unfolding_all rfl))
  | (with_reducible refine' w_ixl ?h ?h2 ?q; (case h => with_unfolding_all rfl); (case' h2 => with_reducible refine atI_ints ?_ ?_))
  | (with_reducible refine' w_ixt ?h0 ?q; (case h0 => with_unfolding_all rfl))
  | with_reducible refine w_mand ?_
  | with_reducible refine w_mor ?_
  | with_reducible refine w_mnot ?_
  | with_reducible refine w_yes ?_
  | with_reducible refine w_eand ?_
  | with_reducible refine w_eor ?_
  | with_reducible refine w_enot ?_
  | with_reducible refine w_eif ?_
  | with_reducible refine w_ch ?_
  | with_reducible refine w_lst ?_
  | with_reducible refine w_tup ?_
  | with_reducible refine w_dict0 ?_
  | with_reducible refine w_cb ?_
  | with_reducible refine w_k1 ?_
  | with_reducible refine w_k2 ?_
  | with_reducible refine w_abs ?_
  | with_reducible refine w_int ?_
  | with_reducible refine w_intb ?_
  | (with_reducible refine' w_lenl ?h0 ?q; (case h0 => with_unfolding_all rfl))
  | with_reducible refine w_lent ?_
  | with_reducible refine w_isT ?_
  | with_reducible refine w_eCall ?_
  | with_reducible refine w_eqb ?_
  | with_reducible refine w_eqs ?_
  | with_reducible refine i_true ?_
  | with_reducible refine i_false ?_
  | with_reducible refine i_not ?_
  | with_reducible refine i_dec (fun _ => ?_) (fun _ => ?_)
  | with_reducible refine f_next ?_
  | with_reducible refine f_val ?_
  | with_reducible refine f_tmp ?_
  | with_reducible refine f_pc ?_
  | (with_reducible refine' f_var ?h0 ?q; (case h0 => with_unfolding_all rfl))
  | (with_reducible refine' i_lt ?h0 ?q; (case h0 => with_unfolding_all rfl))
  | (with_reducible refine' i_lf ?h0 ?q; (case h0 => with_unfolding_all rfl))
  | (with_reducible refine' x_it ?h ?h2 ?q; (case h => with_unfolding_all rfl); (case h2 => (with_reducible refine' setItem_lst ?a ?b ?c; (case a => with_unfolding_all rfl); (case b => with_unfolding_all rfl); (case c => with_unfolding_all rfl))); (case' q => try dsimp only [List.set, FS.setE, C.toD, Int.reduceToNat]))
  | (with_reducible refine' x_frz ?h0 ?h1 ?q; (case h0 => with_unfolding_all rfl); (case h1 => with_unfolding_all rfl); (case' q => try dsimp only [List.set, FS.setE, C.toD]))
  | (with_reducible refine' x_call ?h0 ?h1 ?q; (case h0 => with_unfolding_all rfl); (case h1 => with_unfolding_all rfl); (case' q => try dsimp only [List.set, FS.setE, C.toD]))
  | (with_reducible refine' x_back ?h0 ?q; (case h0 => with_unfolding_all rfl); (case' q => try dsimp only [List.set, FS.setE, C.toD]))
  | (with_reducible refine' x_ty ?h0 ?q; (case h0 => with_unfolding_all rfl))
  | (with_reducible refine' x_frz1 ?h0 ?q; (case h0 => with_unfolding_all rfl); (case' q => try dsimp only [List.set, FS.setE, C.toD]))
  | with_reducible refine x_r1 ⟨?_, ?_⟩ ?_
  | with_reducible refine x_r2 ⟨?_, ?_, ?_, ?_⟩ ?_
  | with_reducible refine w_m ?_
  | (with_reducible refine' x_has ?h0 ?q; (case h0 => with_unfolding_all rfl))
  | (with_reducible refine' w_app ?h ?h1 ?h2 ?h3 ?h4 ?q; (case h => with_unfolding_all rfl); (case h1 => with_unfolding_all rfl); (case h3 => rfl); (case h4 => with_unfolding_all rfl); (case' q => try dsimp only [List.set, FS.setE, C.toD]))
  | with_reducible refine w_isT ?_
  | (with_reducible refine' w_is ?h0 ?q; (case h0 => with_unfolding_all rfl))
  | (with_reducible refine' w_call ?h0 ?q; (case h0 => with_unfolding_all rfl); (case' q => try dsimp only [List.nil_append, List.cons_append, List.length_nil, List.length_cons, Nat.reduceAdd]))
  | (with_reducible refine' w_listOf ?h0 ?q; (case h0 => with_unfolding_all rfl))
  | (with_reducible refine' w_tupOf ?h0 ?q; (case h0 => with_unfolding_all rfl))
  | (with_reducible show @LE.le Int _ _ _; omega)
  | (with_reducible show @LT.lt Int _ _ _; omega)
  | fail)
local macro_rules | `(tactic| wtm_at "vl") => `(tactic| first
  | with_reducible refine pick_w (by assumption) ?_ ?_ (fun _ _ _ _ _ => ?_)
  | with_reducible refine size_w (by assumption) ?_ (fun _ _ _ _ _ _ => ?_)
  | with_reducible refine wide_w (by assumption) ?_ (fun _ _ _ _ _ => ?_)
  | with_reducible refine place_w (by assumption) ?_ (fun _ _ _ _ _ => ?_)
  | with_reducible refine near_w (by assumption) ?_ ?_ ?_ (fun _ _ _ _ _ => ?_)
  | with_reducible refine circle_w (by assumption) ?_ (fun _ _ _ _ _ _ => ?_)
  | with_reducible refine tape_w (by assumption) (fun _ _ => ?_)
  | with_reducible refine far_w ?_ ?_)
local macro_rules | `(tactic| wtm_at "gk") => `(tactic| first | with_unfolding_all assumption | with_unfolding_all rfl | exact g_app | (apply g_set; wtm_at "gk") | (apply g_appL; wtm_at "gk") | (apply g_ne; (first | assumption | omega); wtm_at "gk"))
local macro_rules | `(tactic| wtm_at "vl") => `(tactic| first
  | (with_reducible refine' i_st ?h0 ?q; (case h0 => decide +kernel))
  | (with_reducible refine' i_sf ?h0 ?q; (case h0 => decide +kernel))
  | (with_reducible refine l_next ?_; try dsimp only)
  | (with_reducible refine l_cont ?_; try dsimp only)
  | with_reducible refine l_brk ?_
  | with_reducible refine l_ret ?_
  | with_reducible refine w_fld ?_
  | (with_reducible refine' x_fld ?h0 ?h1 ?h2 ?q; (case h0 => wtm_at "gk"); (case h1 => with_unfolding_all first | exact List.mem_cons_self | exact List.mem_cons_of_mem _ List.mem_cons_self); (case h2 => with_unfolding_all rfl); (case' q => try dsimp only [fldR]))
  | with_reducible refine w_meth ?_
  | (with_reducible refine' x_meth ?h0 ?h1 ?h2 ?q; (case h0 => wtm_at "gk"); (case h1 => with_unfolding_all rfl); (case h2 => with_unfolding_all rfl); (case' q => try dsimp only [List.map_nil, List.map_cons, List.append_nil, List.cons_append, List.nil_append]))
  | (with_reducible refine w_make ?_; try dsimp only [List.map_nil, List.map_cons, List.append_nil, List.cons_append, List.nil_append, List.length_nil, List.length_cons, Nat.reduceAdd])
  | with_reducible refine m_mk ?_
  | with_reducible refine w_eLc ?_
  | with_reducible refine w_eLn ?_
  | with_reducible refine v_fld ?_
  | (with_reducible refine' x_stf ?h0 ?h1 ?h2 ?q; (case h0 => wtm_at "gk"); (case h1 => with_unfolding_all first | exact List.mem_cons_self | exact List.mem_cons_of_mem _ List.mem_cons_self); (case h2 => first | (with_reducible refine' storeF_val ?a ?b; (case a => wtm_at "gk"); (case b => with_unfolding_all rfl)) | (with_reducible refine' storeF_tmp ?a ?b; (case a => wtm_at "gk"); (case b => with_unfolding_all rfl))); (case' q => try dsimp only [List.set]; try simp only [List.set_set]))
  | with_reducible refine w_box ?_
  | (with_reducible refine x_boxed ?_)
  | (with_reducible refine w_callD ?_; try dsimp only [List.map_nil, List.map_cons, List.append_nil, List.cons_append, List.nil_append])
  | (with_reducible refine' w_app ?h ?h1 ?h2 ?h3 ?h4 ?q; (case h => with_unfolding_all rfl); (case h1 => with_unfolding_all rfl); (case h3 => with_unfolding_all rfl); (case h4 => with_unfolding_all rfl); (case h2 => with_unfolding_all exact Nat.le_of_ble_eq_true rfl); (case' q => try dsimp only [List.set, FS.setE, C.toD, List.nil_append, List.cons_append]))
  | (with_reducible refine' w_app ?h ?h1 ?h2 ?h3 ?h4 ?q; (case h => with_unfolding_all rfl); (case h1 => with_unfolding_all rfl); (case h3 => with_unfolding_all rfl); (case h4 => with_unfolding_all rfl); (case' q => try dsimp only [List.set, FS.setE, C.toD, List.nil_append, List.cons_append]))
  | with_reducible refine v_par ?_
  | with_reducible refine v_tupA ?_
  | with_reducible refine w_dm1 ?_
  | with_reducible refine w_dm2 ?_
  | (with_reducible refine' w_ixb ?h0 ?h1 ?q; (case h0 => wtm_at "gk"); (case h1 => with_unfolding_all rfl))
  | (with_reducible refine' w_lenb ?h0 ?q; (case h0 => wtm_at "gk"))
  | (with_reducible refine' x_itb ?h0 ?h1 ?h2 ?q; (case h0 => with_unfolding_all rfl); (case h1 => wtm_at "gk"); (case h2 => with_unfolding_all rfl); (case' q => try dsimp only [List.set, FS.setE, C.toD, Int.reduceToNat]; try simp only [List.set_set]))
  | fail)
local macro_rules | `(tactic| wtm_at "vl") => `(tactic| first
  | with_reducible refine between_w ?_ ?_
  | with_reducible refine lfar_w ?_ ?_
  | with_reducible refine lbetween_w ?_ ?_
  | with_reducible refine places_w (by assumption) ?_ ?_ ?_ ?_ (fun _ _ _ _ _ _ => ?_)
  | fail)
local macro_rules | `(tactic| wtm_at "ck") => `(tactic| first
  | with_unfolding_all rfl
  | (with_unfolding_all refine' cont_ic ?a ?b; (case a => wtm_at "gk"); (case b => with_unfolding_all rfl))
  | (with_unfolding_all refine' cont_box ?a; (case a => wtm_at "gk"))
  | (with_unfolding_all refine' Hold.cont ?a; (case a => with_unfolding_all assumption)))
local macro_rules | `(tactic| wtm_at "pk") => `(tactic| first
  | with_unfolding_all rfl
  | (with_unfolding_all refine' put_ic ?a ?b ?c; (case a => wtm_at "gk"); (case b => with_unfolding_all rfl); (case c => exact fun _ z => nomatch z))
  | (with_unfolding_all refine' put_box ?a ?c; (case a => wtm_at "gk"); (case c => exact fun _ z => nomatch z)))
local macro_rules | `(tactic| wtm_at "vl") => `(tactic| first
  | (with_reducible refine' c_ixd ?h0 ?h1 ?q; (case h0 => wtm_at "ck"); (case' q => try dsimp only [nxF, bfF]))
  | (with_reducible refine' c_ixl ?h0 ?h1 ?q; (case h0 => wtm_at "ck"); (case h1 => first | with_unfolding_all rfl | assumption))
  | (with_reducible refine' c_len ?h0 ?q; (case h0 => wtm_at "ck"))
  | (with_reducible refine' c_lend ?h0 ?q; (case h0 => wtm_at "ck"))
  | (with_reducible refine' c_in ?h0 ?q; (case h0 => wtm_at "ck"))
  | (with_reducible refine' c_sorted ?h0 ?h1 ?q; (case h0 => wtm_at "ck"))
  | (with_reducible refine' c_get1 ?h0 ?q; (case h0 => wtm_at "ck"))
  | (with_reducible refine' c_dictOf ?h0 ?q; (case h0 => wtm_at "ck"))
  | (with_reducible refine' c_listOf ?h0 ?q; (case h0 => wtm_at "ck"))
  | (with_reducible refine' c_tupOf ?h0 ?q; (case h0 => wtm_at "ck"))
  | (with_reducible refine c_dm1 ?_)
  | (with_reducible refine' x_contD ?h0 ?q; (case h0 => wtm_at "ck"))
  | (with_reducible refine' c_app ?h ?h1 ?h2 ?h3 ?h4 ?q; (case h => with_unfolding_all rfl); (case h1 => wtm_at "ck"); (case h3 => with_unfolding_all rfl); (case h4 => wtm_at "pk"); (case' q => try dsimp only [List.set, FS.setE, C.toD, List.nil_append, List.cons_append]; try simp only [List.set_set]))
  | (with_reducible refine' x_hasL ?h0 ?q; (case h0 => wtm_at "ck"))
  | (with_reducible refine' c_setdM ?h0 ?h1 ?h2 ?h3 ?h4 ?q; (case h0 => with_unfolding_all rfl); (case h1 => wtm_at "ck"); (case h4 => wtm_at "pk"); (case' q => try dsimp only [List.set, FS.setE, C.toD, List.nil_append, List.cons_append]; try simp only [List.set_set]))
  | (with_reducible refine' w_varA ?ha ?h0 ?q; (case h0 => with_unfolding_all rfl); (case ha => assumption))
  | fail)
local macro_rules | `(tactic| wtm_at "vl") => `(tactic| first
  | with_reducible refine cplace_w ?_ ?_
  | (with_reducible refine' chouses1_w ?h0 ?h1 ?q; (case h0 => wtm_at "gk"))
  | (with_reducible refine' chouses2_w ?h0 ?h1 ?h2 ?q; (case h0 => wtm_at "gk"))
  | (with_reducible refine' nlose_w ?h ?h0 ?h1 ?h2 ?q; (case h0 => wtm_at "gk"); (case h => assumption); (case h1 => assumption); (case h2 => assumption))
  | (with_reducible refine' nread_w ?h ?h0 ?h1 ?h2 ?q; (case h0 => wtm_at "gk"); (case h => assumption); (case h1 => assumption); (case h2 => assumption))
  | (with_reducible refine' nrepeat_w ?h ?h0 ?h1 ?h2 ?q; (case h0 => wtm_at "gk"); (case h => assumption); (case h1 => assumption); (case h2 => assumption))
  | (with_reducible refine' ntell_w ?h ?h0 ?h1 ?q; (case h0 => wtm_at "gk"); (case h => assumption))
  | (with_reducible refine' nask_w ?h ?h0 ?h1 ?q; (case h0 => wtm_at "gk"); (case h => assumption))
  | (with_reducible refine' nhold_w ?h ?h0 ?h1 ?h2 ?q; (case h0 => wtm_at "gk"); (case h => assumption))
  | (with_reducible refine' nletters_w ?h0 ?q; (case h0 => wtm_at "gk"))
  | fail)
local macro_rules | `(tactic| wtm_at "vl") => `(tactic| first
  | (with_reducible refine lp_next ?_; try dsimp only)
  | (with_reducible refine lp_cont ?_; try dsimp only)
  | with_reducible refine lp_brk ?_
  | with_reducible refine lp_ret ?_
  | (with_reducible refine' c_inY ?h0 ?h1 ?q; (case h0 => wtm_at "ck"); (case h1 => assumption))
  | (with_reducible refine' c_inN ?h0 ?h1 ?q; (case h0 => wtm_at "ck"); (case h1 => assumption))
  | (with_reducible refine' c_ixdE ?h0 ?h1 ?h2 ?q; (case h0 => wtm_at "ck"); (case h1 => assumption); (case h2 => assumption))
  | (with_reducible refine' c_get1E ?h0 ?h1 ?q; (case h0 => wtm_at "ck"); (case h1 => assumption))
  | (with_reducible refine' c_popAt ?h0 ?h1 ?h2 ?h3 ?h4 ?q; (case h0 => wtm_at "ck"); (case h2 => assumption); (case h3 => assumption); (case h4 => wtm_at "pk"); (case' h1 => try assumption); (case' q => try dsimp only [List.set, FS.setE, C.toD]; try simp only [List.set_set]))
  | (with_reducible refine' c_sorted ?h0 ?h1 ?q; (case h0 => wtm_at "ck"); (case h1 => assumption))
  | (with_reducible refine' c_setdM ?h0 ?h1 ?h2 ?h3 ?h4 ?q; (case h0 => with_unfolding_all rfl); (case h1 => wtm_at "ck"); (case h2 => assumption); (case h4 => wtm_at "pk"); (case h3 => first | assumption | omega); (case' q => try dsimp only [List.set, FS.setE, C.toD, List.nil_append, List.cons_append]; try simp only [List.set_set]))
  | (with_reducible refine' c_setdN ?h0 ?h1 ?h2 ?h3 ?h4 ?q; (case h0 => with_unfolding_all rfl); (case h1 => wtm_at "ck"); (case h2 => assumption); (case h4 => wtm_at "pk"); (case h3 => first | assumption | omega); (case' q => try dsimp only [List.set, FS.setE, C.toD, List.nil_append, List.cons_append]; try simp only [List.set_set]))
  | (with_reducible refine' c_ixdL ?h0 ?h1 ?q; (case h0 => wtm_at "ck"); (case h1 => first | assumption | skip); (case' q => try dsimp only [nxF, bfF]))
  | (with_reducible refine' w_sortI ?h0 ?q; (case h0 => with_unfolding_all rfl))
  | (with_reducible refine same_vv ?_ ?_ ?_)
  | (with_reducible refine' same_01 ?h0 ?h1 ?h2 ?q; (case h0 => with_unfolding_all rfl))
  | (with_reducible refine' same_v0 ?h0 ?h2 ?q; (case h0 => with_unfolding_all rfl))
  | (with_reducible refine' same_0v ?h0 ?h2 ?q; (case h0 => with_unfolding_all rfl))
  | (with_reducible refine' w_eqL ?h0 ?h1 ?h2 ?h3 ?q; (case h0 => with_unfolding_all rfl); (case h1 => with_unfolding_all rfl); (case h2 => with_unfolding_all (intro _ z; cases z)); (case h3 => with_unfolding_all (intro _ z; cases z)))
  | fail)
local macro_rules | `(tactic| wtm_at "vl") => `(tactic| first
  | (with_reducible refine' c_lenM ?h0 ?q; (case h0 => wtm_at "ck"))
  | fail)
local macro_rules | `(tactic| wtm_at "gk") => `(tactic| first | with_reducible assumption | with_unfolding_all rfl | exact g_app | (with_reducible apply g_set; wtm_at "gk") | (with_reducible apply g_appL; wtm_at "gk") | (with_reducible apply g_ne; (first | assumption | omega); wtm_at "gk"))
local macro_rules | `(tactic| wtm_at "ck") => `(tactic| first
  | with_unfolding_all rfl
  | (with_reducible refine' cont_ic ?a ?b; (case a => wtm_at "gk"); (case b => with_unfolding_all rfl))
  | (with_reducible refine' cont_box ?a; (case a => wtm_at "gk"))
  | (with_reducible refine' Hold.cont ?a; (case a => with_reducible assumption)))
local macro_rules | `(tactic| wtm_at "vl") => `(tactic| first
  | (with_reducible refine' c_slHi ?h0 ?h1 ?q; (case h0 => wtm_at "ck"); (case h1 => first | assumption | omega))
  | (with_reducible refine' c_slLo ?h0 ?h1 ?q; (case h0 => wtm_at "ck"); (case h1 => first | assumption | omega))
  | fail)
local macro_rules | `(tactic| wtm_at "vl") => `(tactic| first
  | (with_reducible refine' nnexts_w ?h ?h0 ?q; (case h0 => wtm_at "gk"); (case h => assumption))
  | (with_reducible refine' nbefores_w ?h ?h0 ?q; (case h0 => wtm_at "gk"); (case h => assumption))
  | (with_reducible refine' nclone_w ?h ?h0 ?q; (case h0 => wtm_at "gk"); (case h => assumption))
  | (with_reducible refine' sayings_w ?h ?h0 ?q; (case h0 => wtm_at "gk"); (case h => assumption))
  | (with_reducible refine' nsnap_w ?h ?h0 ?q; (case h0 => wtm_at "gk"); (case h => assumption))
  | (with_reducible refine' nadmit_w ?h ?h0 ?h1 ?h2 ?h3 ?q; (case h0 => wtm_at "gk"); (case h => assumption); (case h2 => assumption); (case' h1 => try assumption); (case' h3 => try assumption))
  | (with_reducible refine' nsetb_w ?h ?h0 ?h1 ?h2 ?q; (case h0 => wtm_at "gk"); (case h => assumption); (case' h1 => try assumption); (case' h2 => try assumption))
  | (with_reducible refine' nsetbN_w ?h ?h0 ?h1 ?q; (case h0 => wtm_at "gk"); (case h => assumption); (case' h1 => try assumption))
  | (with_reducible refine' nhold_w ?h ?h0 ?h1 ?h2 ?q; (case h0 => wtm_at "gk"); (case h => assumption); (case' h1 => try assumption); (case' h2 => try assumption))
  | (with_reducible refine' ntell_w ?h ?h0 ?h1 ?q; (case h0 => wtm_at "gk"); (case h => assumption); (case' h1 => try assumption))
  | (with_reducible refine' nask_w ?h ?h0 ?h1 ?q; (case h0 => wtm_at "gk"); (case h => assumption); (case' h1 => try assumption))
  | with_reducible refine i_decX (fun _ => ?_) (fun _ => ?_)
  | with_reducible refine i_decF (fun _ => ?_) (fun _ => ?_)
  | (with_reducible refine' c_setdM ?h0 ?h1 ?h2 ?h3 ?h4 ?q; (case h0 => with_unfolding_all rfl); (case h1 => wtm_at "ck"); (case h2 => assumption); (case h4 => wtm_at "pk"); (case h3 => first | assumption | omega); (case' q => try dsimp only [List.set, FS.setE, C.toD, List.nil_append, List.cons_append]; try simp only [List.set_set]))
  | (with_reducible refine' c_setdN ?h0 ?h1 ?h2 ?h3 ?h4 ?q; (case h0 => with_unfolding_all rfl); (case h1 => wtm_at "ck"); (case h2 => assumption); (case h4 => wtm_at "pk"); (case h3 => first | assumption | omega); (case' q => try dsimp only [List.set, FS.setE, C.toD, List.nil_append, List.cons_append]; try simp only [List.set_set]))
  | (with_reducible refine' c_setd ?h0 ?h1 ?h2 ?h3 ?q; (case h0 => with_unfolding_all rfl); (case h1 => wtm_at "ck"); (case h3 => wtm_at "pk"); (case h2 => first | assumption | omega); (case' q => try dsimp only [List.set, FS.setE, C.toD, List.nil_append, List.cons_append]; try simp only [List.set_set]))
  | (with_reducible refine' lread_e ?h ?b ?h0 ?h1 ?q; (case h => assumption); (case b => assumption); (case h0 => assumption); (case h1 => assumption))
  | (with_reducible refine' lsays_e ?h ?b ?q; (case h => assumption); (case b => assumption))
  | (with_reducible refine' lsnap_e ?h ?b ?q; (case h => assumption); (case b => assumption))
  | (with_reducible refine' lstands_e ?h ?b ?h0 ?q; (case h => assumption); (case b => assumption); (case h0 => wtm_at "gk"))
  | fail)
local macro_rules | `(tactic| wtm_at "vl") => `(tactic| first
  | with_reducible refine v_seq ?_
  | with_reducible refine v_k_next ?_
  | with_reducible refine v_set ?_
  | (with_reducible refine v_sl_val ?_; try dsimp only [List.set, FS.setE, C.toD])
  | (with_reducible refine v_sl_tmp ?h ?q; (case h => with_unfolding_all exact Nat.le_of_ble_eq_true rfl); (case' q => try dsimp only [List.set, FS.setE, C.toD]))
  | (with_reducible refine' w_var_val ?h0 ?q; (case h0 => with_unfolding_all rfl))
  | with_reducible refine w_cons ?_
  | with_reducible refine w_nil ?_
  | with_reducible refine w_bin ?_
  | with_reducible refine w_d ?_
  | with_reducible refine w_T ?_
  | with_reducible refine w_asB ?_
  | with_reducible refine v_if ?_
  | (with_reducible refine' w_var_own ?h0 ?q; (case h0 => with_unfolding_all rfl))
  | (with_reducible refine' w_var_pc ?h0 ?q; (case h0 => with_unfolding_all rfl))
  | with_reducible refine w_eCall ?_
  | (with_reducible refine' w_call ?h0 ?q; (case h0 => with_unfolding_all rfl); (case' q => try dsimp only [List.nil_append, List.cons_append, List.length_nil, List.length_cons, Nat.reduceAdd]))
  | with_reducible refine w_cb ?_
  | with_reducible refine w_k1 ?_
  | with_reducible refine i_dec (fun _ => ?_) (fun _ => ?_)
  | with_reducible refine w_eqi ?_
  | with_reducible refine w_lt ?_
  | with_reducible refine w_gt ?_
  | with_reducible refine w_ge ?_
  | with_reducible refine w_le ?_
  | with_reducible refine w_add ?_
  | with_reducible refine w_sub ?_
  | with_reducible refine w_mand ?_
  | with_reducible refine w_mor ?_
  | with_reducible refine w_mnot ?_
  | with_reducible refine i_not ?_
  | with_reducible refine v_it ?_
  | with_reducible refine w_fld ?_
  | with_reducible refine w_eqs ?_
  | with_reducible refine w_un ?_
  | with_reducible refine w_tup ?_
  | (with_reducible refine' x_frz ?h0 ?h1 ?q; (case h0 => with_unfolding_all rfl); (case h1 => with_unfolding_all rfl); (case' q => try dsimp only [List.set, FS.setE, C.toD]))
  | with_reducible refine i_true ?_
  | with_reducible refine i_false ?_
  | with_reducible refine w_m ?_
  | with_reducible refine v_e ?_
  | (with_reducible refine' w_is ?h0 ?q; (case h0 => with_unfolding_all rfl))
  | (with_reducible refine' w_ixt ?h0 ?q; (case h0 => with_unfolding_all rfl))
  | with_reducible refine w_meth ?_
  | with_reducible refine v_ret ?_
  | with_reducible refine f_val ?_
  | with_reducible refine f_tmp ?_
  | with_reducible refine v_nil ?_
  | (with_reducible refine lp_next ?_; try dsimp only)
  | with_reducible refine v_k_ret ?_
  | (with_reducible refine v_sl_pc ?_; try dsimp only [List.set, FS.setE, C.toD])
  | with_reducible refine w_isT ?_
  | with_reducible refine w_isT ?_
  | (with_reducible refine' w_listOf ?h0 ?q; (case h0 => with_unfolding_all rfl))
  | (with_reducible refine' x_call ?h0 ?h1 ?q; (case h0 => with_unfolding_all rfl); (case h1 => with_unfolding_all rfl); (case' q => try dsimp only [List.set, FS.setE, C.toD]))
  | fail)
theorem nnextof_w {N : Nt} {a : Int} {k : Nat} {cs : List C} {g : List Inst} {Q X} (ok : NtOk N) (hg : g[k]? = some (netI N)) (ha : a ∈ N.ks) (q : Q (.val (.int (N.nx a))) cs g) : wpD (d_Net_next_of [.val (.ins k), .val (.int a)] cs g) Q X := by
  unfold d_Net_next_of
  with_reducible refine v_den ?ha ?_
  case ha => rfl
  unfold b_Net_next_of
  simp only [List.map_cons, List.map_nil, List.replicate, argS, List.cons_append, List.nil_append]
  repeat' wtm_at "vl"
  all_goals first
    | exact ha
    | exact q
    | trace_state
theorem holdstrue_w {N : Nt} {a b d : Int} {k : Nat} {cs : List C} {g : List Inst} {Q X} (ok : NtOk N) (hg : g[k]? = some (netI N)) (ha : a ∈ N.ks)
    (q : ∀ r : Bool, (r = true ↔ Tr N.n N.nx (a, b, d)) → Q (.val (.bl r)) cs g) : wpD (d_holds_true [.val (.ins k), .val (sayD (a, b, d))] cs g) Q X := by
  unfold d_holds_true
  with_reducible refine v_den ?ha ?_
  case ha => rfl
  unfold b_holds_true
  simp only [List.map_cons, List.map_nil, List.replicate, argS, List.cons_append, List.nil_append]
  have hx : ∀ x ∈ sortI N.ks, N.nx x ∈ sortI N.ks := fun x hx => sortI_mem.mpr (ok.nx x (sortI_mem.mp hx))
  have ha2 : a ∈ sortI N.ks := sortI_mem.mpr ha
  have hpos := ok.pos
  repeat' first
    | with_reducible refine istrue_w hpos hx ha2 (fun r hr => ?_)
    | wtm_at "vl"
  exact q _ hr
def prD (p : Int × Int) : D := .tup [.int p.1, .int p.2]
theorem strangers_w {N : Nt} {l : List (Int × Int)} {k : Nat} {g : List Inst} {Q X} (ok : NtOk N) (hg : g[k]? = some (netI N)) (hl : ∀ p ∈ l, p.1 ∈ N.ks ∧ p.2 ∈ N.ks)
    (q : Q (.val .non) [.lst (l.map prD)] g) : wpD (d_refuse_strangers [.val (.ins k), .pc 0] [.lst (l.map prD)] g) Q X := by
  unfold d_refuse_strangers
  with_reducible refine v_den ?ha ?_
  case ha => rfl
  unfold b_refuse_strangers
  simp only [List.map_cons, List.map_nil, List.replicate, argS, List.cons_append, List.nil_append]
  repeat' first
    | with_reducible refine v_stopFor1 ?_
    | wtm_at "vl"
  refine v_goS ?_
  with_reducible refine v_forP prD ?_
  repeat' wtm_at "vl"
  refine ⟨l, ⟨trivial, rfl⟩, fun dn s => ∃ z1 z2 : S, s = ⟨[.val (.ins k), .pc 0, .own (.dct (fT (sortI N.ks) (nxF N.nx))), z1, z2], [.lst (l.map prD)], g⟩, ⟨_, _, rfl⟩, ?_, ?_, ?_⟩
  · intro dn s ⟨z1, z2, e⟩
    subst e; rfl
  · intro dn p td hd s ⟨z1, z2, e⟩
    subst e
    refine ⟨_, rfl, ?_⟩
    dsimp only [FS.setE, List.set]
    have hp := hl p (by rw [hd]; simp)
    with_reducible refine v_forL D.int ?_
    repeat' wtm_at "vl"
    refine ⟨[p.1, p.2], .inr (.inl rfl), fun dn s => ∃ z1 z2 : S, s = ⟨[.val (.ins k), .pc 0, .own (.dct (fT (sortI N.ks) (nxF N.nx))), z1, z2], [.lst (l.map prD)], g⟩, ⟨_, _, rfl⟩, ?_, ?_⟩
    · intro dn2 x td2 hd2 s ⟨z1, z2, e⟩
      subst e
      refine ⟨_, rfl, ?_⟩
      dsimp only [FS.setE, List.set]
      have hx : x ∈ sortI N.ks := sortI_mem.mpr (by
        have : x ∈ [p.1, p.2] := by rw [hd2]; simp
        simp at this
        rcases this with rfl | rfl
        · exact hp.1
        · exact hp.2)
      repeat' wtm_at "vl"
      exact ⟨_, _, rfl⟩
    · intro s ⟨z1, z2, e⟩
      exact ⟨_, _, e⟩
  · intro s ⟨z1, z2, e⟩
    subst e
    repeat' wtm_at "vl"
    exact q
theorem faith_w {N : Nt} {a m : Int} {k : Nat} {cs : List C} {g : List Inst} {Q X} (ok : NtOk N) (hg : g[k]? = some (netI N)) (ha : a ∈ N.ks) (hm : m ∈ N.ks)
    (q : ∀ r : Bool, (r = true ↔ farI N.n a m < farI N.n a (N.nx a) ∧ Tr N.n N.nx (m, N.nx a, farI N.n m (N.nx a))) → Q (.val (.bl r)) cs g) : wpD (d_is_faithful [.val (.ins k), .val (.int a), .val (.int m)] cs g) Q X := by
  unfold d_is_faithful
  with_reducible refine v_den ?ha ?_
  case ha => rfl
  unfold b_is_faithful
  simp only [List.map_cons, List.map_nil, List.replicate, argS, List.cons_append, List.nil_append]
  have hpos := ok.pos
  have hst : ∀ p ∈ [(a, m)], p.1 ∈ N.ks ∧ p.2 ∈ N.ks := fun p hp => by rw [List.mem_singleton] at hp; subst hp; exact ⟨ha, hm⟩
  have ex : ∀ {Q X}, Q (R.val D.non) [C.lst [.tup [.int a, .int m]]] g → wpD (d_refuse_strangers [.val (.ins k), .pc 0] [.lst [.tup [.int a, .int m]]] g) Q X := fun {Q X} q => strangers_w (l := [(a, m)]) ok hg hst q
  repeat' first
    | with_reducible refine ex ?_
    | with_reducible refine nnextof_w ok (by wtm_at "gk") ha ?_
    | with_reducible refine v_stopRet ?_
    | wtm_at "vl"
  · refine v_goS ?_
    have hb : farI N.n a m < farI N.n a (N.nx a) := by assumption
    have ht : ∀ {cs : List C} {Q X}, (∀ r : Bool, (r = true ↔ Tr N.n N.nx (m, N.nx a, farI N.n m (N.nx a))) → Q (.val (.bl r)) cs g) → wpD (d_holds_true [.val (.ins k), .val (.tup [.int m, .int (N.nx a), .int (farI N.n m (N.nx a))])] cs g) Q X := fun {cs Q X} q => holdstrue_w ok hg hm q
    repeat' first
      | with_reducible refine ht (fun r hr => ?_)
      | wtm_at "vl"
    all_goals first
      | exact hpos
      | exact q r ⟨fun z => ⟨hb, hr.mp z⟩, fun z => hr.mpr z.2⟩
      | trace_state
  · refine v_goS ?_
    repeat' wtm_at "vl"
    exact q false ⟨(fun z => nomatch z), fun z => absurd z.1 (by assumption)⟩
end VL
set_option maxRecDepth 100000
set_option maxHeartbeats 4000000
namespace VL
open PySem PySem.Spec L2
open PyProof.Rows hiding St
section
variable {n : Int} {nx : Int → Int} {ks : List Int}
/-- a faithful change of the next of a to m -/
def Fa (n : Int) (nx : Int → Int) (a m : Int) : Prop := farI n a m < farI n a (nx a) ∧ Tr n nx (m, nx a, farI n m (nx a))
theorem kept_iff {a m : Int} (hn : 0 < n) (ha : a ∈ ks) (hb : farI n a m < farI n a (nx a)) :
    (∀ h ∈ ks, ∀ k, k < 2 * ks.length → Tr n (upd1 nx a m) (h, it nx (k + 1) h, ln n nx (k + 1) h)) ↔ Tr n nx (m, nx a, farI n m (nx a)) := by
  constructor
  · intro h
    have hp := List.length_pos_of_mem ha
    have h0 := h a ha 0 (by omega)
    have e : ln n nx (0 + 1) a = farI n a (nx a) := by show farI n a (nx a) + 0 = _; rw [Int.add_zero]
    rw [e] at h0
    exact tr_back hn hb h0
  · intro ht h _ k _
    exact tr_stays hn hb ht ⟨k + 1, rfl, rfl⟩
theorem tr_held {a m : Int} (hn : 0 < n) (hb : farI n a m < farI n a (nx a)) : Tr n (upd1 nx a m) (a, nx a, farI n a (nx a)) ↔ Tr n nx (m, nx a, farI n m (nx a)) := by
  constructor
  · exact tr_back hn hb
  · intro ht
    refine tr_stays hn hb ht ⟨1, rfl, ?_⟩
    show farI n a (nx a) + 0 = _
    rw [Int.add_zero]
/-- each house is the next of one: no faithful change -/
theorem fa_none {a m : Int} (hn : 0 < n) (hx : ∀ x ∈ ks, nx x ∈ ks) (inj : ∀ x ∈ ks, ∀ y ∈ ks, nx x = nx y → x = y) (ha : a ∈ ks) (hm : m ∈ ks) : ¬ Fa n nx a m := by
  intro ⟨hb, k, h1, h2⟩
  dsimp only at h1 h2
  cases k with
  | zero =>
    have := (farI_pos (s := m) (e := nx a) hn).1
    have h2' : (0 : Int) = farI n m (nx a) := h2
    omega
  | succ k =>
    rw [it_succ] at h1
    exact way_avoids hn hb h2 (Nat.lt_succ_self k) (inj _ (it_mem hx k hm) a ha h1)
theorem farI_ne {x y s : Int} (hn : 0 < n) (hx : 0 ≤ x ∧ x < n) (hy : 0 ≤ y ∧ y < n) (h : farI n x s = farI n y s) : x = y := by
  have h1 := farI_mod (n := n) x s
  have h2 := farI_mod (n := n) y s
  rw [h, h2] at h1
  have h3 := Int.emod_eq_emod_iff_emod_sub_eq_zero.mp h1
  rw [show s - y - (s - x) = x - y by omega] at h3
  exact mod_inj hx hy h3
/-- two houses with one next: one of them can change to the other -/
theorem fa_some (hn : 0 < n) (hr : ∀ x ∈ ks, 0 ≤ x ∧ x < n) {x y : Int} (hx : x ∈ ks) (hy : y ∈ ks) (hne : x ≠ y) (he : nx x = nx y) : Fa n nx x y ∨ Fa n nx y x := by
  have one : ∀ {a b : Int}, nx a = nx b → farI n b (nx b) < farI n a (nx a) → Fa n nx a b := fun {a b} he hlt => by
    rw [← he] at hlt
    have hb := farI_pos (s := b) (e := nx a) hn
    have ha := farI_pos (s := a) (e := nx a) hn
    have e : farI n a b = farI n a (nx a) - farI n b (nx a) := by
      refine farI_uniq hn ?_ ⟨by omega, by omega⟩
      rw [Int.sub_emod, farI_mod, farI_mod, ← Int.sub_emod]
      congr 1; omega
    refine ⟨by omega, 1, ?_, ?_⟩
    · show nx b = nx a
      exact he.symm
    · show farI n b (nx b) + 0 = farI n b (nx a)
      rw [he, Int.add_zero]
  rcases Int.lt_trichotomy (farI n x (nx x)) (farI n y (nx y)) with h | h | h
  · exact .inr (one he.symm h)
  · rw [he] at h
    exact absurd (farI_ne hn (hr x hx) (hr y hy) h) hne
  · exact .inl (one he h)
theorem held_perm (hd : ks.Nodup) (hx : ∀ x ∈ ks, nx x ∈ ks) : sortI (ks.map nx) = sortI ks ↔ ∀ x ∈ ks, ∀ y ∈ ks, nx x = nx y → x = y := by
  constructor
  · intro h
    have hp : (ks.map nx).Perm ks := (sortI_perm _).symm.trans (h ▸ sortI_perm ks)
    have hnd : (ks.map nx).Nodup := hp.nodup_iff.mpr hd
    intro x hx1 y hy1 e
    by_cases hxy : x = y
    · exact hxy
    · exfalso
      rw [List.Nodup, List.pairwise_map] at hnd
      have key : ∀ {l : List Int}, l.Pairwise (fun a b => nx a ≠ nx b) → ∀ x ∈ l, ∀ y ∈ l, x ≠ y → nx x ≠ nx y := fun {l} => by
        induction l with
        | nil => intro _ x hx; cases hx
        | cons a l ih =>
          intro h x hx y hy hne
          obtain ⟨h1, h2⟩ := List.pairwise_cons.mp h
          rcases List.mem_cons.mp hx with e1 | hx1
          · rcases List.mem_cons.mp hy with e2 | hy1
            · exact absurd (e1.trans e2.symm) hne
            · rw [e1]; exact h1 y hy1
          · rcases List.mem_cons.mp hy with e2 | hy1
            · rw [e2]; exact fun z => h1 x hx1 z.symm
            · exact ih h2 x hx1 y hy1 hne
      exact key hnd x hx1 y hy1 hxy e
  · intro inj
    have hnd : (ks.map nx).Nodup := by
      rw [List.Nodup, List.pairwise_map]
      exact List.Pairwise.imp_of_mem (fun {a b} ha hb hab e => hab (inj a ha b hb e)) hd
    have hsub : ∀ y ∈ ks.map nx, y ∈ ks := fun y hy => by
      obtain ⟨x, h1, rfl⟩ := List.mem_map.mp hy
      exact hx x h1
    have hp : (ks.map nx).Perm ks := by
      refine (List.perm_ext_iff_of_nodup hnd hd).mpr fun y => ⟨hsub y, fun hy => ?_⟩
      by_cases hc : y ∈ ks.map nx
      · exact hc
      · exfalso
        have := nodup_leM hnd (b := ks.erase y) fun z hz => (List.mem_erase_of_ne (fun e => hc (by rw [← e]; exact hz))).mpr (hsub z hz)
        rw [List.length_map, List.length_erase_of_mem hy] at this
        have := List.length_pos_of_mem hy
        omega
    exact (sortI_uniq ((sortI_perm _).trans hp) (sortI_sorted _))
/-- nothing is left to change just where each house is held once -/
theorem fa_iff (hn : 0 < n) (hd : ks.Nodup) (hr : ∀ x ∈ ks, 0 ≤ x ∧ x < n) (hx : ∀ x ∈ ks, nx x ∈ ks) : sortI (ks.map nx) = sortI ks ↔ ∀ a ∈ ks, ∀ m ∈ ks, ¬ Fa n nx a m := by
  rw [held_perm hd hx]
  constructor
  · exact fun inj a ha m hm => fa_none hn hx inj ha hm
  · intro h x hx1 y hy1 e
    by_cases hne : x = y
    · exact hne
    · rcases fa_some hn hr hx1 hy1 hne e with f | f
      · exact absurd f (h x hx1 y hy1)
      · exact absurd f (h y hy1 x hx1)
end
end VL
namespace Lk59
open PySem PySem.Spec L2 VL
open PyProof.Rows hiding St
section
variable {P : Program} {w : World} {K : PySem.W.Frag} {mg : Str → Option Value} {base : Heap}
abbrev st__law_tape : Stmt := PySem.Challenge.pw_ringlaps_k59_whole_faithful_exactly.main.body.getD 25 (.Pass ⟨0, 0, 0, 0⟩)
theorem sc__law_tape : FnScope ["script", "cells", "cell"] ["script"] (defScope st__law_tape) := ⟨rfl, rfl, rfl, by decide +kernel, rfl, by decide +kernel, by decide +kernel⟩
theorem ok__law_tape (T : Tp fa fn K mg) : ∃ fd, Okk P w K mg base 1 "_law_tape" ["script"] d__law_tape fd := by
  obtain ⟨fd, (F : FunD K "_law_tape" "_law_tape" (defArgs st__law_tape) (defBody st__law_tape) (defScope st__law_tape) [] [] (He.ga K "_law_tape") fd)⟩ := T.c.def_ 0 rfl
  refine ⟨fd, ⟨fn_rule (b := b__law_tape) (n := 1) (l := 2) F sc__law_tape rfl rfl (fun cdv A outer s H E hr tk hp => ?_), F.bindsN (ps := ["script"]) (fun _ _ _ _ _ _ us hl => match us, hl with | [_], _ => rfl), T.glo "_law_tape" 17, F.kp, fun s us hl => F.bindsA (fun _ _ _ _ _ _ us hl => match us, hl with | [_], _ => rfl) s us hl, fun_at F⟩⟩
  exact (ss_cons (ss_setLc (i := 1) rfl sc__law_tape.nd rfl rfl (sw_true (by rfl) (by rfl) (by rfl) (by rfl)) (pi_any (se_var 0)) src_any (blkOk_by (own := [("cell", 2)]) (by show blkC ["script", "cells", "cell"] (defScope st__law_tape) _ _ = true; decide +kernel)) (fun _ _ _ _ _ => pg_name (i := 2) sc__law_tape.nd rfl (by first | exact Or.inl rfl | exact Or.inr rfl)) (tgc_name (i := 2) (by decide)) (fun _ _ _ _ _ => sts_nil) (fun _ _ _ _ _ => (se_callB call_abs n_abs (by rfl) (T.free "abs" 1) (by decide +kernel) (sa_cons (se_callTy call_int1 n_int (by rfl) (T.free "int" 0) (by decide +kernel) (sa_cons (se_var 2) sa_nil)) sa_nil))))
  (ss_cons (ss_if (st_cmp (op_eq3 hr.units) o2_eq (se_callB call_len4 n_len (by rfl) (T.free "len" 2) (by decide +kernel) (sa_cons (se_var 1) sa_nil)) se_int (nomark _))
  (ss_one (ss_set (i := 1) sc__law_tape.nd rfl (by first | exact Or.inl rfl | exact Or.inr rfl) (se_lst (sa_cons se_int sa_nil))))
  ss_nil)
  (ss_one (ss_ret (se_lst (sa_cons (se_var 1) (sa_cons se_int (sa_cons (se_ix ix_any o2_ix (se_var 1) se_int (fun _ _ => rfl)) (sa_cons se_int (sa_cons se_int sa_nil))))))))))
abbrev st__law_pick : Stmt := PySem.Challenge.pw_ringlaps_k59_whole_faithful_exactly.main.body.getD 26 (.Pass ⟨0, 0, 0, 0⟩)
theorem sc__law_pick : FnScope ["tape", "size", "cells", "cell", "k", "number", "used", "mixed"] ["tape", "size"] (defScope st__law_pick) := ⟨rfl, rfl, rfl, by decide +kernel, rfl, by decide +kernel, by decide +kernel⟩
theorem ok__law_pick (T : Tp fa fn K mg) : ∃ fd, Okk P w K mg base 1 "_law_pick" ["tape", "size"] d__law_pick fd := by
  obtain ⟨fd, (F : FunD K "_law_pick" "_law_pick" (defArgs st__law_pick) (defBody st__law_pick) (defScope st__law_pick) [] [] (He.ga K "_law_pick") fd)⟩ := T.c.def_ 1 rfl
  refine ⟨fd, ⟨fn_rule (b := b__law_pick) (n := 2) (l := 6) F sc__law_pick rfl rfl (fun cdv A outer s H E hr tk hp => ?_), F.bindsN (ps := ["tape", "size"]) (fun _ _ _ _ _ _ us hl => match us, hl with | [_, _], _ => rfl), T.glo "_law_pick" 18, F.kp, fun s us hl => F.bindsA (fun _ _ _ _ _ _ us hl => match us, hl with | [_, _], _ => rfl) s us hl, fun_at F⟩⟩
  exact (ss_cons (ss_set (i := 2) sc__law_pick.nd rfl (by first | exact Or.inl rfl | exact Or.inr rfl) (se_ix ix_any o2_ix (se_var 0) se_int (fun _ _ => rfl)))
  (ss_cons (ss_set (i := 3) sc__law_pick.nd rfl (by first | exact Or.inl rfl | exact Or.inr rfl) (se_ix ix_any o2_ix (se_var 2) (se_ix ix_any o2_ix (se_var 0) se_int (fun _ _ => rfl)) (fun _ _ => rfl)))
  (ss_cons (ss_set (i := 4) sc__law_pick.nd rfl (by first | exact Or.inl rfl | exact Or.inr rfl) (se_bin op_add3 o2_add (se_ix ix_any o2_ix (se_var 0) se_int (fun _ _ => rfl)) (se_bin op_mul2 o2_mul se_int (se_ix ix_any o2_ix (se_var 0) se_int (fun _ _ => rfl)))))
  (ss_cons (ss_if (PW.pt (sw_and (st_cmp op_ge o2_ge (se_var 3) (se_bin op_pow o2_pow se_int se_int) (nomark _)) (sw_and1 (st_cmp (op_eq3 hr.units) o2_eq (se_ix ix_any o2_ix (se_var 0) se_int (fun _ _ => rfl)) se_int (nomark _)))))
  (ss_cons (ss_set (i := 5) sc__law_pick.nd rfl (by first | exact Or.inl rfl | exact Or.inr rfl) (se_bin op_mod o2_mod (se_callTy call_int1 n_int (by rfl) (T.free "int" 0) (by decide +kernel) (sa_cons (se_ix ix_any o2_ix (se_var 0) se_int (fun _ _ => rfl)) sa_nil)) (se_var 1)))
  (ss_cons (ss_setitem (hu_of hr) (se_var 0) se_int (se_bin op_fdiv o2_div (se_ix ix_any o2_ix (se_var 0) se_int (fun _ _ => rfl)) (se_var 1)))
  (ss_one (ss_set (i := 6) sc__law_pick.nd rfl (by first | exact Or.inl rfl | exact Or.inr rfl) (se_cmp (op_eq3 hr.units) o2_eq (se_ix ix_any o2_ix (se_var 0) se_int (fun _ _ => rfl)) se_int (nomark _))))))
  (ss_cons (ss_set (i := 7) sc__law_pick.nd rfl (by first | exact Or.inl rfl | exact Or.inr rfl) (se_bin op_mod o2_mod (se_callTy call_int1 n_int (by rfl) (T.free "int" 0) (by decide +kernel) (sa_cons (se_bin op_add3 o2_add (se_bin op_add3 o2_add (se_var 3) (se_bin op_mul2 o2_mul se_int (se_var 4))) se_int) sa_nil)) se_int))
  (ss_cons (ss_set (i := 7) sc__law_pick.nd rfl (by first | exact Or.inl rfl | exact Or.inr rfl) (se_bin op_mod o2_mod (se_callTy call_int1 n_int (by rfl) (T.free "int" 0) (by decide +kernel) (sa_cons (se_bin op_mul2 o2_mul (se_var 7) (se_bin op_add3 o2_add (se_var 7) se_int)) sa_nil)) se_int))
  (ss_cons (ss_set (i := 7) sc__law_pick.nd rfl (by first | exact Or.inl rfl | exact Or.inr rfl) (se_bin op_mod o2_mod (se_callTy call_int1 n_int (by rfl) (T.free "int" 0) (by decide +kernel) (sa_cons (se_bin op_add3 o2_add (se_bin op_mul2 o2_mul (se_var 7) (se_bin op_add3 o2_add (se_var 7) se_int)) (se_bin op_mul2 o2_mul se_int (se_var 4))) sa_nil)) se_int))
  (ss_cons (ss_set (i := 5) sc__law_pick.nd rfl (by first | exact Or.inl rfl | exact Or.inr rfl) (se_bin op_mod o2_mod (se_callTy call_int1 n_int (by rfl) (T.free "int" 0) (by decide +kernel) (sa_cons (se_bin op_fdiv o2_div (se_var 7) se_int) sa_nil)) (se_var 1)))
  (ss_one (ss_set (i := 6) sc__law_pick.nd rfl (by first | exact Or.inl rfl | exact Or.inr rfl) (se_cmp (op_eq3 hr.units) o2_eq (se_bin op_mod o2_mod (se_callTy call_int1 n_int (by rfl) (T.free "int" 0) (by decide +kernel) (sa_cons (se_var 4) sa_nil)) se_int) se_int (nomark _)))))))))
  (ss_cons (ss_setitem (hu_of hr) (se_var 0) se_int (se_bin op_add3 o2_add (se_ix ix_any o2_ix (se_var 0) se_int (fun _ _ => rfl)) se_int))
  (ss_cons (ss_if (st_val (se_var 6))
  (ss_cons (ss_setitem (hu_of hr) (se_var 0) se_int se_int)
  (ss_cons (ss_setitem (hu_of hr) (se_var 0) se_int (se_bin op_add3 o2_add (se_ix ix_any o2_ix (se_var 0) se_int (fun _ _ => rfl)) se_int))
  (ss_cons (ss_if (st_cmp (op_eq3 hr.units) o2_eq (se_ix ix_any o2_ix (se_var 0) se_int (fun _ _ => rfl)) (se_callB call_len4 n_len (by rfl) (T.free "len" 2) (by decide +kernel) (sa_cons (se_var 2) sa_nil)) (nomark _))
  (ss_cons (ss_setitem (hu_of hr) (se_var 0) se_int se_int)
  (ss_one (ss_setitem (hu_of hr) (se_var 0) se_int (se_bin op_add3 o2_add (se_ix ix_any o2_ix (se_var 0) se_int (fun _ _ => rfl)) se_int))))
  ss_nil)
  (ss_one (ss_setitem (hu_of hr) (se_var 0) se_int (se_ix ix_any o2_ix (se_var 2) (se_ix ix_any o2_ix (se_var 0) se_int (fun _ _ => rfl)) (fun _ _ => rfl)))))))
  ss_nil)
  (ss_one (ss_ret (se_var 5)))))))))
abbrev st__law_size : Stmt := PySem.Challenge.pw_ringlaps_k59_whole_faithful_exactly.main.body.getD 27 (.Pass ⟨0, 0, 0, 0⟩)
theorem sc__law_size : FnScope ["tape", "count", "kind", "least"] ["tape", "count"] (defScope st__law_size) := ⟨rfl, rfl, rfl, by decide +kernel, rfl, by decide +kernel, by decide +kernel⟩
theorem ok__law_size (T : Tp fa fn K mg) : ∃ fd, Okk P w K mg base 2 "_law_size" ["tape", "count"] d__law_size fd := by
  obtain ⟨fd, (F : FunD K "_law_size" "_law_size" (defArgs st__law_size) (defBody st__law_size) (defScope st__law_size) [] [] (He.ga K "_law_size") fd)⟩ := T.c.def_ 2 rfl
  obtain ⟨fd__law_pick, O__law_pick⟩ := ok__law_pick (P := P) (w := w) (base := base) T
  refine ⟨fd, ⟨fn_rule (b := b__law_size) (n := 2) (l := 2) F sc__law_size rfl rfl (fun cdv A outer s H E hr tk hp => ?_), F.bindsN (ps := ["tape", "count"]) (fun _ _ _ _ _ _ us hl => match us, hl with | [_, _], _ => rfl), T.glo "_law_size" 19, F.kp, fun s us hl => F.bindsA (fun _ _ _ _ _ _ us hl => match us, hl with | [_, _], _ => rfl) s us hl, fun_at F⟩⟩
  exact (ss_cons (ss_set (i := 2) sc__law_size.nd rfl (by first | exact Or.inl rfl | exact Or.inr rfl) (se_callO O__law_pick (hr.mono (by decide)) (by rfl) tk (sa_cons (se_var 0) (sa_cons se_int sa_nil))))
  (ss_cons (ss_set (i := 3) sc__law_size.nd rfl (by first | exact Or.inl rfl | exact Or.inr rfl) (se_callB (call_max2 rfl) n_max2 (by rfl) (T.free "max" 3) (by decide +kernel) (sa_cons se_int (sa_cons (se_var 1) sa_nil))))
  (ss_cons (ss_if (st_cmp (op_eq3 hr.units) o2_eq (se_var 2) se_int (nomark _))
  (ss_one (ss_ret (se_var 3)))
  ss_nil)
  (ss_cons (ss_if (st_cmp (op_eq3 hr.units) o2_eq (se_var 2) se_int (nomark _))
  (ss_one (ss_ret (se_bin op_add3 o2_add (se_var 3) (se_callO O__law_pick (hr.mono (by decide)) (by rfl) tk (sa_cons (se_var 0) (sa_cons se_int sa_nil))))))
  ss_nil)
  (ss_cons (ss_if (st_cmp (op_eq3 hr.units) o2_eq (se_var 2) se_int (nomark _))
  (ss_one (ss_ret (se_bin op_add3 o2_add (se_var 3) (se_callO O__law_pick (hr.mono (by decide)) (by rfl) tk (sa_cons (se_var 0) (sa_cons se_int sa_nil))))))
  ss_nil)
  (ss_one (ss_ret (se_bin op_add3 o2_add (se_bin op_add3 o2_add (se_var 3) se_int) (se_callO O__law_pick (hr.mono (by decide)) (by rfl) tk (sa_cons (se_var 0) (sa_cons se_int sa_nil)))))))))))
abbrev st__law_places : Stmt := PySem.Challenge.pw_ringlaps_k59_whole_faithful_exactly.main.body.getD 28 (.Pass ⟨0, 0, 0, 0⟩)
theorem sc__law_places : FnScope ["tape", "size", "count", "places", "k", "place", "other"] ["tape", "size", "count"] (defScope st__law_places) := ⟨rfl, rfl, rfl, by decide +kernel, rfl, by decide +kernel, by decide +kernel⟩
theorem ok__law_places (T : Tp fa fn K mg) : ∃ fd, Okk P w K mg base 2 "_law_places" ["tape", "size", "count"] d__law_places fd := by
  obtain ⟨fd, (F : FunD K "_law_places" "_law_places" (defArgs st__law_places) (defBody st__law_places) (defScope st__law_places) [] [] (He.ga K "_law_places") fd)⟩ := T.c.def_ 3 rfl
  obtain ⟨fd__law_pick, O__law_pick⟩ := ok__law_pick (P := P) (w := w) (base := base) T
  refine ⟨fd, ⟨fn_rule (b := b__law_places) (n := 3) (l := 4) F sc__law_places rfl rfl (fun cdv A outer s H E hr tk hp => ?_), F.bindsN (ps := ["tape", "size", "count"]) (fun _ _ _ _ _ _ us hl => match us, hl with | [_, _, _], _ => rfl), T.glo "_law_places" 20, F.kp, fun s us hl => F.bindsA (fun _ _ _ _ _ _ us hl => match us, hl with | [_, _, _], _ => rfl) s us hl, fun_at F⟩⟩
  exact (ss_cons (ss_set (i := 3) sc__law_places.nd rfl (by first | exact Or.inl rfl | exact Or.inr rfl) (se_lst sa_nil))
  (ss_cons (ss_for hp rfl (pi_range1 (by rfl) (T.free "range" 4) (sa_cons (se_var 2) sa_nil)) src_r1 (pg_name (i := 4) sc__law_places.nd rfl (by first | exact Or.inl rfl | exact Or.inr rfl)) tg_name
  (ss_cons (ss_set (i := 5) sc__law_places.nd rfl (by first | exact Or.inl rfl | exact Or.inr rfl) (se_callO O__law_pick (hr.mono (by decide)) (by rfl) tk (sa_cons (se_var 0) (sa_cons (se_bin op_sub o2_sub (se_var 1) (se_var 4)) sa_nil))))
  (ss_cons (ss_for hp rfl (pi_any (se_callB (cr_sortedAll rfl) n_sorted (by rfl) (T.free "sorted" 5) (by decide +kernel) (sa_cons (se_var 3) sa_nil))) src_any (pg_name (i := 6) sc__law_places.nd rfl (by first | exact Or.inl rfl | exact Or.inr rfl)) tg_name
  (ss_one (ss_if (st_cmp op_le o2_le (se_var 6) (se_var 5) (nomark _))
  (ss_one (ss_set (i := 5) sc__law_places.nd rfl (by first | exact Or.inl rfl | exact Or.inr rfl) (se_bin op_add3 o2_add (se_var 5) se_int)))
  ss_nil)))
  (ss_one (ss_expr (se_meth PySem.F.plainAttrs_list PySem.F.slot_list_append PySem.F.type_list_append mt_append n_app (se_var 3) (sa_cons (se_var 5) sa_nil)))))))
  (ss_one (ss_ret (se_var 3)))))
abbrev st__law_nexts : Stmt := PySem.Challenge.pw_ringlaps_k59_whole_faithful_exactly.main.body.getD 29 (.Pass ⟨0, 0, 0, 0⟩)
theorem sc__law_nexts : FnScope ["tape", "places", "nexts", "count", "first", "last", "ring", "at"] ["tape", "places"] (defScope st__law_nexts) := ⟨rfl, rfl, rfl, by decide +kernel, rfl, by decide +kernel, by decide +kernel⟩
theorem ok__law_nexts (T : Tp fa fn K mg) : ∃ fd, Okk P w K mg base 2 "_law_nexts" ["tape", "places"] d__law_nexts fd := by
  obtain ⟨fd, (F : FunD K "_law_nexts" "_law_nexts" (defArgs st__law_nexts) (defBody st__law_nexts) (defScope st__law_nexts) [] [] (He.ga K "_law_nexts") fd)⟩ := T.c.def_ 4 rfl
  obtain ⟨fd__law_pick, O__law_pick⟩ := ok__law_pick (P := P) (w := w) (base := base) T
  refine ⟨fd, ⟨fn_rule (b := b__law_nexts) (n := 2) (l := 6) F sc__law_nexts rfl rfl (fun cdv A outer s H E hr tk hp => ?_), F.bindsN (ps := ["tape", "places"]) (fun _ _ _ _ _ _ us hl => match us, hl with | [_, _], _ => rfl), T.glo "_law_nexts" 21, F.kp, fun s us hl => F.bindsA (fun _ _ _ _ _ _ us hl => match us, hl with | [_, _], _ => rfl) s us hl, fun_at F⟩⟩
  exact (ss_cons (ss_set (i := 2) sc__law_nexts.nd rfl (by first | exact Or.inl rfl | exact Or.inr rfl) se_dict0)
  (ss_cons (ss_set (i := 3) sc__law_nexts.nd rfl (by first | exact Or.inl rfl | exact Or.inr rfl) (se_callB call_len4 n_len (by rfl) (T.free "len" 2) (by decide +kernel) (sa_cons (se_var 1) sa_nil)))
  (ss_cons (ss_set (i := 4) sc__law_nexts.nd rfl (by first | exact Or.inl rfl | exact Or.inr rfl) se_int)
  (ss_cons (ss_set (i := 5) sc__law_nexts.nd rfl (by first | exact Or.inl rfl | exact Or.inr rfl) se_int)
  (ss_cons (ss_set (i := 6) sc__law_nexts.nd rfl (by first | exact Or.inl rfl | exact Or.inr rfl) se_int)
  (ss_cons (ss_for hp rfl (pi_range1 (by rfl) (T.free "range" 4) (sa_cons (se_var 3) sa_nil)) src_r1 (pg_name (i := 7) sc__law_nexts.nd rfl (by first | exact Or.inl rfl | exact Or.inr rfl)) tg_name
  (ss_cons (ss_if (st_cmp (op_eq3 hr.units) o2_eq (se_var 7) (se_var 5) (nomark _))
  (ss_cons (ss_set (i := 4) sc__law_nexts.nd rfl (by first | exact Or.inl rfl | exact Or.inr rfl) (se_var 7))
  (ss_cons (ss_set (i := 5) sc__law_nexts.nd rfl (by first | exact Or.inl rfl | exact Or.inr rfl) (se_var 3))
  (ss_cons (ss_if (st_cmp (op_eq3 hr.units) o2_eq (se_callO O__law_pick (hr.mono (by decide)) (by rfl) tk (sa_cons (se_var 0) (sa_cons se_int sa_nil))) se_int (nomark _))
  (ss_one (ss_set (i := 5) sc__law_nexts.nd rfl (by first | exact Or.inl rfl | exact Or.inr rfl) (se_bin op_add3 o2_add (se_bin op_add3 o2_add (se_var 7) se_int) (se_callO O__law_pick (hr.mono (by decide)) (by rfl) tk (sa_cons (se_var 0) (sa_cons (se_bin op_sub o2_sub (se_var 3) (se_var 7)) sa_nil))))))
  ss_nil)
  (ss_one (ss_set (i := 6) sc__law_nexts.nd rfl (by first | exact Or.inl rfl | exact Or.inr rfl) (se_bin op_add3 o2_add se_int (se_callO O__law_pick (hr.mono (by decide)) (by rfl) tk (sa_cons (se_var 0) (sa_cons (se_bin op_sub o2_sub (se_var 5) (se_var 4)) sa_nil)))))))))
  ss_nil)
  (ss_one (ss_if (st_cmp op_lt o2_lt (se_bin op_sub o2_sub (se_var 7) (se_var 4)) (se_bin op_sub o2_sub (se_var 6) se_int) (nomark _))
  (ss_one (ss_setitem (hu_of hr) (se_var 2) (se_ix ix_any o2_ix (se_var 1) (se_var 7) (fun _ _ => rfl)) (se_ix ix_any o2_ix (se_var 1) (se_bin op_add3 o2_add (se_var 7) se_int) (fun _ _ => rfl))))
  (ss_one (ss_if (st_cmp (op_eq3 hr.units) o2_eq (se_bin op_sub o2_sub (se_var 7) (se_var 4)) (se_bin op_sub o2_sub (se_var 6) se_int) (nomark _))
  (ss_one (ss_setitem (hu_of hr) (se_var 2) (se_ix ix_any o2_ix (se_var 1) (se_var 7) (fun _ _ => rfl)) (se_ix ix_any o2_ix (se_var 1) (se_var 4) (fun _ _ => rfl))))
  (ss_one (ss_setitem (hu_of hr) (se_var 2) (se_ix ix_any o2_ix (se_var 1) (se_var 7) (fun _ _ => rfl)) (se_ix ix_any o2_ix (se_var 1) (se_bin op_add3 o2_add (se_var 4) (se_callO O__law_pick (hr.mono (by decide)) (by rfl) tk (sa_cons (se_var 0) (sa_cons (se_bin op_sub o2_sub (se_var 7) (se_var 4)) sa_nil)))) (fun _ _ => rfl))))))))))
  (ss_one (ss_ret (se_var 2)))))))))
abbrev st__law_behinds : Stmt := PySem.Challenge.pw_ringlaps_k59_whole_faithful_exactly.main.body.getD 35 (.Pass ⟨0, 0, 0, 0⟩)
theorem sc__law_behinds : FnScope ["tape", "places", "behinds", "house"] ["tape", "places"] (defScope st__law_behinds) := ⟨rfl, rfl, rfl, by decide +kernel, rfl, by decide +kernel, by decide +kernel⟩
theorem ok__law_behinds (T : Tp fa fn K mg) : ∃ fd, Okk P w K mg base 2 "_law_behinds" ["tape", "places"] d__law_behinds fd := by
  obtain ⟨fd, (F : FunD K "_law_behinds" "_law_behinds" (defArgs st__law_behinds) (defBody st__law_behinds) (defScope st__law_behinds) [] [] (He.ga K "_law_behinds") fd)⟩ := T.c.def_ 5 rfl
  obtain ⟨fd__law_pick, O__law_pick⟩ := ok__law_pick (P := P) (w := w) (base := base) T
  refine ⟨fd, ⟨fn_rule (b := b__law_behinds) (n := 2) (l := 2) F sc__law_behinds rfl rfl (fun cdv A outer s H E hr tk hp => ?_), F.bindsN (ps := ["tape", "places"]) (fun _ _ _ _ _ _ us hl => match us, hl with | [_, _], _ => rfl), T.glo "_law_behinds" 22, F.kp, fun s us hl => F.bindsA (fun _ _ _ _ _ _ us hl => match us, hl with | [_, _], _ => rfl) s us hl, fun_at F⟩⟩
  exact (ss_cons (ss_set (i := 2) sc__law_behinds.nd rfl (by first | exact Or.inl rfl | exact Or.inr rfl) se_dict0)
  (ss_cons (ss_for hp rfl (pi_any (se_var 1)) src_any (pg_name (i := 3) sc__law_behinds.nd rfl (by first | exact Or.inl rfl | exact Or.inr rfl)) tg_name
  (ss_one (ss_if (st_cmp op_gt o2_gt (se_callO O__law_pick (hr.mono (by decide)) (by rfl) tk (sa_cons (se_var 0) (sa_cons se_int sa_nil))) se_int (nomark _))
  (ss_one (ss_setitem (hu_of hr) (se_var 2) (se_var 3) (se_ix ix_any o2_ix (se_var 1) (se_callO O__law_pick (hr.mono (by decide)) (by rfl) tk (sa_cons (se_var 0) (sa_cons (se_callB call_len4 n_len (by rfl) (T.free "len" 2) (by decide +kernel) (sa_cons (se_var 1) sa_nil)) sa_nil))) (fun _ _ => rfl))))
  ss_nil)))
  (ss_one (ss_ret (se_var 2)))))
abbrev st_check_place : Stmt := PySem.Challenge.pw_ringlaps_k59_whole_faithful_exactly.main.body.getD 20 (.Pass ⟨0, 0, 0, 0⟩)
theorem sc_check_place : FnScope ["size", "place"] ["size", "place"] (defScope st_check_place) := ⟨rfl, rfl, rfl, by decide +kernel, rfl, by decide +kernel, by decide +kernel⟩
theorem ok_check_place (T : Tp fa fn K mg) : ∃ fd, Okk P w K mg base 1 "check_place" ["size", "place"] d_check_place fd := by
  obtain ⟨fd, (F : FunD K "check_place" "check_place" (defArgs st_check_place) (defBody st_check_place) (defScope st_check_place) [] [] (He.ga K "check_place") fd)⟩ := T.c.def_ 6 rfl
  refine ⟨fd, ⟨fn_rule (b := b_check_place) (n := 2) (l := 0) F sc_check_place rfl rfl (fun cdv A outer s H E hr tk hp => ?_), F.bindsN (ps := ["size", "place"]) (fun _ _ _ _ _ _ us hl => match us, hl with | [_, _], _ => rfl), T.glo "check_place" 23, F.kp, fun s us hl => F.bindsA (fun _ _ _ _ _ _ us hl => match us, hl with | [_, _], _ => rfl) s us hl, fun_at F⟩⟩
  exact (ss_one (ss_if (st_not (st_chain (fun _ _ => rfl) (fun _ _ => rfl) op_le op_lt se_int (se_var 1) (se_var 0)))
  (ss_one ss_never)
  ss_nil))
abbrev st_check_houses : Stmt := PySem.Challenge.pw_ringlaps_k59_whole_faithful_exactly.main.body.getD 21 (.Pass ⟨0, 0, 0, 0⟩)
theorem sc_check_houses : FnScope ["houses", "places", "place"] ["houses", "places"] (defScope st_check_houses) := ⟨rfl, rfl, rfl, by decide +kernel, rfl, by decide +kernel, by decide +kernel⟩
theorem ok_check_houses (T : Tp fa fn K mg) : ∃ fd, Okk P w K mg base 1 "check_houses" ["houses", "places"] d_check_houses fd := by
  obtain ⟨fd, (F : FunD K "check_houses" "check_houses" (defArgs st_check_houses) (defBody st_check_houses) (defScope st_check_houses) [] [] (He.ga K "check_houses") fd)⟩ := T.c.def_ 7 rfl
  refine ⟨fd, ⟨fn_rule (b := b_check_houses) (n := 2) (l := 1) F sc_check_houses rfl rfl (fun cdv A outer s H E hr tk hp => ?_), F.bindsN (ps := ["houses", "places"]) (fun _ _ _ _ _ _ us hl => match us, hl with | [_, _], _ => rfl), T.glo "check_houses" 24, F.kp, fun s us hl => F.bindsA (fun _ _ _ _ _ _ us hl => match us, hl with | [_, _], _ => rfl) s us hl, fun_at F⟩⟩
  exact (ss_one (ss_for hp rfl (pi_any (se_var 1)) src_any (pg_name (i := 2) sc_check_houses.nd rfl (by first | exact Or.inl rfl | exact Or.inr rfl)) tg_name
  (ss_one (ss_if (st_cmp (op_notIn2 (hu_of hr)) o2_in (se_var 2) (se_var 0) (by with_unfolding_all rfl))
  (ss_one ss_never)
  ss_nil))))
abbrev st_letter_places : Stmt := PySem.Challenge.pw_ringlaps_k59_whole_faithful_exactly.main.body.getD 18 (.Pass ⟨0, 0, 0, 0⟩)
theorem sc_letter_places : FnScope ["letter"] ["letter"] (defScope st_letter_places) := ⟨rfl, rfl, rfl, by decide +kernel, rfl, by decide +kernel, by decide +kernel⟩
theorem ok_letter_places (T : Tp fa fn K mg) : ∃ fd, Okk P w K mg base 1 "letter_places" ["letter"] d_letter_places fd := by
  obtain ⟨fd, (F : FunD K "letter_places" "letter_places" (defArgs st_letter_places) (defBody st_letter_places) (defScope st_letter_places) [] [] (He.ga K "letter_places") fd)⟩ := T.c.def_ 8 rfl
  refine ⟨fd, ⟨fn_rule (b := b_letter_places) (n := 1) (l := 0) F sc_letter_places rfl rfl (fun cdv A outer s H E hr tk hp => ?_), F.bindsN (ps := ["letter"]) (fun _ _ _ _ _ _ us hl => match us, hl with | [_], _ => rfl), T.glo "letter_places" 25, F.kp, fun s us hl => F.bindsA (fun _ _ _ _ _ _ us hl => match us, hl with | [_], _ => rfl) s us hl, fun_at F⟩⟩
  exact (ss_one (ss_ret (se_slLo (se_var 0) se_int)))
abbrev st_check_tables : Stmt := PySem.Challenge.pw_ringlaps_k59_whole_faithful_exactly.main.body.getD 22 (.Pass ⟨0, 0, 0, 0⟩)
theorem sc_check_tables : FnScope ["size", "nexts", "behinds", "post", "house", "letter"] ["size", "nexts", "behinds", "post"] (defScope st_check_tables) := ⟨rfl, rfl, rfl, by decide +kernel, rfl, by decide +kernel, by decide +kernel⟩
theorem ok_check_tables (T : Tp fa fn K mg) : ∃ fd, Okk P w K mg base 2 "check_tables" ["size", "nexts", "behinds", "post"] d_check_tables fd := by
  obtain ⟨fd, (F : FunD K "check_tables" "check_tables" (defArgs st_check_tables) (defBody st_check_tables) (defScope st_check_tables) [] [] (He.ga K "check_tables") fd)⟩ := T.c.def_ 9 rfl
  obtain ⟨fd_check_place, O_check_place⟩ := ok_check_place (P := P) (w := w) (base := base) T
  obtain ⟨fd_check_houses, O_check_houses⟩ := ok_check_houses (P := P) (w := w) (base := base) T
  obtain ⟨fd_letter_places, O_letter_places⟩ := ok_letter_places (P := P) (w := w) (base := base) T
  refine ⟨fd, ⟨fn_rule (b := b_check_tables) (n := 4) (l := 2) F sc_check_tables rfl rfl (fun cdv A outer s H E hr tk hp => ?_), F.bindsN (ps := ["size", "nexts", "behinds", "post"]) (fun _ _ _ _ _ _ us hl => match us, hl with | [_, _, _, _], _ => rfl), T.glo "check_tables" 26, F.kp, fun s us hl => F.bindsA (fun _ _ _ _ _ _ us hl => match us, hl with | [_, _, _, _], _ => rfl) s us hl, fun_at F⟩⟩
  exact (ss_cons (ss_for hp rfl (pi_any (se_callB (cr_sortedAll rfl) n_sorted (by rfl) (T.free "sorted" 5) (by decide +kernel) (sa_cons (se_var 1) sa_nil))) src_any (pg_name (i := 4) sc_check_tables.nd rfl (by first | exact Or.inl rfl | exact Or.inr rfl)) tg_name
  (ss_one (ss_expr (se_callO O_check_place (hr.mono (by decide)) (by rfl) tk (sa_cons (se_var 0) (sa_cons (se_var 4) sa_nil))))))
  (ss_cons (ss_for hp rfl (pi_any (se_callB (cr_sortedAll rfl) n_sorted (by rfl) (T.free "sorted" 5) (by decide +kernel) (sa_cons (se_var 1) sa_nil))) src_any (pg_name (i := 4) sc_check_tables.nd rfl (by first | exact Or.inl rfl | exact Or.inr rfl)) tg_name
  (ss_one (ss_expr (se_callO O_check_houses (hr.mono (by decide)) (by rfl) tk (sa_cons (se_var 1) (sa_cons (se_lst (sa_cons (se_ix ix_any o2_ix (se_var 1) (se_var 4) (fun _ _ => rfl)) sa_nil)) sa_nil))))))
  (ss_cons (ss_for hp rfl (pi_any (se_callB (cr_sortedAll rfl) n_sorted (by rfl) (T.free "sorted" 5) (by decide +kernel) (sa_cons (se_var 2) sa_nil))) src_any (pg_name (i := 4) sc_check_tables.nd rfl (by first | exact Or.inl rfl | exact Or.inr rfl)) tg_name
  (ss_one (ss_expr (se_callO O_check_houses (hr.mono (by decide)) (by rfl) tk (sa_cons (se_var 1) (sa_cons (se_lst (sa_cons (se_var 4) (sa_cons (se_ix ix_any o2_ix (se_var 2) (se_var 4) (fun _ _ => rfl)) sa_nil))) sa_nil))))))
  (ss_one (ss_for hp rfl (pi_any (se_var 3)) src_any (pg_name (i := 5) sc_check_tables.nd rfl (by first | exact Or.inl rfl | exact Or.inr rfl)) tg_name
  (ss_one (ss_expr (se_callO O_check_houses (hr.mono (by decide)) (by rfl) tk (sa_cons (se_var 1) (sa_cons (se_callO O_letter_places (hr.mono (by decide)) (by rfl) tk (sa_cons (se_var 5) sa_nil)) sa_nil))))))))))
abbrev st_Net___init__ : Stmt := (clsBody (PySem.Challenge.pw_ringlaps_k59_whole_faithful_exactly.main.body.getD 23 (.Pass ⟨0, 0, 0, 0⟩))).getD 0 (.Pass ⟨0, 0, 0, 0⟩)
theorem sc_Net___init__ : FnScope ["self", "size", "nexts", "befores", "letters", "behinds", "post", "house"] ["self", "size", "nexts", "befores", "letters"] (defScope st_Net___init__) := ⟨rfl, rfl, rfl, by decide +kernel, rfl, by decide +kernel, by decide +kernel⟩
theorem ok_Net___init__ (T : Tp fa fn K mg) : ∃ fd, OkC P w K mg base 3 "Net" ["self", "size", "nexts", "befores", "letters"] d_Net___init__ fd ∧ Bk K fd ["self", "size", "nexts", "befores", "letters"] 3 ["befores", "letters"] := by
  obtain ⟨fd, (F : FunD K "__init__" "Net.__init__" (defArgs st_Net___init__) (defBody st_Net___init__) (defScope st_Net___init__) [] [("befores", .non), ("letters", .non)] (He.ma K (He.ga K "Net") "__init__") fd)⟩ := T.c.def_ 10 rfl
  obtain ⟨fd_check_tables, O_check_tables⟩ := ok_check_tables (P := P) (w := w) (base := base) T
  refine ⟨fd, ⟨fn_rule (b := b_Net___init__) (n := 5) (l := 3) F sc_Net___init__ rfl rfl (fun cdv A outer s H E hr tk hp => ?_), He.mkr_ok (T.c.fact 27 rfl), T.glo "Net" 28, by decide⟩, kbinds0 F 3 ["befores", "letters"] (fun _ _ _ _ _ _ us ws hl hw => match us, ws, hl, hw with | [_, _, _], [_, _], _, _ => rfl)⟩
  exact (ss_cons (ss_set (i := 5) sc_Net___init__.nd rfl (by first | exact Or.inl rfl | exact Or.inr rfl) (se_if (st_cmp op_is3 o2_is (se_var 3) se_non (nomark _)) se_dict0 (se_var 3)))
  (ss_cons (ss_set (i := 6) sc_Net___init__.nd rfl (by first | exact Or.inl rfl | exact Or.inr rfl) (se_if (st_cmp op_is3 o2_is (se_var 4) se_non (nomark _)) (se_lst sa_nil) (se_var 4)))
  (ss_cons (ss_expr (se_callO O_check_tables (hr.mono (by decide)) (by rfl) tk (sa_cons (se_var 1) (sa_cons (se_var 2) (sa_cons (se_var 5) (sa_cons (se_var 6) sa_nil))))))
  (ss_cons (ss_fld (ClsOk.cons (by decide) (He.cls_ok (T.c.fact 6 rfl)) (He.noat_ok (T.c.fact 7 rfl)) .nil) (se_var 0) (se_var 1))
  (ss_cons (ss_fld (ClsOk.cons (by decide) (He.cls_ok (T.c.fact 6 rfl)) (He.noat_ok (T.c.fact 9 rfl)) .nil) (se_var 0) (se_callTy call_dictD n_dictOf (by rfl) (T.free "dict" 8) (by decide +kernel) (sa_cons (se_var 2) sa_nil)))
  (ss_cons (ss_fld (ClsOk.cons (by decide) (He.cls_ok (T.c.fact 6 rfl)) (He.noat_ok (T.c.fact 10 rfl)) .nil) (se_var 0) (se_dc rfl sc_Net___init__.nd (pi_any2 (se_var 2)) src_any2 (blkOk_by (own := [("house", 7)]) (by show blkC ["self", "size", "nexts", "befores", "letters", "behinds", "post", "house"] (defScope st_Net___init__) _ _ = true; decide +kernel)) (fun _ _ _ _ _ => pg_name (i := 7) sc_Net___init__.nd rfl (by first | exact Or.inl rfl | exact Or.inr rfl)) (tgc_name (i := 7) (by decide)) (fun _ _ _ _ _ => sts_nil) (fun _ _ _ _ _ => (se_var 7)) (fun _ _ _ _ _ => (se_dget1 (hu_of hr) (se_var 5) (se_var 7)))))
  (ss_one (ss_fld (ClsOk.cons (by decide) (He.cls_ok (T.c.fact 6 rfl)) (He.noat_ok (T.c.fact 12 rfl)) .nil) (se_var 0) (se_callTy call_list_of n_listOf (by rfl) (T.free "list" 11) (by decide +kernel) (sa_cons (se_var 6) sa_nil))))))))))
abbrev st__law_same : Stmt := PySem.Challenge.pw_ringlaps_k59_whole_faithful_exactly.main.body.getD 32 (.Pass ⟨0, 0, 0, 0⟩)
theorem sc__law_same : FnScope ["actual", "due", "k"] ["actual", "due"] (defScope st__law_same) := ⟨rfl, rfl, rfl, by decide +kernel, rfl, by decide +kernel, by decide +kernel⟩
theorem ok__law_same (T : Tp fa fn K mg) : ∃ fd, Okk P w K mg base 12 "_law_same" ["actual", "due"] d__law_same fd := by
  obtain ⟨fd, (F : FunD K "_law_same" "_law_same" (defArgs st__law_same) (defBody st__law_same) (defScope st__law_same) [] [] (He.ga K "_law_same") fd)⟩ := T.c.def_ 11 rfl
  have main : ∀ k, Okk P w K mg base k "_law_same" ["actual", "due"] (dn__law_same k) fd := by
    intro k
    induction k with
    | zero => exact ⟨fnOk_stuck, F.bindsN (ps := ["actual", "due"]) (fun _ _ _ _ _ _ us hl => match us, hl with | [_, _], _ => rfl), T.glo "_law_same" 29, F.kp, fun s us hl => F.bindsA (fun _ _ _ _ _ _ us hl => match us, hl with | [_, _], _ => rfl) s us hl, fun_at F⟩
    | succ k ih =>
      refine ⟨fn_rule (b := b__law_same (dn__law_same k)) (n := 2) (l := 1) F sc__law_same rfl rfl (fun cdv A outer s H E hr tk hp => ?_), F.bindsN (ps := ["actual", "due"]) (fun _ _ _ _ _ _ us hl => match us, hl with | [_, _], _ => rfl), T.glo "_law_same" 29, F.kp, fun s us hl => F.bindsA (fun _ _ _ _ _ _ us hl => match us, hl with | [_, _], _ => rfl) s us hl, fun_at F⟩
      exact (ss_cons (ss_if (st_cmp op_is3 o2_is (se_var 1) se_non (nomark _))
  (ss_one (ss_ret (se_cmp op_is3 o2_is (se_var 0) se_non (nomark _))))
  ss_nil)
  (ss_cons (ss_if (st_cmp op_is3 o2_is (se_var 1) se_bl (nomark _))
  (ss_one (ss_ret (se_cmp op_is3 o2_is (se_var 0) se_bl (nomark _))))
  ss_nil)
  (ss_cons (ss_if (st_cmp op_is3 o2_is (se_var 1) se_bl (nomark _))
  (ss_one (ss_ret (se_cmp op_is3 o2_is (se_var 0) se_bl (nomark _))))
  ss_nil)
  (ss_cons (ss_if (st_val (se_isT (T := "int") (by decide) (by rfl) (T.free "isinstance" 13) (by rfl) (T.free "int" 0) (by decide +kernel) (se_var 1)))
  (ss_one (ss_ret (se_and (se_isT (T := "int") (by decide) (by rfl) (T.free "isinstance" 13) (by rfl) (T.free "int" 0) (by decide +kernel) (se_var 0)) (se_and (se_not (se_isT (T := "bool") (by decide) (by rfl) (T.free "isinstance" 13) (by rfl) (T.free "bool" 14) (by decide +kernel) (se_var 0))) (se_one (se_cmp (op_eq3 hr.units) o2_eq (se_var 0) (se_var 1) (nomark _)))))))
  ss_nil)
  (ss_cons (ss_if (st_val (se_isT (T := "str") (by decide) (by rfl) (T.free "isinstance" 13) (by rfl) (T.free "str" 15) (by decide +kernel) (se_var 1)))
  (ss_one (ss_ret (se_and (se_isT (T := "str") (by decide) (by rfl) (T.free "isinstance" 13) (by rfl) (T.free "str" 15) (by decide +kernel) (se_var 0)) (se_one (se_cmp (op_eq3 hr.units) o2_eq (se_var 0) (se_var 1) (nomark _))))))
  ss_nil)
  (ss_cons (ss_if (st_val (se_isT (T := "dict") (by decide) (by rfl) (T.free "isinstance" 13) (by rfl) (T.free "dict" 8) (by decide +kernel) (se_var 1)))
  (ss_one (ss_ret (se_and (se_isT (T := "dict") (by decide) (by rfl) (T.free "isinstance" 13) (by rfl) (T.free "dict" 8) (by decide +kernel) (se_var 0)) (se_one (se_callO ih hr (by rfl) tk (sa_cons (se_items rfl (by rfl) (T.free "list" 11) (se_var 0)) (sa_cons (se_items rfl (by rfl) (T.free "list" 11) (se_var 1)) sa_nil)))))))
  ss_nil)
  (ss_cons (ss_if (PW.pt (sw_and (st_val (se_isT (T := "tuple") (by decide) (by rfl) (T.free "isinstance" 13) (by rfl) (T.free "tuple" 16) (by decide +kernel) (se_var 1))) (sw_and1 (st_not (st_val (se_isT (T := "tuple") (by decide) (by rfl) (T.free "isinstance" 13) (by rfl) (T.free "tuple" 16) (by decide +kernel) (se_var 0)))))))
  (ss_one (ss_ret se_bl))
  ss_nil)
  (ss_cons (ss_if (PW.pt (sw_and (st_val (se_isT (T := "list") (by decide) (by rfl) (T.free "isinstance" 13) (by rfl) (T.free "list" 11) (by decide +kernel) (se_var 1))) (sw_and1 (st_not (st_val (se_isT (T := "list") (by decide) (by rfl) (T.free "isinstance" 13) (by rfl) (T.free "list" 11) (by decide +kernel) (se_var 0)))))))
  (ss_one (ss_ret se_bl))
  ss_nil)
  (ss_cons (ss_if (st_cmp (op_ne3 hr.units) o2_ne (se_callB call_len4 n_len (by rfl) (T.free "len" 2) (by decide +kernel) (sa_cons (se_var 0) sa_nil)) (se_callB call_len4 n_len (by rfl) (T.free "len" 2) (by decide +kernel) (sa_cons (se_var 1) sa_nil)) (nomark _))
  (ss_one (ss_ret se_bl))
  ss_nil)
  (ss_cons (ss_for hp rfl (pi_range1 (by rfl) (T.free "range" 4) (sa_cons (se_callB call_len4 n_len (by rfl) (T.free "len" 2) (by decide +kernel) (sa_cons (se_var 1) sa_nil)) sa_nil)) src_r1 (pg_name (i := 2) sc__law_same.nd rfl (by first | exact Or.inl rfl | exact Or.inr rfl)) tg_name
  (ss_one (ss_if (st_not (st_val (se_callO ih hr (by rfl) tk (sa_cons (se_ix ix_any o2_ix (se_var 0) (se_var 2) (fun _ _ => rfl)) (sa_cons (se_ix ix_any o2_ix (se_var 1) (se_var 2) (fun _ _ => rfl)) sa_nil)))))
  (ss_one (ss_ret se_bl))
  ss_nil)))
  (ss_one (ss_ret se_bl))))))))))))
  exact ⟨fd, main 12⟩
abbrev st_Net_nexts : Stmt := (clsBody (PySem.Challenge.pw_ringlaps_k59_whole_faithful_exactly.main.body.getD 23 (.Pass ⟨0, 0, 0, 0⟩))).getD 4 (.Pass ⟨0, 0, 0, 0⟩)
theorem sc_Net_nexts : FnScope ["self", "house"] ["self"] (defScope st_Net_nexts) := ⟨rfl, rfl, rfl, by decide +kernel, rfl, by decide +kernel, by decide +kernel⟩
theorem ok_Net_nexts (T : Tp fa fn K mg) : ∃ fd, OkM P w K mg base 1 "Net" "nexts" ["self"] d_Net_nexts fd ∧ Bd K fd ["self"] [] := by
  obtain ⟨fd, (F : FunD K "nexts" "Net.nexts" (defArgs st_Net_nexts) (defBody st_Net_nexts) (defScope st_Net_nexts) [] [] (He.ma K (He.ga K "Net") "nexts") fd)⟩ := T.c.def_ 12 rfl
  refine ⟨fd, ⟨fn_rule (b := b_Net_nexts) (n := 1) (l := 1) F sc_Net_nexts rfl rfl (fun cdv A outer s H E hr tk hp => ?_), He.cls_ok (T.c.fact 6 rfl), He.meth_ok (T.c.fact 30 rfl), by decide⟩, Bd.all (F.bindsN (ps := ["self"]) (fun _ _ _ _ _ _ us hl => match us, hl with | [_], _ => rfl))⟩
  exact (ss_one (ss_ret (se_dc rfl sc_Net_nexts.nd (pi_any (se_callB (cr_sortedAll rfl) n_sorted (by rfl) (T.free "sorted" 5) (by decide +kernel) (sa_cons (se_fld (ClsOk.cons (by decide) (He.cls_ok (T.c.fact 6 rfl)) (He.noat_ok (T.c.fact 9 rfl)) .nil) (se_var 0)) sa_nil))) src_any (blkOk_by (own := [("house", 1)]) (by show blkC ["self", "house"] (defScope st_Net_nexts) _ _ = true; decide +kernel)) (fun _ _ _ _ _ => pg_name (i := 1) sc_Net_nexts.nd rfl (by first | exact Or.inl rfl | exact Or.inr rfl)) (tgc_name (i := 1) (by decide)) (fun _ _ _ _ _ => sts_nil) (fun _ _ _ _ _ => (se_var 1)) (fun _ _ _ _ _ => (se_ix ix_any o2_ix (se_fld (ClsOk.cons (by decide) (He.cls_ok (T.c.fact 6 rfl)) (He.noat_ok (T.c.fact 9 rfl)) .nil) (se_var 0)) (se_var 1) (fun _ _ => rfl))))))
abbrev st__law_ordered : Stmt := PySem.Challenge.pw_ringlaps_k59_whole_faithful_exactly.main.body.getD 33 (.Pass ⟨0, 0, 0, 0⟩)
theorem sc__law_ordered : FnScope ["table", "due", "key"] ["table"] (defScope st__law_ordered) := ⟨rfl, rfl, rfl, by decide +kernel, rfl, by decide +kernel, by decide +kernel⟩
theorem ok__law_ordered (T : Tp fa fn K mg) : ∃ fd, Okk P w K mg base 1 "_law_ordered" ["table"] d__law_ordered fd := by
  obtain ⟨fd, (F : FunD K "_law_ordered" "_law_ordered" (defArgs st__law_ordered) (defBody st__law_ordered) (defScope st__law_ordered) [] [] (He.ga K "_law_ordered") fd)⟩ := T.c.def_ 13 rfl
  refine ⟨fd, ⟨fn_rule (b := b__law_ordered) (n := 1) (l := 2) F sc__law_ordered rfl rfl (fun cdv A outer s H E hr tk hp => ?_), F.bindsN (ps := ["table"]) (fun _ _ _ _ _ _ us hl => match us, hl with | [_], _ => rfl), T.glo "_law_ordered" 31, F.kp, fun s us hl => F.bindsA (fun _ _ _ _ _ _ us hl => match us, hl with | [_], _ => rfl) s us hl, fun_at F⟩⟩
  exact (ss_cons (ss_set (i := 1) sc__law_ordered.nd rfl (by first | exact Or.inl rfl | exact Or.inr rfl) se_dict0)
  (ss_cons (ss_for hp rfl (pi_any (se_callB (cr_sortedAll rfl) n_sorted (by rfl) (T.free "sorted" 5) (by decide +kernel) (sa_cons (se_var 0) sa_nil))) src_any (pg_name (i := 2) sc__law_ordered.nd rfl (by first | exact Or.inl rfl | exact Or.inr rfl)) tg_name
  (ss_one (ss_if (st_cmp op_isnot3 o2_is (se_ix ix_any o2_ix (se_var 0) (se_var 2) (fun _ _ => rfl)) se_non (nomark _))
  (ss_one (ss_setitem (hu_of hr) (se_var 1) (se_var 2) (se_ix ix_any o2_ix (se_var 0) (se_var 2) (fun _ _ => rfl))))
  ss_nil)))
  (ss_one (ss_ret (se_var 1)))))
abbrev st_Net_befores : Stmt := (clsBody (PySem.Challenge.pw_ringlaps_k59_whole_faithful_exactly.main.body.getD 23 (.Pass ⟨0, 0, 0, 0⟩))).getD 5 (.Pass ⟨0, 0, 0, 0⟩)
theorem sc_Net_befores : FnScope ["self", "behinds", "house"] ["self"] (defScope st_Net_befores) := ⟨rfl, rfl, rfl, by decide +kernel, rfl, by decide +kernel, by decide +kernel⟩
theorem ok_Net_befores (T : Tp fa fn K mg) : ∃ fd, OkM P w K mg base 1 "Net" "befores" ["self"] d_Net_befores fd ∧ Bd K fd ["self"] [] := by
  obtain ⟨fd, (F : FunD K "befores" "Net.befores" (defArgs st_Net_befores) (defBody st_Net_befores) (defScope st_Net_befores) [] [] (He.ma K (He.ga K "Net") "befores") fd)⟩ := T.c.def_ 14 rfl
  refine ⟨fd, ⟨fn_rule (b := b_Net_befores) (n := 1) (l := 2) F sc_Net_befores rfl rfl (fun cdv A outer s H E hr tk hp => ?_), He.cls_ok (T.c.fact 6 rfl), He.meth_ok (T.c.fact 32 rfl), by decide⟩, Bd.all (F.bindsN (ps := ["self"]) (fun _ _ _ _ _ _ us hl => match us, hl with | [_], _ => rfl))⟩
  exact (ss_cons (ss_set (i := 1) sc_Net_befores.nd rfl (by first | exact Or.inl rfl | exact Or.inr rfl) (se_fld (ClsOk.cons (by decide) (He.cls_ok (T.c.fact 6 rfl)) (He.noat_ok (T.c.fact 10 rfl)) .nil) (se_var 0)))
  (ss_one (ss_ret (se_dc rfl sc_Net_befores.nd (pi_any (se_callB (cr_sortedAll rfl) n_sorted (by rfl) (T.free "sorted" 5) (by decide +kernel) (sa_cons (se_var 1) sa_nil))) src_any (blkOk_by (own := [("house", 2)]) (by show blkC ["self", "behinds", "house"] (defScope st_Net_befores) _ _ = true; decide +kernel)) (fun _ _ _ _ _ => pg_name (i := 2) sc_Net_befores.nd rfl (by first | exact Or.inl rfl | exact Or.inr rfl)) (tgc_name (i := 2) (by decide)) (fun _ _ _ _ _ => (sts_one (st_cmp op_isnot3 o2_is (se_ix ix_any o2_ix (se_var 1) (se_var 2) (fun _ _ => rfl)) se_non (nomark _)))) (fun _ _ _ _ _ => (se_var 2)) (fun _ _ _ _ _ => (se_ix ix_any o2_ix (se_var 1) (se_var 2) (fun _ _ => rfl)))))))
abbrev st_Net_letters : Stmt := (clsBody (PySem.Challenge.pw_ringlaps_k59_whole_faithful_exactly.main.body.getD 23 (.Pass ⟨0, 0, 0, 0⟩))).getD 6 (.Pass ⟨0, 0, 0, 0⟩)
theorem sc_Net_letters : FnScope ["self"] ["self"] (defScope st_Net_letters) := ⟨rfl, rfl, rfl, by decide +kernel, rfl, by decide +kernel, by decide +kernel⟩
theorem ok_Net_letters (T : Tp fa fn K mg) : ∃ fd, OkM P w K mg base 1 "Net" "letters" ["self"] d_Net_letters fd ∧ Bd K fd ["self"] [] := by
  obtain ⟨fd, (F : FunD K "letters" "Net.letters" (defArgs st_Net_letters) (defBody st_Net_letters) (defScope st_Net_letters) [] [] (He.ma K (He.ga K "Net") "letters") fd)⟩ := T.c.def_ 15 rfl
  refine ⟨fd, ⟨fn_rule (b := b_Net_letters) (n := 1) (l := 0) F sc_Net_letters rfl rfl (fun cdv A outer s H E hr tk hp => ?_), He.cls_ok (T.c.fact 6 rfl), He.meth_ok (T.c.fact 33 rfl), by decide⟩, Bd.all (F.bindsN (ps := ["self"]) (fun _ _ _ _ _ _ us hl => match us, hl with | [_], _ => rfl))⟩
  exact (ss_one (ss_ret (se_callTy call_list_of n_listOf (by rfl) (T.free "list" 11) (by decide +kernel) (sa_cons (se_fld (ClsOk.cons (by decide) (He.cls_ok (T.c.fact 6 rfl)) (He.noat_ok (T.c.fact 12 rfl)) .nil) (se_var 0)) sa_nil))))
abbrev st__law_stands : Stmt := PySem.Challenge.pw_ringlaps_k59_whole_faithful_exactly.main.body.getD 34 (.Pass ⟨0, 0, 0, 0⟩)
theorem sc__law_stands : FnScope ["net", "nexts", "behinds", "post"] ["net", "nexts", "behinds", "post"] (defScope st__law_stands) := ⟨rfl, rfl, rfl, by decide +kernel, rfl, by decide +kernel, by decide +kernel⟩
theorem ok__law_stands (T : Tp fa fn K mg) : ∃ fd, Okk P w K mg base 13 "_law_stands" ["net", "nexts", "behinds", "post"] d__law_stands fd := by
  obtain ⟨fd, (F : FunD K "_law_stands" "_law_stands" (defArgs st__law_stands) (defBody st__law_stands) (defScope st__law_stands) [] [] (He.ga K "_law_stands") fd)⟩ := T.c.def_ 16 rfl
  obtain ⟨fd__law_same, O__law_same⟩ := ok__law_same (P := P) (w := w) (base := base) T
  obtain ⟨fd_Net_nexts, O_Net_nexts, B_Net_nexts_0⟩ := ok_Net_nexts (P := P) (w := w) (base := base) T
  obtain ⟨fd__law_ordered, O__law_ordered⟩ := ok__law_ordered (P := P) (w := w) (base := base) T
  obtain ⟨fd_Net_befores, O_Net_befores, B_Net_befores_0⟩ := ok_Net_befores (P := P) (w := w) (base := base) T
  obtain ⟨fd_Net_letters, O_Net_letters, B_Net_letters_0⟩ := ok_Net_letters (P := P) (w := w) (base := base) T
  refine ⟨fd, ⟨fn_rule (b := b__law_stands) (n := 4) (l := 0) F sc__law_stands rfl rfl (fun cdv A outer s H E hr tk hp => ?_), F.bindsN (ps := ["net", "nexts", "behinds", "post"]) (fun _ _ _ _ _ _ us hl => match us, hl with | [_, _, _, _], _ => rfl), T.glo "_law_stands" 34, F.kp, fun s us hl => F.bindsA (fun _ _ _ _ _ _ us hl => match us, hl with | [_, _, _, _], _ => rfl) s us hl, fun_at F⟩⟩
  exact (ss_cons (ss_if (st_not (st_val (se_callO O__law_same (hr.mono (by decide)) (by rfl) tk (sa_cons (se_methO0 O_Net_nexts B_Net_nexts_0 Flat.nil (hr.mono (by decide)) tk (se_var 0)) (sa_cons (se_callO O__law_ordered (hr.mono (by decide)) (by rfl) tk (sa_cons (se_var 1) sa_nil)) sa_nil)))))
  (ss_one (ss_ret se_bl))
  ss_nil)
  (ss_one (ss_ret (se_and (se_callO O__law_same (hr.mono (by decide)) (by rfl) tk (sa_cons (se_methO0 O_Net_befores B_Net_befores_0 Flat.nil (hr.mono (by decide)) tk (se_var 0)) (sa_cons (se_callO O__law_ordered (hr.mono (by decide)) (by rfl) tk (sa_cons (se_var 2) sa_nil)) sa_nil))) (se_one (se_callO O__law_same (hr.mono (by decide)) (by rfl) tk (sa_cons (se_methO0 O_Net_letters B_Net_letters_0 Flat.nil (hr.mono (by decide)) tk (se_var 0)) (sa_cons (se_var 3) sa_nil))))))))
abbrev st__law_letter : Stmt := PySem.Challenge.pw_ringlaps_k59_whole_faithful_exactly.main.body.getD 36 (.Pass ⟨0, 0, 0, 0⟩)
theorem sc__law_letter : FnScope ["tape", "places", "reader", "sender", "named", "kind"] ["tape", "places"] (defScope st__law_letter) := ⟨rfl, rfl, rfl, by decide +kernel, rfl, by decide +kernel, by decide +kernel⟩
theorem ok__law_letter (T : Tp fa fn K mg) : ∃ fd, Okk P w K mg base 2 "_law_letter" ["tape", "places"] d__law_letter fd := by
  obtain ⟨fd, (F : FunD K "_law_letter" "_law_letter" (defArgs st__law_letter) (defBody st__law_letter) (defScope st__law_letter) [] [] (He.ga K "_law_letter") fd)⟩ := T.c.def_ 17 rfl
  obtain ⟨fd__law_pick, O__law_pick⟩ := ok__law_pick (P := P) (w := w) (base := base) T
  refine ⟨fd, ⟨fn_rule (b := b__law_letter) (n := 2) (l := 4) F sc__law_letter rfl rfl (fun cdv A outer s H E hr tk hp => ?_), F.bindsN (ps := ["tape", "places"]) (fun _ _ _ _ _ _ us hl => match us, hl with | [_, _], _ => rfl), T.glo "_law_letter" 35, F.kp, fun s us hl => F.bindsA (fun _ _ _ _ _ _ us hl => match us, hl with | [_, _], _ => rfl) s us hl, fun_at F⟩⟩
  exact (ss_cons (ss_set (i := 2) sc__law_letter.nd rfl (by first | exact Or.inl rfl | exact Or.inr rfl) (se_ix ix_any o2_ix (se_var 1) (se_callO O__law_pick (hr.mono (by decide)) (by rfl) tk (sa_cons (se_var 0) (sa_cons (se_callB call_len4 n_len (by rfl) (T.free "len" 2) (by decide +kernel) (sa_cons (se_var 1) sa_nil)) sa_nil))) (fun _ _ => rfl)))
  (ss_cons (ss_set (i := 3) sc__law_letter.nd rfl (by first | exact Or.inl rfl | exact Or.inr rfl) (se_ix ix_any o2_ix (se_var 1) (se_callO O__law_pick (hr.mono (by decide)) (by rfl) tk (sa_cons (se_var 0) (sa_cons (se_callB call_len4 n_len (by rfl) (T.free "len" 2) (by decide +kernel) (sa_cons (se_var 1) sa_nil)) sa_nil))) (fun _ _ => rfl)))
  (ss_cons (ss_set (i := 4) sc__law_letter.nd rfl (by first | exact Or.inl rfl | exact Or.inr rfl) (se_ix ix_any o2_ix (se_var 1) (se_callO O__law_pick (hr.mono (by decide)) (by rfl) tk (sa_cons (se_var 0) (sa_cons (se_callB call_len4 n_len (by rfl) (T.free "len" 2) (by decide +kernel) (sa_cons (se_var 1) sa_nil)) sa_nil))) (fun _ _ => rfl)))
  (ss_cons (ss_set (i := 5) sc__law_letter.nd rfl (by first | exact Or.inl rfl | exact Or.inr rfl) (se_callO O__law_pick (hr.mono (by decide)) (by rfl) tk (sa_cons (se_var 0) (sa_cons se_int sa_nil))))
  (ss_cons (ss_if (st_cmp (op_eq3 hr.units) o2_eq (se_var 5) se_int (nomark _))
  (ss_one (ss_ret (se_tup (sa_cons se_str (sa_cons (se_var 2) (sa_cons (se_var 3) sa_nil))))))
  ss_nil)
  (ss_cons (ss_if (st_cmp (op_eq3 hr.units) o2_eq (se_var 5) se_int (nomark _))
  (ss_one (ss_ret (se_tup (sa_cons se_str (sa_cons (se_var 2) (sa_cons (se_var 3) sa_nil))))))
  ss_nil)
  (ss_one (ss_ret (se_tup (sa_cons se_str (sa_cons (se_var 2) (sa_cons (se_var 3) (sa_cons (se_var 4) sa_nil)))))))))))))
abbrev st__law_far : Stmt := PySem.Challenge.pw_ringlaps_k59_whole_faithful_exactly.main.body.getD 30 (.Pass ⟨0, 0, 0, 0⟩)
theorem sc__law_far : FnScope ["size", "start", "end", "steps"] ["size", "start", "end"] (defScope st__law_far) := ⟨rfl, rfl, rfl, by decide +kernel, rfl, by decide +kernel, by decide +kernel⟩
theorem ok__law_far (T : Tp fa fn K mg) : ∃ fd, Okk P w K mg base 1 "_law_far" ["size", "start", "end"] d__law_far fd := by
  obtain ⟨fd, (F : FunD K "_law_far" "_law_far" (defArgs st__law_far) (defBody st__law_far) (defScope st__law_far) [] [] (He.ga K "_law_far") fd)⟩ := T.c.def_ 18 rfl
  refine ⟨fd, ⟨fn_rule (b := b__law_far) (n := 3) (l := 1) F sc__law_far rfl rfl (fun cdv A outer s H E hr tk hp => ?_), F.bindsN (ps := ["size", "start", "end"]) (fun _ _ _ _ _ _ us hl => match us, hl with | [_, _, _], _ => rfl), T.glo "_law_far" 36, F.kp, fun s us hl => F.bindsA (fun _ _ _ _ _ _ us hl => match us, hl with | [_, _, _], _ => rfl) s us hl, fun_at F⟩⟩
  exact (ss_cons (ss_set (i := 3) sc__law_far.nd rfl (by first | exact Or.inl rfl | exact Or.inr rfl) (se_bin op_mod o2_mod (se_callTy call_int1 n_int (by rfl) (T.free "int" 0) (by decide +kernel) (sa_cons (se_bin op_sub o2_sub (se_var 2) (se_var 1)) sa_nil)) (se_var 0)))
  (ss_cons (ss_if (st_cmp (op_eq3 hr.units) o2_eq (se_var 3) se_int (nomark _))
  (ss_one (ss_ret (se_var 0)))
  ss_nil)
  (ss_one (ss_ret (se_var 3)))))
abbrev st__law_between : Stmt := PySem.Challenge.pw_ringlaps_k59_whole_faithful_exactly.main.body.getD 31 (.Pass ⟨0, 0, 0, 0⟩)
theorem sc__law_between : FnScope ["size", "start", "place", "end"] ["size", "start", "place", "end"] (defScope st__law_between) := ⟨rfl, rfl, rfl, by decide +kernel, rfl, by decide +kernel, by decide +kernel⟩
theorem ok__law_between (T : Tp fa fn K mg) : ∃ fd, Okk P w K mg base 2 "_law_between" ["size", "start", "place", "end"] d__law_between fd := by
  obtain ⟨fd, (F : FunD K "_law_between" "_law_between" (defArgs st__law_between) (defBody st__law_between) (defScope st__law_between) [] [] (He.ga K "_law_between") fd)⟩ := T.c.def_ 19 rfl
  obtain ⟨fd__law_far, O__law_far⟩ := ok__law_far (P := P) (w := w) (base := base) T
  refine ⟨fd, ⟨fn_rule (b := b__law_between) (n := 4) (l := 0) F sc__law_between rfl rfl (fun cdv A outer s H E hr tk hp => ?_), F.bindsN (ps := ["size", "start", "place", "end"]) (fun _ _ _ _ _ _ us hl => match us, hl with | [_, _, _, _], _ => rfl), T.glo "_law_between" 37, F.kp, fun s us hl => F.bindsA (fun _ _ _ _ _ _ us hl => match us, hl with | [_, _, _, _], _ => rfl) s us hl, fun_at F⟩⟩
  exact (ss_cons (ss_if (PW.pt (sw_or (st_cmp (op_eq3 hr.units) o2_eq (se_var 2) (se_var 1) (nomark _)) (sw_or1 (st_cmp (op_eq3 hr.units) o2_eq (se_var 2) (se_var 3) (nomark _)))))
  (ss_one (ss_ret se_bl))
  ss_nil)
  (ss_one (ss_ret (se_cmp op_lt o2_lt (se_callO O__law_far (hr.mono (by decide)) (by rfl) tk (sa_cons (se_var 0) (sa_cons (se_var 1) (sa_cons (se_var 2) sa_nil)))) (se_callO O__law_far (hr.mono (by decide)) (by rfl) tk (sa_cons (se_var 0) (sa_cons (se_var 1) (sa_cons (se_var 3) sa_nil)))) (nomark _)))))
abbrev st_each_held_once : Stmt := PySem.Challenge.pw_ringlaps_k59_whole_faithful_exactly.main.body.getD 16 (.Pass ⟨0, 0, 0, 0⟩)
theorem sc_each_held_once : FnScope ["net", "nexts", "house"] ["net"] (defScope st_each_held_once) := ⟨rfl, rfl, rfl, by decide +kernel, rfl, by decide +kernel, by decide +kernel⟩
theorem ok_each_held_once (T : Tp fa fn K mg) : ∃ fd, Okk P w K mg base 2 "each_held_once" ["net"] d_each_held_once fd := by
  obtain ⟨fd, (F : FunD K "each_held_once" "each_held_once" (defArgs st_each_held_once) (defBody st_each_held_once) (defScope st_each_held_once) [] [] (He.ga K "each_held_once") fd)⟩ := T.c.def_ 20 rfl
  obtain ⟨fd_Net_nexts, O_Net_nexts, B_Net_nexts_0⟩ := ok_Net_nexts (P := P) (w := w) (base := base) T
  refine ⟨fd, ⟨fn_rule (b := b_each_held_once) (n := 1) (l := 2) F sc_each_held_once rfl rfl (fun cdv A outer s H E hr tk hp => ?_), F.bindsN (ps := ["net"]) (fun _ _ _ _ _ _ us hl => match us, hl with | [_], _ => rfl), T.glo "each_held_once" 38, F.kp, fun s us hl => F.bindsA (fun _ _ _ _ _ _ us hl => match us, hl with | [_], _ => rfl) s us hl, fun_at F⟩⟩
  exact (ss_cons (ss_set (i := 1) sc_each_held_once.nd rfl (by first | exact Or.inl rfl | exact Or.inr rfl) (se_methO0 O_Net_nexts B_Net_nexts_0 Flat.nil (hr.mono (by decide)) tk (se_var 0)))
  (ss_one (ss_ret (se_cmp (op_eq3 hr.units) o2_eq (se_callB (cr_sortedAll rfl) n_sorted (by rfl) (T.free "sorted" 5) (by decide +kernel) (sa_cons (se_lc rfl sc_each_held_once.nd (pi_any2 (se_var 1)) src_any2 (blkOk_by (own := [("house", 2)]) (by show blkC ["net", "nexts", "house"] (defScope st_each_held_once) _ _ = true; decide +kernel)) (fun _ _ _ _ _ => pg_name (i := 2) sc_each_held_once.nd rfl (by first | exact Or.inl rfl | exact Or.inr rfl)) (tgc_name (i := 2) (by decide)) (fun _ _ _ _ _ => sts_nil) (fun _ _ _ _ _ => (se_ix ix_any o2_ix (se_var 1) (se_var 2) (fun _ _ => rfl)))) sa_nil)) (se_callB (cr_sortedAll rfl) n_sorted (by rfl) (T.free "sorted" 5) (by decide +kernel) (sa_cons (se_var 1) sa_nil)) (nomark _)))))
noncomputable def b__law_kept : SM := (sSeq (sFor (iAny (eCB (k1 kSorted) (eCons (eVar 1) eNil))) (gSet 3)
  (sSeq (sSet 4 (eVar 3))
  (sSeq (sSet 5 (eD (.int 0)))
  (sSeq (sSet 6 (eVar 3))
  (sSeq (sSet 7 (eD (.int 0)))
  (sFor (iR1 (eCons (eB kMul (eD (.int 2)) (eCB (k1 kLen) (eCons (eVar 1) eNil))) eNil)) (gSet 8)
  (sSeq (sSet 5 (eB kAdd (eVar 5) (eCall d__law_far (eCons (eVar 0) (eCons (eVar 4) (eCons (eB kIx (eVar 1) (eVar 4)) eNil))))))
  (sSeq (sSet 4 (eB kIx (eVar 1) (eVar 4)))
  (sSeq (sFor (iR1 (eCons (eCB (k1 kLen) (eCons (eVar 2) eNil)) eNil)) (gSet 9)
  (sSeq (sIf (eT (eB (kII pGe) (eVar 7) (eVar 5)))
  sBrk
  sNil)
  (sSeq (sSet 7 (eB kAdd (eVar 7) (eCall d__law_far (eCons (eVar 0) (eCons (eVar 6) (eCons (eB kIx (eVar 2) (eVar 6)) eNil))))))
  (sSet 6 (eB kIx (eVar 2) (eVar 6))))))
  (sIf (mOr (eT (eB (kEqN true) (eVar 6) (eVar 4))) (eT (eB (kEqN true) (eVar 7) (eVar 5))))
  (sRet (eD (.bl false)))
  sNil))))))))))
  (sRet (eD (.bl true))))
noncomputable def d__law_kept : Den := mkDen 3 7 b__law_kept
abbrev st__law_kept : Stmt := PySem.Challenge.pw_ringlaps_k59_whole_faithful_exactly.main.body.getD 37 (.Pass ⟨0, 0, 0, 0⟩)
theorem sc__law_kept : FnScope ["size", "nexts", "table", "house", "due", "total", "at", "length", "k", "step"] ["size", "nexts", "table"] (defScope st__law_kept) := ⟨rfl, rfl, rfl, by decide +kernel, rfl, by decide +kernel, by decide +kernel⟩
theorem ok__law_kept (T : Tp fa fn K mg) : ∃ fd, Okk P w K mg base 2 "_law_kept" ["size", "nexts", "table"] d__law_kept fd := by
  obtain ⟨fd, (F : FunD K "_law_kept" "_law_kept" (defArgs st__law_kept) (defBody st__law_kept) (defScope st__law_kept) [] [] (He.ga K "_law_kept") fd)⟩ := T.c.def_ 21 rfl
  obtain ⟨fd__law_far, O__law_far⟩ := ok__law_far (P := P) (w := w) (base := base) T
  refine ⟨fd, ⟨fn_rule (b := b__law_kept) (n := 3) (l := 7) F sc__law_kept rfl rfl (fun cdv A outer s H E hr tk hp => ?_), F.bindsN (ps := ["size", "nexts", "table"]) (fun _ _ _ _ _ _ us hl => match us, hl with | [_, _, _], _ => rfl), T.glo "_law_kept" 39, F.kp, fun s us hl => F.bindsA (fun _ _ _ _ _ _ us hl => match us, hl with | [_, _, _], _ => rfl) s us hl, fun_at F⟩⟩
  exact (ss_cons (ss_for hp rfl (pi_any (se_callB (cr_sortedAll rfl) n_sorted (by rfl) (T.free "sorted" 5) (by decide +kernel) (sa_cons (se_var 1) sa_nil))) src_any (pg_name (i := 3) sc__law_kept.nd rfl (by first | exact Or.inl rfl | exact Or.inr rfl)) tg_name
  (ss_cons (ss_set (i := 4) sc__law_kept.nd rfl (by first | exact Or.inl rfl | exact Or.inr rfl) (se_var 3))
  (ss_cons (ss_set (i := 5) sc__law_kept.nd rfl (by first | exact Or.inl rfl | exact Or.inr rfl) se_int)
  (ss_cons (ss_set (i := 6) sc__law_kept.nd rfl (by first | exact Or.inl rfl | exact Or.inr rfl) (se_var 3))
  (ss_cons (ss_set (i := 7) sc__law_kept.nd rfl (by first | exact Or.inl rfl | exact Or.inr rfl) se_int)
  (ss_one (ss_for hp rfl (pi_range1 (by rfl) (T.free "range" 4) (sa_cons (se_bin op_mul2 o2_mul se_int (se_callB call_len4 n_len (by rfl) (T.free "len" 2) (by decide +kernel) (sa_cons (se_var 1) sa_nil))) sa_nil)) src_r1 (pg_name (i := 8) sc__law_kept.nd rfl (by first | exact Or.inl rfl | exact Or.inr rfl)) tg_name
  (ss_cons (ss_set (i := 5) sc__law_kept.nd rfl (by first | exact Or.inl rfl | exact Or.inr rfl) (se_bin op_add3 o2_add (se_var 5) (se_callO O__law_far (hr.mono (by decide)) (by rfl) tk (sa_cons (se_var 0) (sa_cons (se_var 4) (sa_cons (se_ix ix_any o2_ix (se_var 1) (se_var 4) (fun _ _ => rfl)) sa_nil))))))
  (ss_cons (ss_set (i := 4) sc__law_kept.nd rfl (by first | exact Or.inl rfl | exact Or.inr rfl) (se_ix ix_any o2_ix (se_var 1) (se_var 4) (fun _ _ => rfl)))
  (ss_cons (ss_for hp rfl (pi_range1 (by rfl) (T.free "range" 4) (sa_cons (se_callB call_len4 n_len (by rfl) (T.free "len" 2) (by decide +kernel) (sa_cons (se_var 2) sa_nil)) sa_nil)) src_r1 (pg_name (i := 9) sc__law_kept.nd rfl (by first | exact Or.inl rfl | exact Or.inr rfl)) tg_name
  (ss_cons (ss_if (st_cmp op_ge o2_ge (se_var 7) (se_var 5) (nomark _))
  (ss_one ss_break)
  ss_nil)
  (ss_cons (ss_set (i := 7) sc__law_kept.nd rfl (by first | exact Or.inl rfl | exact Or.inr rfl) (se_bin op_add3 o2_add (se_var 7) (se_callO O__law_far (hr.mono (by decide)) (by rfl) tk (sa_cons (se_var 0) (sa_cons (se_var 6) (sa_cons (se_ix ix_any o2_ix (se_var 2) (se_var 6) (fun _ _ => rfl)) sa_nil))))))
  (ss_one (ss_set (i := 6) sc__law_kept.nd rfl (by first | exact Or.inl rfl | exact Or.inr rfl) (se_ix ix_any o2_ix (se_var 2) (se_var 6) (fun _ _ => rfl)))))))
  (ss_one (ss_if (PW.pt (sw_or (st_cmp (op_ne3 hr.units) o2_ne (se_var 6) (se_var 4) (nomark _)) (sw_or1 (st_cmp (op_ne3 hr.units) o2_ne (se_var 7) (se_var 5) (nomark _)))))
  (ss_one (ss_ret se_bl))
  ss_nil))))))))))))
  (ss_one (ss_ret se_bl)))
abbrev st_Net_clone : Stmt := (clsBody (PySem.Challenge.pw_ringlaps_k59_whole_faithful_exactly.main.body.getD 23 (.Pass ⟨0, 0, 0, 0⟩))).getD 8 (.Pass ⟨0, 0, 0, 0⟩)
theorem sc_Net_clone : FnScope ["self"] ["self"] (defScope st_Net_clone) := ⟨rfl, rfl, rfl, by decide +kernel, rfl, by decide +kernel, by decide +kernel⟩
theorem ok_Net_clone (T : Tp fa fn K mg) : ∃ fd, OkM P w K mg base 5 "Net" "clone" ["self"] d_Net_clone fd ∧ Bd K fd ["self"] [] := by
  obtain ⟨fd, (F : FunD K "clone" "Net.clone" (defArgs st_Net_clone) (defBody st_Net_clone) (defScope st_Net_clone) [] [] (He.ma K (He.ga K "Net") "clone") fd)⟩ := T.c.def_ 22 rfl
  obtain ⟨fd_Net___init__, O_Net___init__, K_Net___init___2⟩ := ok_Net___init__ (P := P) (w := w) (base := base) T
  obtain ⟨fd_Net_befores, O_Net_befores, B_Net_befores_0⟩ := ok_Net_befores (P := P) (w := w) (base := base) T
  refine ⟨fd, ⟨fn_rule (b := b_Net_clone) (n := 1) (l := 0) F sc_Net_clone rfl rfl (fun cdv A outer s H E hr tk hp => ?_), He.cls_ok (T.c.fact 6 rfl), He.meth_ok (T.c.fact 40 rfl), by decide⟩, Bd.all (F.bindsN (ps := ["self"]) (fun _ _ _ _ _ _ us hl => match us, hl with | [_], _ => rfl))⟩
  exact (ss_one (ss_ret (se_makeK (fs := [(eFld ["Net"] "size" (eVar 0)), (eFld ["Net"] "_nexts" (eVar 0))]) (gs := [(eMeth "Net" "befores" d_Net_befores [] (eVar 0) eNil), (eFld ["Net"] "_letters" (eVar 0))]) O_Net___init__ K_Net___init___2 (hr.mono (by decide)) (by rfl) tk (sl_cons (se_fld (ClsOk.cons (by decide) (He.cls_ok (T.c.fact 6 rfl)) (He.noat_ok (T.c.fact 7 rfl)) .nil) (se_var 0)) (sl_cons (se_fld (ClsOk.cons (by decide) (He.cls_ok (T.c.fact 6 rfl)) (He.noat_ok (T.c.fact 9 rfl)) .nil) (se_var 0)) sl_nil)) (sk_cons (se_methO0 O_Net_befores B_Net_befores_0 Flat.nil (hr.mono (by decide)) tk (se_var 0)) (sk_cons (se_fld (ClsOk.cons (by decide) (He.cls_ok (T.c.fact 6 rfl)) (He.noat_ok (T.c.fact 12 rfl)) .nil) (se_var 0)) sk_nil)))))
abbrev st_far : Stmt := PySem.Challenge.pw_ringlaps_k59_whole_faithful_exactly.main.body.getD 2 (.Pass ⟨0, 0, 0, 0⟩)
theorem sc_far : FnScope ["size", "start", "end", "steps"] ["size", "start", "end"] (defScope st_far) := ⟨rfl, rfl, rfl, by decide +kernel, rfl, by decide +kernel, by decide +kernel⟩
theorem ok_far (T : Tp fa fn K mg) : ∃ fd, Okk P w K mg base 1 "far" ["size", "start", "end"] d_far fd := by
  obtain ⟨fd, (F : FunD K "far" "far" (defArgs st_far) (defBody st_far) (defScope st_far) [] [] (He.ga K "far") fd)⟩ := T.c.def_ 23 rfl
  refine ⟨fd, ⟨fn_rule (b := b_far) (n := 3) (l := 1) F sc_far rfl rfl (fun cdv A outer s H E hr tk hp => ?_), F.bindsN (ps := ["size", "start", "end"]) (fun _ _ _ _ _ _ us hl => match us, hl with | [_, _, _], _ => rfl), T.glo "far" 41, F.kp, fun s us hl => F.bindsA (fun _ _ _ _ _ _ us hl => match us, hl with | [_, _, _], _ => rfl) s us hl, fun_at F⟩⟩
  exact (ss_cons (ss_set (i := 3) sc_far.nd rfl (by first | exact Or.inl rfl | exact Or.inr rfl) (se_bin op_mod o2_mod (se_bin op_sub o2_sub (se_var 2) (se_var 1)) (se_var 0)))
  (ss_cons (ss_if (st_cmp (op_eq3 hr.units) o2_eq (se_var 3) se_int (nomark _))
  (ss_one (ss_ret (se_var 0)))
  ss_nil)
  (ss_one (ss_ret (se_var 3)))))
abbrev st_is_true : Stmt := PySem.Challenge.pw_ringlaps_k59_whole_faithful_exactly.main.body.getD 10 (.Pass ⟨0, 0, 0, 0⟩)
theorem sc_is_true : FnScope ["size", "nexts", "saying", "length", "house", "end", "distance"] ["size", "nexts", "saying"] (defScope st_is_true) := ⟨rfl, rfl, rfl, by decide +kernel, rfl, by decide +kernel, by decide +kernel⟩
theorem ok_is_true (T : Tp fa fn K mg) : ∃ fd, Okk P w K mg base 2 "is_true" ["size", "nexts", "saying"] d_is_true fd := by
  obtain ⟨fd, (F : FunD K "is_true" "is_true" (defArgs st_is_true) (defBody st_is_true) (defScope st_is_true) [] [] (He.ga K "is_true") fd)⟩ := T.c.def_ 24 rfl
  obtain ⟨fd_far, O_far⟩ := ok_far (P := P) (w := w) (base := base) T
  refine ⟨fd, ⟨fn_rule (b := b_is_true) (n := 3) (l := 4) F sc_is_true rfl rfl (fun cdv A outer s H E hr tk hp => ?_), F.bindsN (ps := ["size", "nexts", "saying"]) (fun _ _ _ _ _ _ us hl => match us, hl with | [_, _, _], _ => rfl), T.glo "is_true" 42, F.kp, fun s us hl => F.bindsA (fun _ _ _ _ _ _ us hl => match us, hl with | [_, _, _], _ => rfl) s us hl, fun_at F⟩⟩
  exact (ss_cons (ss_tupA (is := [4, 5, 6]) (se_var 2) (pg_tup rfl (pgs_cons (pg_name (i := 4) sc_is_true.nd rfl (by first | exact Or.inl rfl | exact Or.inr rfl)) (pgs_cons (pg_name (i := 5) sc_is_true.nd rfl (by first | exact Or.inl rfl | exact Or.inr rfl)) (pgs_cons (pg_name (i := 6) sc_is_true.nd rfl (by first | exact Or.inl rfl | exact Or.inr rfl)) pgs_nil)))))
  (ss_cons (ss_set (i := 3) sc_is_true.nd rfl (by first | exact Or.inl rfl | exact Or.inr rfl) se_int)
  (ss_cons (ss_while hp (st_cmp op_lt o2_lt (se_var 3) (se_var 6) (nomark _))
  (ss_cons (ss_aug (i := 3) sc_is_true.nd rfl (by first | exact Or.inl rfl | exact Or.inr rfl) (se_callO O_far (hr.mono (by decide)) (by rfl) tk (sa_cons (se_var 0) (sa_cons (se_var 4) (sa_cons (se_ix ix_any o2_ix (se_var 1) (se_var 4) (fun _ _ => rfl)) sa_nil)))) ip_add o2_addI)
  (ss_one (ss_set (i := 4) sc_is_true.nd rfl (by first | exact Or.inl rfl | exact Or.inr rfl) (se_ix ix_any o2_ix (se_var 1) (se_var 4) (fun _ _ => rfl))))))
  (ss_one (ss_ret (se_and (se_cmp (op_eq3 hr.units) o2_eq (se_var 4) (se_var 5) (nomark _)) (se_one (se_cmp (op_eq3 hr.units) o2_eq (se_var 3) (se_var 6) (nomark _)))))))))
abbrev st_holds_true : Stmt := PySem.Challenge.pw_ringlaps_k59_whole_faithful_exactly.main.body.getD 11 (.Pass ⟨0, 0, 0, 0⟩)
theorem sc_holds_true : FnScope ["net", "saying"] ["net", "saying"] (defScope st_holds_true) := ⟨rfl, rfl, rfl, by decide +kernel, rfl, by decide +kernel, by decide +kernel⟩
theorem ok_holds_true (T : Tp fa fn K mg) : ∃ fd, Okk P w K mg base 3 "holds_true" ["net", "saying"] d_holds_true fd := by
  obtain ⟨fd, (F : FunD K "holds_true" "holds_true" (defArgs st_holds_true) (defBody st_holds_true) (defScope st_holds_true) [] [] (He.ga K "holds_true") fd)⟩ := T.c.def_ 25 rfl
  obtain ⟨fd_is_true, O_is_true⟩ := ok_is_true (P := P) (w := w) (base := base) T
  obtain ⟨fd_Net_nexts, O_Net_nexts, B_Net_nexts_0⟩ := ok_Net_nexts (P := P) (w := w) (base := base) T
  refine ⟨fd, ⟨fn_rule (b := b_holds_true) (n := 2) (l := 0) F sc_holds_true rfl rfl (fun cdv A outer s H E hr tk hp => ?_), F.bindsN (ps := ["net", "saying"]) (fun _ _ _ _ _ _ us hl => match us, hl with | [_, _], _ => rfl), T.glo "holds_true" 43, F.kp, fun s us hl => F.bindsA (fun _ _ _ _ _ _ us hl => match us, hl with | [_, _], _ => rfl) s us hl, fun_at F⟩⟩
  exact (ss_one (ss_ret (se_callO O_is_true (hr.mono (by decide)) (by rfl) tk (sa_cons (se_fld (ClsOk.cons (by decide) (He.cls_ok (T.c.fact 6 rfl)) (He.noat_ok (T.c.fact 7 rfl)) .nil) (se_var 0)) (sa_cons (se_methO0 O_Net_nexts B_Net_nexts_0 Flat.nil (hr.mono (by decide)) tk (se_var 0)) (sa_cons (se_var 1) sa_nil))))))
abbrev st_Net_hold : Stmt := (clsBody (PySem.Challenge.pw_ringlaps_k59_whole_faithful_exactly.main.body.getD 23 (.Pass ⟨0, 0, 0, 0⟩))).getD 20 (.Pass ⟨0, 0, 0, 0⟩)
theorem sc_Net_hold : FnScope ["self", "house", "target", "old"] ["self", "house", "target"] (defScope st_Net_hold) := ⟨rfl, rfl, rfl, by decide +kernel, rfl, by decide +kernel, by decide +kernel⟩
theorem ok_Net_hold (T : Tp fa fn K mg) : ∃ fd, OkM P w K mg base 2 "Net" "hold" ["self", "house", "target"] d_Net_hold fd ∧ Bd K fd ["self", "house", "target"] [] := by
  obtain ⟨fd, (F : FunD K "hold" "Net.hold" (defArgs st_Net_hold) (defBody st_Net_hold) (defScope st_Net_hold) [] [] (He.ma K (He.ga K "Net") "hold") fd)⟩ := T.c.def_ 26 rfl
  obtain ⟨fd_check_houses, O_check_houses⟩ := ok_check_houses (P := P) (w := w) (base := base) T
  refine ⟨fd, ⟨fn_rule (b := b_Net_hold) (n := 3) (l := 1) F sc_Net_hold rfl rfl (fun cdv A outer s H E hr tk hp => ?_), He.cls_ok (T.c.fact 6 rfl), He.meth_ok (T.c.fact 44 rfl), by decide⟩, Bd.all (F.bindsN (ps := ["self", "house", "target"]) (fun _ _ _ _ _ _ us hl => match us, hl with | [_, _, _], _ => rfl))⟩
  exact (ss_cons (ss_expr (se_callO O_check_houses (hr.mono (by decide)) (by rfl) tk (sa_cons (se_fld (ClsOk.cons (by decide) (He.cls_ok (T.c.fact 6 rfl)) (He.noat_ok (T.c.fact 9 rfl)) .nil) (se_var 0)) (sa_cons (se_lst (sa_cons (se_var 1) (sa_cons (se_var 2) sa_nil))) sa_nil))))
  (ss_cons (ss_set (i := 3) sc_Net_hold.nd rfl (by first | exact Or.inl rfl | exact Or.inr rfl) (se_ix ix_any o2_ix (se_fld (ClsOk.cons (by decide) (He.cls_ok (T.c.fact 6 rfl)) (He.noat_ok (T.c.fact 9 rfl)) .nil) (se_var 0)) (se_var 1) (fun _ _ => rfl)))
  (ss_cons (ss_setitem (hu_of hr) (se_fld (ClsOk.cons (by decide) (He.cls_ok (T.c.fact 6 rfl)) (He.noat_ok (T.c.fact 9 rfl)) .nil) (se_var 0)) (se_var 1) (se_var 2))
  (ss_one (ss_ret (se_var 3))))))
noncomputable def b__law_held : SM := (sSeq (sSet 6 (eMeth "Net" "clone" d_Net_clone [] (eVar 0) eNil))
  (sSeq (sSet 7 (eB kIx (eVar 2) (eVar 3)))
  (sSeq (sSet 8 (eCB (k1 kDictOf) (eCons (eVar 2) eNil)))
  (sSeq (sSetIt (eVar 8) (eVar 3) (eVar 4))
  (sSeq (sIf (mNot (eT (eCall d__law_same (eCons (eMeth "Net" "hold" d_Net_hold [] (eVar 6) (eCons (eVar 3) (eCons (eVar 4) eNil))) (eCons (eVar 7) eNil)))))
  (sRet (eD (.bl false)))
  sNil)
  (sSeq (sIf (mNot (eT (eCall d__law_same (eCons (eMeth "Net" "nexts" d_Net_nexts [] (eVar 6) eNil) (eCons (eCall d__law_ordered (eCons (eVar 8) eNil)) eNil)))))
  (sRet (eD (.bl false)))
  sNil)
  (sSeq (sSet 9 (eTup (eCons (eVar 3) (eCons (eVar 7) (eCons (eCall d__law_far (eCons (eVar 1) (eCons (eVar 3) (eCons (eVar 7) eNil)))) eNil)))))
  (sRet (eCall d__law_same (eCons (eCall d_holds_true (eCons (eVar 6) (eCons (eVar 9) eNil))) (eCons (eVar 5) eNil)))))))))))
noncomputable def d__law_held : Den := mkDen 6 4 b__law_held
abbrev st__law_held : Stmt := PySem.Challenge.pw_ringlaps_k59_whole_faithful_exactly.main.body.getD 38 (.Pass ⟨0, 0, 0, 0⟩)
theorem sc__law_held : FnScope ["net", "size", "nexts", "house", "target", "kept", "other", "present", "table", "saying"] ["net", "size", "nexts", "house", "target", "kept"] (defScope st__law_held) := ⟨rfl, rfl, rfl, by decide +kernel, rfl, by decide +kernel, by decide +kernel⟩
theorem ok__law_held (T : Tp fa fn K mg) : ∃ fd, Okk P w K mg base 13 "_law_held" ["net", "size", "nexts", "house", "target", "kept"] d__law_held fd := by
  obtain ⟨fd, (F : FunD K "_law_held" "_law_held" (defArgs st__law_held) (defBody st__law_held) (defScope st__law_held) [] [] (He.ga K "_law_held") fd)⟩ := T.c.def_ 27 rfl
  obtain ⟨fd_Net_clone, O_Net_clone, B_Net_clone_0⟩ := ok_Net_clone (P := P) (w := w) (base := base) T
  obtain ⟨fd__law_same, O__law_same⟩ := ok__law_same (P := P) (w := w) (base := base) T
  obtain ⟨fd__law_far, O__law_far⟩ := ok__law_far (P := P) (w := w) (base := base) T
  obtain ⟨fd_holds_true, O_holds_true⟩ := ok_holds_true (P := P) (w := w) (base := base) T
  obtain ⟨fd_Net_hold, O_Net_hold, B_Net_hold_0⟩ := ok_Net_hold (P := P) (w := w) (base := base) T
  obtain ⟨fd_Net_nexts, O_Net_nexts, B_Net_nexts_0⟩ := ok_Net_nexts (P := P) (w := w) (base := base) T
  obtain ⟨fd__law_ordered, O__law_ordered⟩ := ok__law_ordered (P := P) (w := w) (base := base) T
  refine ⟨fd, ⟨fn_rule (b := b__law_held) (n := 6) (l := 4) F sc__law_held rfl rfl (fun cdv A outer s H E hr tk hp => ?_), F.bindsN (ps := ["net", "size", "nexts", "house", "target", "kept"]) (fun _ _ _ _ _ _ us hl => match us, hl with | [_, _, _, _, _, _], _ => rfl), T.glo "_law_held" 45, F.kp, fun s us hl => F.bindsA (fun _ _ _ _ _ _ us hl => match us, hl with | [_, _, _, _, _, _], _ => rfl) s us hl, fun_at F⟩⟩
  exact (ss_cons (ss_set (i := 6) sc__law_held.nd rfl (by first | exact Or.inl rfl | exact Or.inr rfl) (se_methO0 O_Net_clone B_Net_clone_0 Flat.nil (hr.mono (by decide)) tk (se_var 0)))
  (ss_cons (ss_set (i := 7) sc__law_held.nd rfl (by first | exact Or.inl rfl | exact Or.inr rfl) (se_ix ix_any o2_ix (se_var 2) (se_var 3) (fun _ _ => rfl)))
  (ss_cons (ss_set (i := 8) sc__law_held.nd rfl (by first | exact Or.inl rfl | exact Or.inr rfl) (se_callTy call_dictD n_dictOf (by rfl) (T.free "dict" 8) (by decide +kernel) (sa_cons (se_var 2) sa_nil)))
  (ss_cons (ss_setitem (hu_of hr) (se_var 8) (se_var 3) (se_var 4))
  (ss_cons (ss_if (st_not (st_val (se_callO O__law_same (hr.mono (by decide)) (by rfl) tk (sa_cons (se_methO O_Net_hold B_Net_hold_0 Flat.nil (hr.mono (by decide)) tk (se_var 6) (sa_cons (se_var 3) (sa_cons (se_var 4) sa_nil))) (sa_cons (se_var 7) sa_nil)))))
  (ss_one (ss_ret se_bl))
  ss_nil)
  (ss_cons (ss_if (st_not (st_val (se_callO O__law_same (hr.mono (by decide)) (by rfl) tk (sa_cons (se_methO0 O_Net_nexts B_Net_nexts_0 Flat.nil (hr.mono (by decide)) tk (se_var 6)) (sa_cons (se_callO O__law_ordered (hr.mono (by decide)) (by rfl) tk (sa_cons (se_var 8) sa_nil)) sa_nil)))))
  (ss_one (ss_ret se_bl))
  ss_nil)
  (ss_cons (ss_set (i := 9) sc__law_held.nd rfl (by first | exact Or.inl rfl | exact Or.inr rfl) (se_tup (sa_cons (se_var 3) (sa_cons (se_var 7) (sa_cons (se_callO O__law_far (hr.mono (by decide)) (by rfl) tk (sa_cons (se_var 1) (sa_cons (se_var 3) (sa_cons (se_var 7) sa_nil)))) sa_nil)))))
  (ss_one (ss_ret (se_callO O__law_same (hr.mono (by decide)) (by rfl) tk (sa_cons (se_callO O_holds_true (hr.mono (by decide)) (by rfl) tk (sa_cons (se_var 6) (sa_cons (se_var 9) sa_nil))) (sa_cons (se_var 5) sa_nil))))))))))))
abbrev st_refuse_strangers : Stmt := PySem.Challenge.pw_ringlaps_k59_whole_faithful_exactly.main.body.getD 13 (.Pass ⟨0, 0, 0, 0⟩)
theorem sc_refuse_strangers : FnScope ["net", "changes", "nexts", "pair", "place"] ["net", "changes"] (defScope st_refuse_strangers) := ⟨rfl, rfl, rfl, by decide +kernel, rfl, by decide +kernel, by decide +kernel⟩
theorem ok_refuse_strangers (T : Tp fa fn K mg) : ∃ fd, Okk P w K mg base 2 "refuse_strangers" ["net", "changes"] d_refuse_strangers fd := by
  obtain ⟨fd, (F : FunD K "refuse_strangers" "refuse_strangers" (defArgs st_refuse_strangers) (defBody st_refuse_strangers) (defScope st_refuse_strangers) [] [] (He.ga K "refuse_strangers") fd)⟩ := T.c.def_ 28 rfl
  obtain ⟨fd_Net_nexts, O_Net_nexts, B_Net_nexts_0⟩ := ok_Net_nexts (P := P) (w := w) (base := base) T
  refine ⟨fd, ⟨fn_rule (b := b_refuse_strangers) (n := 2) (l := 3) F sc_refuse_strangers rfl rfl (fun cdv A outer s H E hr tk hp => ?_), F.bindsN (ps := ["net", "changes"]) (fun _ _ _ _ _ _ us hl => match us, hl with | [_, _], _ => rfl), T.glo "refuse_strangers" 46, F.kp, fun s us hl => F.bindsA (fun _ _ _ _ _ _ us hl => match us, hl with | [_, _], _ => rfl) s us hl, fun_at F⟩⟩
  exact (ss_cons (ss_set (i := 2) sc_refuse_strangers.nd rfl (by first | exact Or.inl rfl | exact Or.inr rfl) (se_methO0 O_Net_nexts B_Net_nexts_0 Flat.nil (hr.mono (by decide)) tk (se_var 0)))
  (ss_one (ss_for hp rfl (pi_any (se_var 1)) src_any (pg_name (i := 3) sc_refuse_strangers.nd rfl (by first | exact Or.inl rfl | exact Or.inr rfl)) tg_name
  (ss_one (ss_for hp rfl (pi_any (se_var 3)) src_any (pg_name (i := 4) sc_refuse_strangers.nd rfl (by first | exact Or.inl rfl | exact Or.inr rfl)) tg_name
  (ss_one (ss_if (st_cmp (op_notIn2 (hu_of hr)) o2_in (se_var 4) (se_var 2) (by with_unfolding_all rfl))
  (ss_one ss_never)
  ss_nil)))))))
abbrev st_Net_next_of : Stmt := (clsBody (PySem.Challenge.pw_ringlaps_k59_whole_faithful_exactly.main.body.getD 23 (.Pass ⟨0, 0, 0, 0⟩))).getD 2 (.Pass ⟨0, 0, 0, 0⟩)
theorem sc_Net_next_of : FnScope ["self", "house"] ["self", "house"] (defScope st_Net_next_of) := ⟨rfl, rfl, rfl, by decide +kernel, rfl, by decide +kernel, by decide +kernel⟩
theorem ok_Net_next_of (T : Tp fa fn K mg) : ∃ fd, OkM P w K mg base 2 "Net" "next_of" ["self", "house"] d_Net_next_of fd ∧ Bd K fd ["self", "house"] [] := by
  obtain ⟨fd, (F : FunD K "next_of" "Net.next_of" (defArgs st_Net_next_of) (defBody st_Net_next_of) (defScope st_Net_next_of) [] [] (He.ma K (He.ga K "Net") "next_of") fd)⟩ := T.c.def_ 29 rfl
  obtain ⟨fd_check_houses, O_check_houses⟩ := ok_check_houses (P := P) (w := w) (base := base) T
  refine ⟨fd, ⟨fn_rule (b := b_Net_next_of) (n := 2) (l := 0) F sc_Net_next_of rfl rfl (fun cdv A outer s H E hr tk hp => ?_), He.cls_ok (T.c.fact 6 rfl), He.meth_ok (T.c.fact 47 rfl), by decide⟩, Bd.all (F.bindsN (ps := ["self", "house"]) (fun _ _ _ _ _ _ us hl => match us, hl with | [_, _], _ => rfl))⟩
  exact (ss_cons (ss_expr (se_callO O_check_houses (hr.mono (by decide)) (by rfl) tk (sa_cons (se_fld (ClsOk.cons (by decide) (He.cls_ok (T.c.fact 6 rfl)) (He.noat_ok (T.c.fact 9 rfl)) .nil) (se_var 0)) (sa_cons (se_lst (sa_cons (se_var 1) sa_nil)) sa_nil))))
  (ss_one (ss_ret (se_ix ix_any o2_ix (se_fld (ClsOk.cons (by decide) (He.cls_ok (T.c.fact 6 rfl)) (He.noat_ok (T.c.fact 9 rfl)) .nil) (se_var 0)) (se_var 1) (fun _ _ => rfl)))))
abbrev st_between : Stmt := PySem.Challenge.pw_ringlaps_k59_whole_faithful_exactly.main.body.getD 3 (.Pass ⟨0, 0, 0, 0⟩)
theorem sc_between : FnScope ["size", "start", "place", "end"] ["size", "start", "place", "end"] (defScope st_between) := ⟨rfl, rfl, rfl, by decide +kernel, rfl, by decide +kernel, by decide +kernel⟩
theorem ok_between (T : Tp fa fn K mg) : ∃ fd, Okk P w K mg base 2 "between" ["size", "start", "place", "end"] d_between fd := by
  obtain ⟨fd, (F : FunD K "between" "between" (defArgs st_between) (defBody st_between) (defScope st_between) [] [] (He.ga K "between") fd)⟩ := T.c.def_ 30 rfl
  obtain ⟨fd_far, O_far⟩ := ok_far (P := P) (w := w) (base := base) T
  refine ⟨fd, ⟨fn_rule (b := b_between) (n := 4) (l := 0) F sc_between rfl rfl (fun cdv A outer s H E hr tk hp => ?_), F.bindsN (ps := ["size", "start", "place", "end"]) (fun _ _ _ _ _ _ us hl => match us, hl with | [_, _, _, _], _ => rfl), T.glo "between" 48, F.kp, fun s us hl => F.bindsA (fun _ _ _ _ _ _ us hl => match us, hl with | [_, _, _, _], _ => rfl) s us hl, fun_at F⟩⟩
  exact (ss_one (ss_ret (se_cmp op_lt o2_lt (se_callO O_far (hr.mono (by decide)) (by rfl) tk (sa_cons (se_var 0) (sa_cons (se_var 1) (sa_cons (se_var 2) sa_nil)))) (se_callO O_far (hr.mono (by decide)) (by rfl) tk (sa_cons (se_var 0) (sa_cons (se_var 1) (sa_cons (se_var 3) sa_nil)))) (nomark _))))
abbrev st_is_faithful : Stmt := PySem.Challenge.pw_ringlaps_k59_whole_faithful_exactly.main.body.getD 14 (.Pass ⟨0, 0, 0, 0⟩)
theorem sc_is_faithful : FnScope ["net", "house", "target", "old"] ["net", "house", "target"] (defScope st_is_faithful) := ⟨rfl, rfl, rfl, by decide +kernel, rfl, by decide +kernel, by decide +kernel⟩
theorem ok_is_faithful (T : Tp fa fn K mg) : ∃ fd, Okk P w K mg base 4 "is_faithful" ["net", "house", "target"] d_is_faithful fd := by
  obtain ⟨fd, (F : FunD K "is_faithful" "is_faithful" (defArgs st_is_faithful) (defBody st_is_faithful) (defScope st_is_faithful) [] [] (He.ga K "is_faithful") fd)⟩ := T.c.def_ 31 rfl
  obtain ⟨fd_refuse_strangers, O_refuse_strangers⟩ := ok_refuse_strangers (P := P) (w := w) (base := base) T
  obtain ⟨fd_Net_next_of, O_Net_next_of, B_Net_next_of_0⟩ := ok_Net_next_of (P := P) (w := w) (base := base) T
  obtain ⟨fd_holds_true, O_holds_true⟩ := ok_holds_true (P := P) (w := w) (base := base) T
  obtain ⟨fd_between, O_between⟩ := ok_between (P := P) (w := w) (base := base) T
  obtain ⟨fd_far, O_far⟩ := ok_far (P := P) (w := w) (base := base) T
  refine ⟨fd, ⟨fn_rule (b := b_is_faithful) (n := 3) (l := 1) F sc_is_faithful rfl rfl (fun cdv A outer s H E hr tk hp => ?_), F.bindsN (ps := ["net", "house", "target"]) (fun _ _ _ _ _ _ us hl => match us, hl with | [_, _, _], _ => rfl), T.glo "is_faithful" 49, F.kp, fun s us hl => F.bindsA (fun _ _ _ _ _ _ us hl => match us, hl with | [_, _, _], _ => rfl) s us hl, fun_at F⟩⟩
  exact (ss_cons (ss_expr (se_callO O_refuse_strangers (hr.mono (by decide)) (by rfl) tk (sa_cons (se_var 0) (sa_cons (se_lst (sa_cons (se_tup (sa_cons (se_var 1) (sa_cons (se_var 2) sa_nil))) sa_nil)) sa_nil))))
  (ss_cons (ss_set (i := 3) sc_is_faithful.nd rfl (by first | exact Or.inl rfl | exact Or.inr rfl) (se_methO O_Net_next_of B_Net_next_of_0 Flat.nil (hr.mono (by decide)) tk (se_var 0) (sa_cons (se_var 1) sa_nil)))
  (ss_cons (ss_if (st_not (st_val (se_callO O_between (hr.mono (by decide)) (by rfl) tk (sa_cons (se_fld (ClsOk.cons (by decide) (He.cls_ok (T.c.fact 6 rfl)) (He.noat_ok (T.c.fact 7 rfl)) .nil) (se_var 0)) (sa_cons (se_var 1) (sa_cons (se_var 2) (sa_cons (se_var 3) sa_nil)))))))
  (ss_one (ss_ret se_bl))
  ss_nil)
  (ss_one (ss_ret (se_callO O_holds_true (hr.mono (by decide)) (by rfl) tk (sa_cons (se_var 0) (sa_cons (se_tup (sa_cons (se_var 2) (sa_cons (se_var 3) (sa_cons (se_callO O_far (hr.mono (by decide)) (by rfl) tk (sa_cons (se_fld (ClsOk.cons (by decide) (He.cls_ok (T.c.fact 6 rfl)) (He.noat_ok (T.c.fact 7 rfl)) .nil) (se_var 0)) (sa_cons (se_var 2) (sa_cons (se_var 3) sa_nil)))) sa_nil)))) sa_nil))))))))
noncomputable def b_law : SM := (sSeq (sSet 1 (eCall d__law_tape (eCons (eVar 0) eNil)))
  (sSeq (sSet 2 (eCall d__law_pick (eCons (eVar 1) (eCons (eD (.int 18)) eNil))))
  (sSeq (sSet 3 (eB kAdd (eD (.int 1)) (eB (kII pMod) (eCB (k1 kInt) (eCons (eVar 2) eNil)) (eD (.int 6)))))
  (sSeq (sSet 4 (eCall d__law_size (eCons (eVar 1) (eCons (eVar 3) eNil))))
  (sSeq (sSet 5 (eCall d__law_places (eCons (eVar 1) (eCons (eVar 4) (eCons (eVar 3) eNil)))))
  (sSeq (sIf (eT (eB (kII pLt) (eVar 2) (eD (.int 6))))
  (sSet 5 (eCB (k1 kSorted) (eCons (eVar 5) eNil)))
  sNil)
  (sSeq (sSet 6 (eCall d__law_nexts (eCons (eVar 1) (eCons (eVar 5) eNil))))
  (sSeq (sSet 7 (eCall d__law_behinds (eCons (eVar 1) (eCons (eVar 5) eNil))))
  (sSeq (sSet 8 (eLc (iR1 (eCons (eCall d__law_pick (eCons (eVar 1) (eCons (eD (.int 4)) eNil))) eNil)) [13] (gSet 13) mYes (eCall d__law_letter (eCons (eVar 1) (eCons (eVar 5) eNil)))))
  (sSeq (sSet 9 (eMake "Net" d_Net___init__ [] (eL [(eVar 4), (eCB (k1 kDictOf) (eCons (eVar 6) eNil)), (eCB (k1 kDictOf) (eCons (eVar 7) eNil)), (eCB (k1 kListOf) (eCons (eVar 8) eNil))])))
  (sSeq (sSet 10 (eD (.int 0)))
  (sSeq (sFor (iAny (eCB (k1 kSorted) (eCons (eVar 6) eNil))) (gSet 11)
  (sFor (iAny (eCB (k1 kSorted) (eCons (eVar 6) eNil))) (gSet 12)
  (sSeq (sSet 14 (eD (.bl false)))
  (sSeq (sIf (eT (eCall d__law_between (eCons (eVar 4) (eCons (eVar 11) (eCons (eVar 12) (eCons (eB kIx (eVar 6) (eVar 11)) eNil))))))
  (sSeq (sSet 15 (eCB (k1 kDictOf) (eCons (eVar 6) eNil)))
  (sSeq (sSetIt (eVar 15) (eVar 11) (eVar 12))
  (sSeq (sSet 14 (eCall d__law_kept (eCons (eVar 4) (eCons (eVar 6) (eCons (eVar 15) eNil)))))
  (sIf (mNot (eT (eCall d__law_held (eCons (eVar 9) (eCons (eVar 4) (eCons (eVar 6) (eCons (eVar 11) (eCons (eVar 12) (eCons (eVar 14) eNil)))))))))
  (sRet (eD (.bl false)))
  sNil))))
  sNil)
  (sSeq (sIf (mNot (eT (eCall d__law_same (eCons (eCall d_is_faithful (eCons (eVar 9) (eCons (eVar 11) (eCons (eVar 12) eNil)))) (eCons (eVar 14) eNil)))))
  (sRet (eD (.bl false)))
  sNil)
  (sSet 10 (eB kAdd (eVar 10) (eCB (k1 kInt) (eCons (eVar 14) eNil)))))))))
  (sSeq (sIf (mNot (eT (eCall d__law_same (eCons (eCall d_each_held_once (eCons (eVar 9) eNil)) (eCons (eB (kEqN false) (eVar 10) (eD (.int 0))) eNil)))))
  (sRet (eD (.bl false)))
  sNil)
  (sRet (eCall d__law_stands (eCons (eVar 9) (eCons (eVar 6) (eCons (eVar 7) (eCons (eVar 8) eNil)))))))))))))))))))
noncomputable def d_law : Den := mkDen 1 15 b_law
abbrev st_law : Stmt := PySem.Challenge.pw_ringlaps_k59_whole_faithful_exactly.main.body.getD 39 (.Pass ⟨0, 0, 0, 0⟩)
theorem sc_law : FnScope ["script", "tape", "mode", "count", "size", "places", "nexts", "behinds", "post", "net", "left", "house", "target", "k", "kept", "table"] ["script"] (defScope st_law) := ⟨rfl, rfl, rfl, by decide +kernel, rfl, by decide +kernel, by decide +kernel⟩
theorem ok_law (T : Tp fa fn K mg) : ∃ fd, Okk P w K mg base 14 "law" ["script"] d_law fd := by
  obtain ⟨fd, (F : FunD K "law" "law" (defArgs st_law) (defBody st_law) (defScope st_law) [] [] (He.ga K "law") fd)⟩ := T.c.def_ 32 rfl
  obtain ⟨fd__law_tape, O__law_tape⟩ := ok__law_tape (P := P) (w := w) (base := base) T
  obtain ⟨fd__law_pick, O__law_pick⟩ := ok__law_pick (P := P) (w := w) (base := base) T
  obtain ⟨fd__law_size, O__law_size⟩ := ok__law_size (P := P) (w := w) (base := base) T
  obtain ⟨fd__law_places, O__law_places⟩ := ok__law_places (P := P) (w := w) (base := base) T
  obtain ⟨fd__law_nexts, O__law_nexts⟩ := ok__law_nexts (P := P) (w := w) (base := base) T
  obtain ⟨fd__law_behinds, O__law_behinds⟩ := ok__law_behinds (P := P) (w := w) (base := base) T
  obtain ⟨fd_Net___init__, O_Net___init__, K_Net___init___2⟩ := ok_Net___init__ (P := P) (w := w) (base := base) T
  obtain ⟨fd__law_stands, O__law_stands⟩ := ok__law_stands (P := P) (w := w) (base := base) T
  obtain ⟨fd__law_letter, O__law_letter⟩ := ok__law_letter (P := P) (w := w) (base := base) T
  obtain ⟨fd__law_same, O__law_same⟩ := ok__law_same (P := P) (w := w) (base := base) T
  obtain ⟨fd__law_between, O__law_between⟩ := ok__law_between (P := P) (w := w) (base := base) T
  obtain ⟨fd_each_held_once, O_each_held_once⟩ := ok_each_held_once (P := P) (w := w) (base := base) T
  obtain ⟨fd__law_kept, O__law_kept⟩ := ok__law_kept (P := P) (w := w) (base := base) T
  obtain ⟨fd__law_held, O__law_held⟩ := ok__law_held (P := P) (w := w) (base := base) T
  obtain ⟨fd_is_faithful, O_is_faithful⟩ := ok_is_faithful (P := P) (w := w) (base := base) T
  refine ⟨fd, ⟨fn_rule (b := b_law) (n := 1) (l := 15) F sc_law rfl rfl (fun cdv A outer s H E hr tk hp => ?_), F.bindsN (ps := ["script"]) (fun _ _ _ _ _ _ us hl => match us, hl with | [_], _ => rfl), T.glo "law" 50, F.kp, fun s us hl => F.bindsA (fun _ _ _ _ _ _ us hl => match us, hl with | [_], _ => rfl) s us hl, fun_at F⟩⟩
  exact (ss_cons (ss_set (i := 1) sc_law.nd rfl (by first | exact Or.inl rfl | exact Or.inr rfl) (se_callO O__law_tape (hr.mono (by decide)) (by rfl) tk (sa_cons (se_var 0) sa_nil)))
  (ss_cons (ss_set (i := 2) sc_law.nd rfl (by first | exact Or.inl rfl | exact Or.inr rfl) (se_callO O__law_pick (hr.mono (by decide)) (by rfl) tk (sa_cons (se_var 1) (sa_cons se_int sa_nil))))
  (ss_cons (ss_set (i := 3) sc_law.nd rfl (by first | exact Or.inl rfl | exact Or.inr rfl) (se_bin op_add3 o2_add se_int (se_bin op_mod o2_mod (se_callTy call_int1 n_int (by rfl) (T.free "int" 0) (by decide +kernel) (sa_cons (se_var 2) sa_nil)) se_int)))
  (ss_cons (ss_set (i := 4) sc_law.nd rfl (by first | exact Or.inl rfl | exact Or.inr rfl) (se_callO O__law_size (hr.mono (by decide)) (by rfl) tk (sa_cons (se_var 1) (sa_cons (se_var 3) sa_nil))))
  (ss_cons (ss_set (i := 5) sc_law.nd rfl (by first | exact Or.inl rfl | exact Or.inr rfl) (se_callO O__law_places (hr.mono (by decide)) (by rfl) tk (sa_cons (se_var 1) (sa_cons (se_var 4) (sa_cons (se_var 3) sa_nil)))))
  (ss_cons (ss_if (st_cmp op_lt o2_lt (se_var 2) se_int (nomark _))
  (ss_one (ss_set (i := 5) sc_law.nd rfl (by first | exact Or.inl rfl | exact Or.inr rfl) (se_callB (cr_sortedAll rfl) n_sorted (by rfl) (T.free "sorted" 5) (by decide +kernel) (sa_cons (se_var 5) sa_nil))))
  ss_nil)
  (ss_cons (ss_set (i := 6) sc_law.nd rfl (by first | exact Or.inl rfl | exact Or.inr rfl) (se_callO O__law_nexts (hr.mono (by decide)) (by rfl) tk (sa_cons (se_var 1) (sa_cons (se_var 5) sa_nil))))
  (ss_cons (ss_set (i := 7) sc_law.nd rfl (by first | exact Or.inl rfl | exact Or.inr rfl) (se_callO O__law_behinds (hr.mono (by decide)) (by rfl) tk (sa_cons (se_var 1) (sa_cons (se_var 5) sa_nil))))
  (ss_cons (ss_setLc (i := 8) rfl sc_law.nd rfl rfl (sw_true (by rfl) (by rfl) (by rfl) (by rfl)) (pi_range1 (by rfl) (T.free "range" 4) (sa_cons (se_callO O__law_pick (hr.mono (by decide)) (by rfl) tk (sa_cons (se_var 1) (sa_cons se_int sa_nil))) sa_nil)) src_r1 (blkOk_by (own := [("k", 13)]) (by show blkC ["script", "tape", "mode", "count", "size", "places", "nexts", "behinds", "post", "net", "left", "house", "target", "k", "kept", "table"] (defScope st_law) _ _ = true; decide +kernel)) (fun _ _ _ _ _ => pg_name (i := 13) sc_law.nd rfl (by first | exact Or.inl rfl | exact Or.inr rfl)) (tgc_name (i := 13) (by decide)) (fun _ _ _ _ _ => sts_nil) (fun _ _ _ _ _ => (se_callO O__law_letter (hr.mono (by decide)) (by rfl) VL.takes0 (sa_cons (se_var 1) (sa_cons (se_var 5) sa_nil)))))
  (ss_cons (ss_set (i := 9) sc_law.nd rfl (by first | exact Or.inl rfl | exact Or.inr rfl) (se_makeK (fs := [(eVar 4), (eCB (k1 kDictOf) (eCons (eVar 6) eNil))]) (gs := [(eCB (k1 kDictOf) (eCons (eVar 7) eNil)), (eCB (k1 kListOf) (eCons (eVar 8) eNil))]) O_Net___init__ K_Net___init___2 (hr.mono (by decide)) (by rfl) tk (sl_cons (se_var 4) (sl_cons (se_callTy call_dictD n_dictOf (by rfl) (T.free "dict" 8) (by decide +kernel) (sa_cons (se_var 6) sa_nil)) sl_nil)) (sk_cons (se_callTy call_dictD n_dictOf (by rfl) (T.free "dict" 8) (by decide +kernel) (sa_cons (se_var 7) sa_nil)) (sk_cons (se_callTy call_list_of n_listOf (by rfl) (T.free "list" 11) (by decide +kernel) (sa_cons (se_var 8) sa_nil)) sk_nil))))
  (ss_cons (ss_set (i := 10) sc_law.nd rfl (by first | exact Or.inl rfl | exact Or.inr rfl) se_int)
  (ss_cons (ss_for hp rfl (pi_any (se_callB (cr_sortedAll rfl) n_sorted (by rfl) (T.free "sorted" 5) (by decide +kernel) (sa_cons (se_var 6) sa_nil))) src_any (pg_name (i := 11) sc_law.nd rfl (by first | exact Or.inl rfl | exact Or.inr rfl)) tg_name
  (ss_one (ss_for hp rfl (pi_any (se_callB (cr_sortedAll rfl) n_sorted (by rfl) (T.free "sorted" 5) (by decide +kernel) (sa_cons (se_var 6) sa_nil))) src_any (pg_name (i := 12) sc_law.nd rfl (by first | exact Or.inl rfl | exact Or.inr rfl)) tg_name
  (ss_cons (ss_set (i := 14) sc_law.nd rfl (by first | exact Or.inl rfl | exact Or.inr rfl) se_bl)
  (ss_cons (ss_if (st_val (se_callO O__law_between (hr.mono (by decide)) (by rfl) tk (sa_cons (se_var 4) (sa_cons (se_var 11) (sa_cons (se_var 12) (sa_cons (se_ix ix_any o2_ix (se_var 6) (se_var 11) (fun _ _ => rfl)) sa_nil))))))
  (ss_cons (ss_set (i := 15) sc_law.nd rfl (by first | exact Or.inl rfl | exact Or.inr rfl) (se_callTy call_dictD n_dictOf (by rfl) (T.free "dict" 8) (by decide +kernel) (sa_cons (se_var 6) sa_nil)))
  (ss_cons (ss_setitem (hu_of hr) (se_var 15) (se_var 11) (se_var 12))
  (ss_cons (ss_set (i := 14) sc_law.nd rfl (by first | exact Or.inl rfl | exact Or.inr rfl) (se_callO O__law_kept (hr.mono (by decide)) (by rfl) tk (sa_cons (se_var 4) (sa_cons (se_var 6) (sa_cons (se_var 15) sa_nil)))))
  (ss_one (ss_if (st_not (st_val (se_callO O__law_held (hr.mono (by decide)) (by rfl) tk (sa_cons (se_var 9) (sa_cons (se_var 4) (sa_cons (se_var 6) (sa_cons (se_var 11) (sa_cons (se_var 12) (sa_cons (se_var 14) sa_nil)))))))))
  (ss_one (ss_ret se_bl))
  ss_nil)))))
  ss_nil)
  (ss_cons (ss_if (st_not (st_val (se_callO O__law_same (hr.mono (by decide)) (by rfl) tk (sa_cons (se_callO O_is_faithful (hr.mono (by decide)) (by rfl) tk (sa_cons (se_var 9) (sa_cons (se_var 11) (sa_cons (se_var 12) sa_nil)))) (sa_cons (se_var 14) sa_nil)))))
  (ss_one (ss_ret se_bl))
  ss_nil)
  (ss_one (ss_set (i := 10) sc_law.nd rfl (by first | exact Or.inl rfl | exact Or.inr rfl) (se_bin op_add3 o2_add (se_var 10) (se_callTy call_int1 n_int (by rfl) (T.free "int" 0) (by decide +kernel) (sa_cons (se_var 14) sa_nil)))))))))))
  (ss_cons (ss_if (st_not (st_val (se_callO O__law_same (hr.mono (by decide)) (by rfl) tk (sa_cons (se_callO O_each_held_once (hr.mono (by decide)) (by rfl) tk (sa_cons (se_var 9) sa_nil)) (sa_cons (se_cmp (op_eq3 hr.units) o2_eq (se_var 10) se_int (nomark _)) sa_nil)))))
  (ss_one (ss_ret se_bl))
  ss_nil)
  (ss_one (ss_ret (se_callO O__law_stands (hr.mono (by decide)) (by rfl) tk (sa_cons (se_var 9) (sa_cons (se_var 6) (sa_cons (se_var 7) (sa_cons (se_var 8) sa_nil))))))))))))))))))))
end
end Lk59
set_option maxRecDepth 100000
set_option maxHeartbeats 4000000
namespace Lk59
open PySem PySem.Spec L2 VL
open PyProof.Rows hiding St
local macro_rules | `(tactic| wtm_at "vl") => `(tactic| first
  | with_reducible refine v_seq ?_
  | with_reducible refine v_k_next ?_
  | with_reducible refine v_k_ret ?_
  | with_reducible refine v_k_brk ?_
  | with_reducible refine v_k_cont ?_
  | with_reducible refine v_set ?_
  | with_reducible refine v_if ?_
  | with_reducible refine v_ret ?_
  | with_reducible refine v_retN ?_
  | with_reducible refine v_nil ?_
  | with_reducible refine v_brk ?_
  | with_reducible refine v_cont ?_
  | with_reducible refine v_e ?_
  | with_reducible refine v_it ?_
  | with_reducible refine v_aug ?_
  | (with_reducible refine v_sl_val ?_; try dsimp only [List.set, FS.setE, C.toD])
  | (with_reducible refine v_sl_tmp ?h ?q; (case h => with_unfolding_all exact Nat.le_of_ble_eq_true rfl); (case' q => try dsimp only [List.set, FS.setE, C.toD]))
  | (with_reducible refine v_sl_pc ?_; try dsimp only [List.set, FS.setE, C.toD])
  | (with_reducible refine v_sl_ic ?_; try dsimp only [List.set, FS.setE, C.toD])
  | (with_reducible refine' w_var_val ?h0 ?q; (case h0 => with_unfolding_all rfl))
  | (with_reducible refine' w_var_own ?h0 ?q; (case h0 => with_unfolding_all rfl))
  | (with_reducible refine' w_var_pc ?h0 ?q; (case h0 => with_unfolding_all rfl))
  | (with_reducible refine' w_var_lck ?h0 ?q; (case h0 => with_unfolding_all rfl))
  | (with_reducible refine' w_var_ic ?h0 ?q; (case h0 => with_unfolding_all rfl))
  | with_reducible refine w_d ?_
  | with_reducible refine w_bin ?_
  | with_reducible refine w_cons ?_
  | with_reducible refine w_nil ?_
  | with_reducible refine w_T ?_
  | with_reducible refine w_asB ?_
  | with_reducible refine w_add ?_
  | with_reducible refine w_sub ?_
  | with_reducible refine w_lt ?_
  | with_reducible refine w_le ?_
  | with_reducible refine w_gt ?_
  | with_reducible refine w_ge ?_
  | with_reducible refine w_eqi ?_
  | with_reducible refine w_nei ?_
  | with_reducible refine w_mod ?_ ?_
  | with_reducible refine w_div ?_ ?_ ?_
  | with_reducible refine w_pow (by decide) ?_
  | with_reducible refine w_mul ?_ ?_
  | with_reducible refine w_addI ?_
  | with_reducible refine w_max ?_
  | with_reducible refine w_min ?_
  | with_reducible refine w_un ?_
  | with_reducible refine w_neg ?_
  | (with_reducible refine' w_ixl ?h0 ?h1 ?q; (case h0 => with_unfolding_all rfl); (case h1 => with_unfolding_all rfl))
  | (with_reducible refine' w_ixl ?h ?h2 ?q; (case h => with_unfolding_all rfl); (case' h2 => with_reducible refine atI_ints ?_ ?_))
  | (with_reducible refine' w_ixt ?h0 ?q; (case h0 => with_unfolding_all rfl))
  | with_reducible refine w_mand ?_
  | with_reducible refine w_mor ?_
  | with_reducible refine w_mnot ?_
  | with_reducible refine w_yes ?_
  | with_reducible refine w_eand ?_
  | with_reducible refine w_eor ?_
  | with_reducible refine w_enot ?_
  | with_reducible refine w_eif ?_
  | with_reducible refine w_ch ?_
  | with_reducible refine w_lst ?_
  | with_reducible refine w_tup ?_
  | with_reducible refine w_dict0 ?_
  | with_reducible refine w_cb ?_
  | with_reducible refine w_k1 ?_
  | with_reducible refine w_k2 ?_
  | with_reducible refine w_abs ?_
  | with_reducible refine w_int ?_
  | with_reducible refine w_intb ?_
  | (with_reducible refine' w_lenl ?h0 ?q; (case h0 => with_unfolding_all rfl))
  | with_reducible refine w_lent ?_
  | with_reducible refine w_isT ?_
  | with_reducible refine w_eCall ?_
  | with_reducible refine w_eqb ?_
  | with_reducible refine w_eqs ?_
  | with_reducible refine i_true ?_
  | with_reducible refine i_false ?_
  | with_reducible refine i_not ?_
  | with_reducible refine i_dec (fun _ => ?_) (fun _ => ?_)
  | with_reducible refine f_next ?_
  | with_reducible refine f_val ?_
  | with_reducible refine f_tmp ?_
  | with_reducible refine f_pc ?_
  | (with_reducible refine' f_var ?h0 ?q; (case h0 => with_unfolding_all rfl))
  | (with_reducible refine' i_lt ?h0 ?q; (case h0 => with_unfolding_all rfl))
  | (with_reducible refine' i_lf ?h0 ?q; (case h0 => with_unfolding_all rfl))
  | (with_reducible refine' x_it ?h ?h2 ?q; (case h => with_unfolding_all rfl); (case h2 => (with_reducible refine' setItem_lst ?a ?b ?c; (case a => with_unfolding_all rfl); (case b => with_unfolding_all rfl); (case c => with_unfolding_all rfl))); (case' q => try dsimp only [List.set, FS.setE, C.toD, Int.reduceToNat]))
  | (with_reducible refine' x_frz ?h0 ?h1 ?q; (case h0 => with_unfolding_all rfl); (case h1 => with_unfolding_all rfl); (case' q => try dsimp only [List.set, FS.setE, C.toD]))
  | (with_reducible refine' x_call ?h0 ?h1 ?q; (case h0 => with_unfolding_all rfl); (case h1 => with_unfolding_all rfl); (case' q => try dsimp only [List.set, FS.setE, C.toD]))
  | (with_reducible refine' x_back ?h0 ?q; (case h0 => with_unfolding_all rfl); (case' q => try dsimp only [List.set, FS.setE, C.toD]))
  | (with_reducible refine' x_ty ?h0 ?q; (case h0 => with_unfolding_all rfl))
  | (with_reducible refine' x_frz1 ?h0 ?q; (case h0 => with_unfolding_all rfl); (case' q => try dsimp only [List.set, FS.setE, C.toD]))
  | with_reducible refine x_r1 ⟨?_, ?_⟩ ?_
  | with_reducible refine x_r2 ⟨?_, ?_, ?_, ?_⟩ ?_
  | with_reducible refine w_m ?_
  | (with_reducible refine' x_has ?h0 ?q; (case h0 => with_unfolding_all rfl))
  | (with_reducible refine' w_app ?h ?h1 ?h2 ?h3 ?h4 ?q; (case h => with_unfolding_all rfl); (case h1 => with_unfolding_all rfl); (case h3 => rfl); (case h4 => with_unfolding_all rfl); (case' q => try dsimp only [List.set, FS.setE, C.toD]))
  | with_reducible refine w_isT ?_
  | (with_reducible refine' w_is ?h0 ?q; (case h0 => with_unfolding_all rfl))
  | (with_reducible refine' w_call ?h0 ?q; (case h0 => with_unfolding_all rfl); (case' q => try dsimp only [List.nil_append, List.cons_append, List.length_nil, List.length_cons, Nat.reduceAdd]))
  | (with_reducible refine' w_listOf ?h0 ?q; (case h0 => with_unfolding_all rfl))
  | (with_reducible refine' w_tupOf ?h0 ?q; (case h0 => with_unfolding_all rfl))
  | (with_reducible show @LE.le Int _ _ _; omega)
  | (with_reducible show @LT.lt Int _ _ _; omega)
  | fail)
local macro_rules | `(tactic| wtm_at "vl") => `(tactic| first
  | with_reducible refine pick_w (by assumption) ?_ ?_ (fun _ _ _ _ _ => ?_)
  | with_reducible refine size_w (by assumption) ?_ (fun _ _ _ _ _ _ => ?_)
  | with_reducible refine wide_w (by assumption) ?_ (fun _ _ _ _ _ => ?_)
  | with_reducible refine place_w (by assumption) ?_ (fun _ _ _ _ _ => ?_)
  | with_reducible refine near_w (by assumption) ?_ ?_ ?_ (fun _ _ _ _ _ => ?_)
  | with_reducible refine circle_w (by assumption) ?_ (fun _ _ _ _ _ _ => ?_)
  | with_reducible refine tape_w (by assumption) (fun _ _ => ?_)
  | with_reducible refine far_w ?_ ?_)
local macro_rules | `(tactic| wtm_at "gk") => `(tactic| first | with_unfolding_all assumption | with_unfolding_all rfl | exact g_app | (apply g_set; wtm_at "gk") | (apply g_appL; wtm_at "gk") | (apply g_ne; (first | assumption | omega); wtm_at "gk"))
local macro_rules | `(tactic| wtm_at "vl") => `(tactic| first
  | (with_reducible refine' i_st ?h0 ?q; (case h0 => decide +kernel))
  | (with_reducible refine' i_sf ?h0 ?q; (case h0 => decide +kernel))
  | (with_reducible refine l_next ?_; try dsimp only)
  | (with_reducible refine l_cont ?_; try dsimp only)
  | with_reducible refine l_brk ?_
  | with_reducible refine l_ret ?_
  | with_reducible refine w_fld ?_
  | (with_reducible refine' x_fld ?h0 ?h1 ?h2 ?q; (case h0 => wtm_at "gk"); (case h1 => with_unfolding_all first | exact List.mem_cons_self | exact List.mem_cons_of_mem _ List.mem_cons_self); (case h2 => with_unfolding_all rfl); (case' q => try dsimp only [fldR]))
  | with_reducible refine w_meth ?_
  | (with_reducible refine' x_meth ?h0 ?h1 ?h2 ?q; (case h0 => wtm_at "gk"); (case h1 => with_unfolding_all rfl); (case h2 => with_unfolding_all rfl); (case' q => try dsimp only [List.map_nil, List.map_cons, List.append_nil, List.cons_append, List.nil_append]))
  | (with_reducible refine w_make ?_; try dsimp only [List.map_nil, List.map_cons, List.append_nil, List.cons_append, List.nil_append, List.length_nil, List.length_cons, Nat.reduceAdd])
  | with_reducible refine m_mk ?_
  | with_reducible refine w_eLc ?_
  | with_reducible refine w_eLn ?_
  | with_reducible refine v_fld ?_
  | (with_reducible refine' x_stf ?h0 ?h1 ?h2 ?q; (case h0 => wtm_at "gk"); (case h1 => with_unfolding_all first | exact List.mem_cons_self | exact List.mem_cons_of_mem _ List.mem_cons_self); (case h2 => first | (with_reducible refine' storeF_val ?a ?b; (case a => wtm_at "gk"); (case b => with_unfolding_all rfl)) | (with_reducible refine' storeF_tmp ?a ?b; (case a => wtm_at "gk"); (case b => with_unfolding_all rfl))); (case' q => try dsimp only [List.set]; try simp only [List.set_set]))
  | with_reducible refine w_box ?_
  | (with_reducible refine x_boxed ?_)
  | (with_reducible refine w_callD ?_; try dsimp only [List.map_nil, List.map_cons, List.append_nil, List.cons_append, List.nil_append])
  | (with_reducible refine' w_app ?h ?h1 ?h2 ?h3 ?h4 ?q; (case h => with_unfolding_all rfl); (case h1 => with_unfolding_all rfl); (case h3 => with_unfolding_all rfl); (case h4 => with_unfolding_all rfl); (case h2 => with_unfolding_all exact Nat.le_of_ble_eq_true rfl); (case' q => try dsimp only [List.set, FS.setE, C.toD, List.nil_append, List.cons_append]))
  | (with_reducible refine' w_app ?h ?h1 ?h2 ?h3 ?h4 ?q; (case h => with_unfolding_all rfl); (case h1 => with_unfolding_all rfl); (case h3 => with_unfolding_all rfl); (case h4 => with_unfolding_all rfl); (case' q => try dsimp only [List.set, FS.setE, C.toD, List.nil_append, List.cons_append]))
  | with_reducible refine v_par ?_
  | with_reducible refine v_tupA ?_
  | with_reducible refine w_dm1 ?_
  | with_reducible refine w_dm2 ?_
  | (with_reducible refine' w_ixb ?h0 ?h1 ?q; (case h0 => wtm_at "gk"); (case h1 => with_unfolding_all rfl))
  | (with_reducible refine' w_lenb ?h0 ?q; (case h0 => wtm_at "gk"))
  | (with_reducible refine' x_itb ?h0 ?h1 ?h2 ?q; (case h0 => with_unfolding_all rfl); (case h1 => wtm_at "gk"); (case h2 => with_unfolding_all rfl); (case' q => try dsimp only [List.set, FS.setE, C.toD, Int.reduceToNat]; try simp only [List.set_set]))
  | fail)
local macro_rules | `(tactic| wtm_at "vl") => `(tactic| first
  | with_reducible refine between_w ?_ ?_
  | with_reducible refine lfar_w ?_ ?_
  | with_reducible refine lbetween_w ?_ ?_
  | with_reducible refine places_w (by assumption) ?_ ?_ ?_ ?_ (fun _ _ _ _ _ _ => ?_)
  | fail)
local macro_rules | `(tactic| wtm_at "ck") => `(tactic| first
  | with_unfolding_all rfl
  | (with_unfolding_all refine' cont_ic ?a ?b; (case a => wtm_at "gk"); (case b => with_unfolding_all rfl))
  | (with_unfolding_all refine' cont_box ?a; (case a => wtm_at "gk"))
  | (with_unfolding_all refine' Hold.cont ?a; (case a => with_unfolding_all assumption)))
local macro_rules | `(tactic| wtm_at "pk") => `(tactic| first
  | with_unfolding_all rfl
  | (with_unfolding_all refine' put_ic ?a ?b ?c; (case a => wtm_at "gk"); (case b => with_unfolding_all rfl); (case c => exact fun _ z => nomatch z))
  | (with_unfolding_all refine' put_box ?a ?c; (case a => wtm_at "gk"); (case c => exact fun _ z => nomatch z)))
local macro_rules | `(tactic| wtm_at "vl") => `(tactic| first
  | (with_reducible refine' c_ixd ?h0 ?h1 ?q; (case h0 => wtm_at "ck"); (case' q => try dsimp only [nxF, bfF]))
  | (with_reducible refine' c_ixl ?h0 ?h1 ?q; (case h0 => wtm_at "ck"); (case h1 => first | with_unfolding_all rfl | assumption))
  | (with_reducible refine' c_len ?h0 ?q; (case h0 => wtm_at "ck"))
  | (with_reducible refine' c_lend ?h0 ?q; (case h0 => wtm_at "ck"))
  | (with_reducible refine' c_in ?h0 ?q; (case h0 => wtm_at "ck"))
  | (with_reducible refine' c_sorted ?h0 ?h1 ?q; (case h0 => wtm_at "ck"))
  | (with_reducible refine' c_get1 ?h0 ?q; (case h0 => wtm_at "ck"))
  | (with_reducible refine' c_dictOf ?h0 ?q; (case h0 => wtm_at "ck"))
  | (with_reducible refine' c_listOf ?h0 ?q; (case h0 => wtm_at "ck"))
  | (with_reducible refine' c_tupOf ?h0 ?q; (case h0 => wtm_at "ck"))
  | (with_reducible refine c_dm1 ?_)
  | (with_reducible refine' x_contD ?h0 ?q; (case h0 => wtm_at "ck"))
  | (with_reducible refine' c_app ?h ?h1 ?h2 ?h3 ?h4 ?q; (case h => with_unfolding_all rfl); (case h1 => wtm_at "ck"); (case h3 => with_unfolding_all rfl); (case h4 => wtm_at "pk"); (case' q => try dsimp only [List.set, FS.setE, C.toD, List.nil_append, List.cons_append]; try simp only [List.set_set]))
  | (with_reducible refine' x_hasL ?h0 ?q; (case h0 => wtm_at "ck"))
  | (with_reducible refine' c_setdM ?h0 ?h1 ?h2 ?h3 ?h4 ?q; (case h0 => with_unfolding_all rfl); (case h1 => wtm_at "ck"); (case h4 => wtm_at "pk"); (case' q => try dsimp only [List.set, FS.setE, C.toD, List.nil_append, List.cons_append]; try simp only [List.set_set]))
  | (with_reducible refine' w_varA ?ha ?h0 ?q; (case h0 => with_unfolding_all rfl); (case ha => assumption))
  | fail)
local macro_rules | `(tactic| wtm_at "vl") => `(tactic| first
  | with_reducible refine cplace_w ?_ ?_
  | (with_reducible refine' chouses1_w ?h0 ?h1 ?q; (case h0 => wtm_at "gk"))
  | (with_reducible refine' chouses2_w ?h0 ?h1 ?h2 ?q; (case h0 => wtm_at "gk"))
  | (with_reducible refine' nlose_w ?h ?h0 ?h1 ?h2 ?q; (case h0 => wtm_at "gk"); (case h => assumption); (case h1 => assumption); (case h2 => assumption))
  | (with_reducible refine' nread_w ?h ?h0 ?h1 ?h2 ?q; (case h0 => wtm_at "gk"); (case h => assumption); (case h1 => assumption); (case h2 => assumption))
  | (with_reducible refine' nrepeat_w ?h ?h0 ?h1 ?h2 ?q; (case h0 => wtm_at "gk"); (case h => assumption); (case h1 => assumption); (case h2 => assumption))
  | (with_reducible refine' ntell_w ?h ?h0 ?h1 ?q; (case h0 => wtm_at "gk"); (case h => assumption))
  | (with_reducible refine' nask_w ?h ?h0 ?h1 ?q; (case h0 => wtm_at "gk"); (case h => assumption))
  | (with_reducible refine' nhold_w ?h ?h0 ?h1 ?h2 ?q; (case h0 => wtm_at "gk"); (case h => assumption))
  | (with_reducible refine' nletters_w ?h0 ?q; (case h0 => wtm_at "gk"))
  | fail)
local macro_rules | `(tactic| wtm_at "vl") => `(tactic| first
  | (with_reducible refine lp_next ?_; try dsimp only)
  | (with_reducible refine lp_cont ?_; try dsimp only)
  | with_reducible refine lp_brk ?_
  | with_reducible refine lp_ret ?_
  | (with_reducible refine' c_inY ?h0 ?h1 ?q; (case h0 => wtm_at "ck"); (case h1 => assumption))
  | (with_reducible refine' c_inN ?h0 ?h1 ?q; (case h0 => wtm_at "ck"); (case h1 => assumption))
  | (with_reducible refine' c_ixdE ?h0 ?h1 ?h2 ?q; (case h0 => wtm_at "ck"); (case h1 => assumption); (case h2 => assumption))
  | (with_reducible refine' c_get1E ?h0 ?h1 ?q; (case h0 => wtm_at "ck"); (case h1 => assumption))
  | (with_reducible refine' c_popAt ?h0 ?h1 ?h2 ?h3 ?h4 ?q; (case h0 => wtm_at "ck"); (case h2 => assumption); (case h3 => assumption); (case h4 => wtm_at "pk"); (case' h1 => try assumption); (case' q => try dsimp only [List.set, FS.setE, C.toD]; try simp only [List.set_set]))
  | (with_reducible refine' c_sorted ?h0 ?h1 ?q; (case h0 => wtm_at "ck"); (case h1 => assumption))
  | (with_reducible refine' c_setdM ?h0 ?h1 ?h2 ?h3 ?h4 ?q; (case h0 => with_unfolding_all rfl); (case h1 => wtm_at "ck"); (case h2 => assumption); (case h4 => wtm_at "pk"); (case h3 => first | assumption | omega); (case' q => try dsimp only [List.set, FS.setE, C.toD, List.nil_append, List.cons_append]; try simp only [List.set_set]))
  | (with_reducible refine' c_setdN ?h0 ?h1 ?h2 ?h3 ?h4 ?q; (case h0 => with_unfolding_all rfl); (case h1 => wtm_at "ck"); (case h2 => assumption); (case h4 => wtm_at "pk"); (case h3 => first | assumption | omega); (case' q => try dsimp only [List.set, FS.setE, C.toD, List.nil_append, List.cons_append]; try simp only [List.set_set]))
  | (with_reducible refine' c_ixdL ?h0 ?h1 ?q; (case h0 => wtm_at "ck"); (case h1 => first | assumption | skip); (case' q => try dsimp only [nxF, bfF]))
  | (with_reducible refine' w_sortI ?h0 ?q; (case h0 => with_unfolding_all rfl))
  | (with_reducible refine same_vv ?_ ?_ ?_)
  | (with_reducible refine' same_01 ?h0 ?h1 ?h2 ?q; (case h0 => with_unfolding_all rfl))
  | (with_reducible refine' same_v0 ?h0 ?h2 ?q; (case h0 => with_unfolding_all rfl))
  | (with_reducible refine' same_0v ?h0 ?h2 ?q; (case h0 => with_unfolding_all rfl))
  | (with_reducible refine' w_eqL ?h0 ?h1 ?h2 ?h3 ?q; (case h0 => with_unfolding_all rfl); (case h1 => with_unfolding_all rfl); (case h2 => with_unfolding_all (intro _ z; cases z)); (case h3 => with_unfolding_all (intro _ z; cases z)))
  | fail)
local macro_rules | `(tactic| wtm_at "vl") => `(tactic| first
  | (with_reducible refine' c_lenM ?h0 ?q; (case h0 => wtm_at "ck"))
  | fail)
local macro_rules | `(tactic| wtm_at "gk") => `(tactic| first | with_reducible assumption | with_unfolding_all rfl | exact g_app | (with_reducible apply g_set; wtm_at "gk") | (with_reducible apply g_appL; wtm_at "gk") | (with_reducible apply g_ne; (first | assumption | omega); wtm_at "gk"))
local macro_rules | `(tactic| wtm_at "ck") => `(tactic| first
  | with_unfolding_all rfl
  | (with_reducible refine' cont_ic ?a ?b; (case a => wtm_at "gk"); (case b => with_unfolding_all rfl))
  | (with_reducible refine' cont_box ?a; (case a => wtm_at "gk"))
  | (with_reducible refine' Hold.cont ?a; (case a => with_reducible assumption)))
local macro_rules | `(tactic| wtm_at "vl") => `(tactic| first
  | (with_reducible refine' c_slHi ?h0 ?h1 ?q; (case h0 => wtm_at "ck"); (case h1 => first | assumption | omega))
  | (with_reducible refine' c_slLo ?h0 ?h1 ?q; (case h0 => wtm_at "ck"); (case h1 => first | assumption | omega))
  | fail)
local macro_rules | `(tactic| wtm_at "vl") => `(tactic| first
  | (with_reducible refine' nnexts_w ?h ?h0 ?q; (case h0 => wtm_at "gk"); (case h => assumption))
  | (with_reducible refine' nbefores_w ?h ?h0 ?q; (case h0 => wtm_at "gk"); (case h => assumption))
  | (with_reducible refine' nclone_w ?h ?h0 ?q; (case h0 => wtm_at "gk"); (case h => assumption))
  | (with_reducible refine' sayings_w ?h ?h0 ?q; (case h0 => wtm_at "gk"); (case h => assumption))
  | (with_reducible refine' nsnap_w ?h ?h0 ?q; (case h0 => wtm_at "gk"); (case h => assumption))
  | (with_reducible refine' nadmit_w ?h ?h0 ?h1 ?h2 ?h3 ?q; (case h0 => wtm_at "gk"); (case h => assumption); (case h2 => assumption); (case' h1 => try assumption); (case' h3 => try assumption))
  | (with_reducible refine' nsetb_w ?h ?h0 ?h1 ?h2 ?q; (case h0 => wtm_at "gk"); (case h => assumption); (case' h1 => try assumption); (case' h2 => try assumption))
  | (with_reducible refine' nsetbN_w ?h ?h0 ?h1 ?q; (case h0 => wtm_at "gk"); (case h => assumption); (case' h1 => try assumption))
  | (with_reducible refine' nhold_w ?h ?h0 ?h1 ?h2 ?q; (case h0 => wtm_at "gk"); (case h => assumption); (case' h1 => try assumption); (case' h2 => try assumption))
  | (with_reducible refine' ntell_w ?h ?h0 ?h1 ?q; (case h0 => wtm_at "gk"); (case h => assumption); (case' h1 => try assumption))
  | (with_reducible refine' nask_w ?h ?h0 ?h1 ?q; (case h0 => wtm_at "gk"); (case h => assumption); (case' h1 => try assumption))
  | with_reducible refine i_decX (fun _ => ?_) (fun _ => ?_)
  | with_reducible refine i_decF (fun _ => ?_) (fun _ => ?_)
  | (with_reducible refine' c_setdM ?h0 ?h1 ?h2 ?h3 ?h4 ?q; (case h0 => with_unfolding_all rfl); (case h1 => wtm_at "ck"); (case h2 => assumption); (case h4 => wtm_at "pk"); (case h3 => first | assumption | omega); (case' q => try dsimp only [List.set, FS.setE, C.toD, List.nil_append, List.cons_append]; try simp only [List.set_set]))
  | (with_reducible refine' c_setdN ?h0 ?h1 ?h2 ?h3 ?h4 ?q; (case h0 => with_unfolding_all rfl); (case h1 => wtm_at "ck"); (case h2 => assumption); (case h4 => wtm_at "pk"); (case h3 => first | assumption | omega); (case' q => try dsimp only [List.set, FS.setE, C.toD, List.nil_append, List.cons_append]; try simp only [List.set_set]))
  | (with_reducible refine' c_setd ?h0 ?h1 ?h2 ?h3 ?q; (case h0 => with_unfolding_all rfl); (case h1 => wtm_at "ck"); (case h3 => wtm_at "pk"); (case h2 => first | assumption | omega); (case' q => try dsimp only [List.set, FS.setE, C.toD, List.nil_append, List.cons_append]; try simp only [List.set_set]))
  | (with_reducible refine' lread_e ?h ?b ?h0 ?h1 ?q; (case h => assumption); (case b => assumption); (case h0 => assumption); (case h1 => assumption))
  | (with_reducible refine' lsays_e ?h ?b ?q; (case h => assumption); (case b => assumption))
  | (with_reducible refine' lsnap_e ?h ?b ?q; (case h => assumption); (case b => assumption))
  | (with_reducible refine' lstands_e ?h ?b ?h0 ?q; (case h => assumption); (case b => assumption); (case h0 => wtm_at "gk"))
  | fail)
local macro_rules | `(tactic| wtm_at "vl") => `(tactic| first
  | with_reducible refine v_seq ?_
  | with_reducible refine v_k_next ?_
  | with_reducible refine v_set ?_
  | (with_reducible refine v_sl_val ?_; try dsimp only [List.set, FS.setE, C.toD])
  | (with_reducible refine v_sl_tmp ?h ?q; (case h => with_unfolding_all exact Nat.le_of_ble_eq_true rfl); (case' q => try dsimp only [List.set, FS.setE, C.toD]))
  | (with_reducible refine' w_var_val ?h0 ?q; (case h0 => with_unfolding_all rfl))
  | with_reducible refine w_cons ?_
  | with_reducible refine w_nil ?_
  | with_reducible refine w_bin ?_
  | with_reducible refine w_d ?_
  | with_reducible refine w_T ?_
  | with_reducible refine w_asB ?_
  | with_reducible refine v_if ?_
  | (with_reducible refine' w_var_own ?h0 ?q; (case h0 => with_unfolding_all rfl))
  | (with_reducible refine' w_var_pc ?h0 ?q; (case h0 => with_unfolding_all rfl))
  | with_reducible refine w_eCall ?_
  | (with_reducible refine' w_call ?h0 ?q; (case h0 => with_unfolding_all rfl); (case' q => try dsimp only [List.nil_append, List.cons_append, List.length_nil, List.length_cons, Nat.reduceAdd]))
  | with_reducible refine w_cb ?_
  | with_reducible refine w_k1 ?_
  | with_reducible refine i_dec (fun _ => ?_) (fun _ => ?_)
  | with_reducible refine w_eqi ?_
  | with_reducible refine w_lt ?_
  | with_reducible refine w_gt ?_
  | with_reducible refine w_ge ?_
  | with_reducible refine w_le ?_
  | with_reducible refine w_add ?_
  | with_reducible refine w_sub ?_
  | with_reducible refine w_mand ?_
  | with_reducible refine w_mor ?_
  | with_reducible refine w_mnot ?_
  | with_reducible refine i_not ?_
  | with_reducible refine v_it ?_
  | with_reducible refine w_fld ?_
  | with_reducible refine w_eqs ?_
  | with_reducible refine w_un ?_
  | with_reducible refine w_tup ?_
  | (with_reducible refine' x_frz ?h0 ?h1 ?q; (case h0 => with_unfolding_all rfl); (case h1 => with_unfolding_all rfl); (case' q => try dsimp only [List.set, FS.setE, C.toD]))
  | with_reducible refine i_true ?_
  | with_reducible refine i_false ?_
  | with_reducible refine w_m ?_
  | with_reducible refine v_e ?_
  | (with_reducible refine' w_is ?h0 ?q; (case h0 => with_unfolding_all rfl))
  | (with_reducible refine' w_ixt ?h0 ?q; (case h0 => with_unfolding_all rfl))
  | with_reducible refine w_meth ?_
  | with_reducible refine v_ret ?_
  | with_reducible refine f_val ?_
  | with_reducible refine f_tmp ?_
  | with_reducible refine v_nil ?_
  | (with_reducible refine lp_next ?_; try dsimp only)
  | with_reducible refine v_k_ret ?_
  | (with_reducible refine v_sl_pc ?_; try dsimp only [List.set, FS.setE, C.toD])
  | with_reducible refine w_isT ?_
  | with_reducible refine w_isT ?_
  | (with_reducible refine' w_listOf ?h0 ?q; (case h0 => with_unfolding_all rfl))
  | (with_reducible refine' x_call ?h0 ?h1 ?q; (case h0 => with_unfolding_all rfl); (case h1 => with_unfolding_all rfl); (case' q => try dsimp only [List.set, FS.setE, C.toD]))
  | fail)
/-- a net of drawn tables -/
theorem mkN {n : Int} {ps kb : List Int} {nx : Int → Int} {bf : Int → Option Int} {ls : List Lt} (hn : 0 < n) (hpn : ps.Nodup) (hpl : ps.length < 64) (hpr : ∀ p ∈ ps, 0 ≤ p ∧ p < n) (hnx : ∀ p ∈ ps, nx p ∈ ps)
    (hk1 : kb.Nodup) (hk2 : ∀ p ∈ kb, p ∈ ps ∧ ∃ v, bf p = some v ∧ v ∈ ps) (hlp : ∀ l ∈ ls, ∀ p ∈ l.ps, p ∈ ps) (hll : ls.length ≤ 100000) :
    ∃ N : Nt, N.n = n ∧ N.ks = ps ∧ N.nx = nx ∧ N.ls = ls ∧ fT kb (bfF bf) = fT kb (bfF N.bf) ∧ NtOk N ∧ Bh N kb ∧ netI ⟨n, ps, nx, fun h => if h ∈ kb then bf h else none, ls⟩ = netI N := by
  have hbf : ∀ h ∈ ps, ∀ b, (if h ∈ kb then bf h else none) = some b → b ∈ ps := fun h hh b hb => by
    split at hb
    · rename_i hk
      obtain ⟨_, v, hv, hvp⟩ := hk2 h hk
      rw [hv] at hb; cases hb; exact hvp
    · cases hb
  refine ⟨⟨n, ps, nx, fun h => if h ∈ kb then bf h else none, ls⟩, rfl, rfl, rfl, rfl, fT_congr fun x hx => ?_, ⟨hn, hpn, hpl, hpr, hnx, hbf, hlp, hll⟩, ⟨hk1, fun h hh => (hk2 h hh).1, fun h _ h2 => ?_⟩, rfl⟩
  · show optD (bf x) = optD (if x ∈ kb then bf x else none)
    rw [if_pos hx]
  · have h2' : (if h ∈ kb then bf h else none).isSome = true := h2
    by_cases e : h ∈ kb
    · exact e
    · rw [if_neg e] at h2'; exact absurd h2' Bool.false_ne_true
theorem lkept_w {n : Int} {ts : List Int} {nx nx' : Int → Int} {g : List Inst} {Q X} (hn : 0 < n) (hd : ts.Nodup) (hl : ts.length < 64) (hx : ∀ x ∈ ts, nx x ∈ ts) (hx' : ∀ x ∈ ts, nx' x ∈ ts)
    (q : ∀ r : Bool, (r = true ↔ ∀ h ∈ ts, ∀ k, k < 2 * ts.length → Tr n nx' (h, it nx (k + 1) h, ln n nx (k + 1) h)) → Q (.val (.bl r)) [.dct (fT ts (nxF nx)), .dct (fT ts (nxF nx'))] g) :
    wpD (d__law_kept [.val (.int n), .pc 0, .pc 1] [.dct (fT ts (nxF nx)), .dct (fT ts (nxF nx'))] g) Q X := by
  unfold d__law_kept
  with_reducible refine v_den ?ha ?_
  case ha => rfl
  unfold b__law_kept
  simp only [List.map_cons, List.map_nil, List.replicate, argS, List.cons_append, List.nil_append]
  have hz : sizeLine = 16777216 := rfl
  have q' : ∀ (h : Int) (k : Nat), h ∈ ts → k < 2 * ts.length → ¬ Tr n nx' (h, it nx (k + 1) h, ln n nx (k + 1) h) → Q (.val (.bl false)) [.dct (fT ts (nxF nx)), .dct (fT ts (nxF nx'))] g := fun h k h1 h2 h3 =>
    q false ⟨(fun z => nomatch z), fun z => absurd (z h h1 k h2) h3⟩
  repeat' first
    | with_reducible refine v_stopFor ?_
    | wtm_at "vl"
  with_reducible refine v_cutRS (fun s => ∃ z1 z2 z3 z4 z5 z6 z7 : S, (∀ h ∈ ts, ∀ k, k < 2 * ts.length → Tr n nx' (h, it nx (k + 1) h, ln n nx (k + 1) h)) ∧ s = ⟨[.val (.int n), .pc 0, .pc 1, z1, z2, z3, z4, z5, z6, z7], [.dct (fT ts (nxF nx)), .dct (fT ts (nxF nx'))], g⟩) ?_ ?_
  · with_reducible refine v_forL D.int ?_
    repeat' wtm_at "vl"
    refine ⟨sortI ts, .inl rfl, fun dn s => ∃ z1 z2 z3 z4 z5 z6 z7 : S, (∀ h ∈ dn, ∀ k, k < 2 * ts.length → Tr n nx' (h, it nx (k + 1) h, ln n nx (k + 1) h)) ∧ s = ⟨[.val (.int n), .pc 0, .pc 1, z1, z2, z3, z4, z5, z6, z7], [.dct (fT ts (nxF nx)), .dct (fT ts (nxF nx'))], g⟩, ⟨_, _, _, _, _, _, _, (fun h hh => nomatch hh), rfl⟩, ?_, ?_⟩
    · intro dn h td hdd s ⟨z1, z2, z3, z4, z5, z6, z7, hdn, e⟩
      subst e
      refine ⟨_, rfl, ?_⟩
      dsimp only [FS.setE, List.set]
      have hh : h ∈ ts := sortI_mem.mp (by rw [hdd]; simp)
      repeat' first
        | with_reducible refine v_stopFor1 ?_
        | wtm_at "vl"
      with_reducible refine v_goS ?_
      with_reducible refine v_forR ?_
      repeat' wtm_at "vl"
      · exact .inl (by decide)
      refine ⟨fun k s => ∃ (j : Nat) (z6 z7 : S), it nx' j h = it nx k h ∧ ln n nx' j h = ln n nx k h ∧ (∀ i, i < k → Tr n nx' (h, it nx (i + 1) h, ln n nx (i + 1) h)) ∧ s = ⟨[.val (.int n), .pc 0, .pc 1, .val (.int h), .val (.int (it nx k h)), .val (.int (ln n nx k h)), .val (.int (it nx' j h)), .val (.int (ln n nx' j h)), z6, z7], [.dct (fT ts (nxF nx)), .dct (fT ts (nxF nx'))], g⟩, ⟨0, _, _, rfl, rfl, (fun i hi => absurd hi (by omega)), rfl⟩, ?_, ?_⟩
      · intro k hk s ⟨j, z6, z7, e1, e2, e3, e⟩
        subst e
        refine ⟨_, rfl, ?_⟩
        dsimp only [FS.setE, List.set]
        have hk2 : k < 2 * ts.length := by omega
        have hm := it_mem hx k hh
        have hs := ln_succ (n := n) (nx := nx) k h
        have hfp := farI_pos (s := it nx k h) (e := nx (it nx k h)) hn
        repeat' first
          | with_reducible refine v_stopFor ?_
          | wtm_at "vl"
        · rw [← hs, ← it_succ (nx := nx) k h]
          with_reducible refine v_cutS (fun s => ∃ (i : Nat) (z7 : S), ln n nx (k + 1) h ≤ ln n nx' (j + i) h ∧ (∀ i', i' < i → ln n nx' (j + i') h < ln n nx (k + 1) h) ∧ s = ⟨[.val (.int n), .pc 0, .pc 1, .val (.int h), .val (.int (it nx (k + 1) h)), .val (.int (ln n nx (k + 1) h)), .val (.int (it nx' (j + i) h)), .val (.int (ln n nx' (j + i) h)), .val (.int (k : Int)), z7], [.dct (fT ts (nxF nx)), .dct (fT ts (nxF nx'))], g⟩) ?_ ?_
          · with_reducible refine v_forR ?_
            repeat' wtm_at "vl"
            refine ⟨fun i s => ∃ (z7 : S), (∀ i', i' < i → ln n nx' (j + i') h < ln n nx (k + 1) h) ∧ s = ⟨[.val (.int n), .pc 0, .pc 1, .val (.int h), .val (.int (it nx (k + 1) h)), .val (.int (ln n nx (k + 1) h)), .val (.int (it nx' (j + i) h)), .val (.int (ln n nx' (j + i) h)), .val (.int (k : Int)), z7], [.dct (fT ts (nxF nx)), .dct (fT ts (nxF nx'))], g⟩, ⟨_, (fun i hi => absurd hi (by omega)), rfl⟩, ?_, ?_⟩
            · intro i hi s ⟨z7, e4, e⟩
              subst e
              refine ⟨_, rfl, ?_⟩
              dsimp only [FS.setE, List.set]
              have hm' := it_mem hx' (j + i) hh
              have hs' := ln_succ (n := n) (nx := nx') (j + i) h
              repeat' wtm_at "vl"
              all_goals first
                | exact hm'
                | exact hn
                | exact ⟨_, rfl, i, _, by assumption, e4, rfl⟩
                | (refine ⟨_, fun i' hi2 => ?_, by rw [← Nat.add_assoc, hs', it_succ (nx := nx') (j + i) h]⟩
                   rcases Nat.lt_succ_iff_lt_or_eq.mp hi2 with h | h
                   · exact e4 i' h
                   · subst h; omega)
                | trace_state
            · intro s ⟨z7, e4, e⟩
              rw [Int.toNat_natCast] at e4 e
              refine ⟨_, rfl, ts.length, z7, ?_, e4, e⟩
              have hlap := lap_ge hn hd hx' (it_mem hx' j hh)
              rw [ln_add (nx := nx') j ts.length h]
              omega
          · intro s ⟨i, z7, e4, e5, e⟩
            subst e
            have key : Tr n nx' (h, it nx (k + 1) h, ln n nx (k + 1) h) ↔ (it nx' (j + i) h = it nx (k + 1) h ∧ ln n nx' (j + i) h = ln n nx (k + 1) h) := by
              constructor
              · intro ⟨j2, h3, h4⟩
                dsimp only at h3 h4
                have : j2 = j + i := by
                  rcases Nat.lt_trichotomy j2 (j + i) with hlt | hlt | hlt
                  · exfalso
                    by_cases hj : j ≤ j2
                    · obtain ⟨i', rfl⟩ := Nat.le.dest hj
                      have := e5 i' (by omega); omega
                    · have h5 := ln_lt (n := n) (nx := nx') hn (show j2 < j by omega) h
                      omega
                  · exact hlt
                  · have := ln_lt (n := n) (nx := nx') hn hlt h; omega
                subst this; exact ⟨h3, h4⟩
              · intro hk; exact ⟨j + i, hk⟩
            repeat' wtm_at "vl"
            all_goals first
              | (refine .inr ⟨_, _, rfl, ?_⟩; exact q' h k hh hk2 (fun z => absurd (key.mp z).1 (by assumption)))
              | (refine .inr ⟨_, _, rfl, ?_⟩; exact q' h k hh hk2 (fun z => absurd (key.mp z).2 (by assumption)))
              | (have e6 := Decidable.not_not.mp (by assumption : ¬ it nx' (j + i) h ≠ it nx (k + 1) h)
                 have e7 := Decidable.not_not.mp (by assumption : ¬ ln n nx' (j + i) h ≠ ln n nx (k + 1) h)
                 refine ⟨j + i, _, _, e6, e7, fun i2 hi2 => ?_, rfl⟩
                 rcases Nat.lt_succ_iff_lt_or_eq.mp hi2 with h8 | h8
                 · exact e3 i2 h8
                 · subst h8; exact key.mpr ⟨e6, e7⟩)
              | trace_state
        all_goals first
          | exact hm
          | exact hn
          | trace_state
      · intro s ⟨j, z6, z7, e1, e2, e3, e⟩
        refine ⟨_, _, _, _, _, _, _, fun x hx2 => ?_, e⟩
        rcases List.mem_append.mp hx2 with hx2 | hx2
        · exact hdn x hx2
        · rw [List.mem_singleton] at hx2; subst hx2
          intro k hk; exact e3 k (by omega)
    · intro s ⟨z1, z2, z3, z4, z5, z6, z7, hdn, e⟩
      exact .inl ⟨_, rfl, z1, z2, z3, z4, z5, z6, z7, fun h hh => hdn h (sortI_mem.mpr hh), e⟩
  · intro s ⟨z1, z2, z3, z4, z5, z6, z7, hdn, e⟩
    subst e
    repeat' wtm_at "vl"
    exact q true ⟨fun _ => hdn, fun _ => rfl⟩
theorem lorderedN_w {ks : List Int} {nx : Int → Int} {g : List Inst} {Q X} (hn : ks.Nodup) (hl : ks.length < 64) (q : Q (.tmp (.dct (fT (sortI ks) (nxF nx)))) [.dct (fT ks (nxF nx))] g) : wpD (d__law_ordered [.pc 0] [.dct (fT ks (nxF nx))] g) Q X := by
  have e := filter_some (ks := sortI ks) (nx := nx)
  refine lordered_w (ks := ks) (f := fun h => some (nx h)) hn hl ?_
  rw [e]; exact q
theorem holdstrue_e {N : Nt} {a b d : Int} {k : Nat} {cs : List C} {g : List Inst} {Q X} (ok : NtOk N) (hg : g[k]? = some (netI N)) (ha : a ∈ N.ks)
    (q : ∀ r : Bool, (r = true ↔ Tr N.n N.nx (a, b, d)) → Q (.val (.bl r)) cs g) : wpD (d_holds_true [.val (.ins k), .val (.tup [.int a, .int b, .int d])] cs g) Q X := holdstrue_w ok hg ha q
theorem lheld1_w {N : Nt} {a m : Int} {kept : Bool} {k : Nat} {g : List Inst} {Q X} (ok : NtOk N) (hg : g[k]? = some (netI N)) (ha : a ∈ N.ks) (hm : m ∈ N.ks) (hk : kept = true ↔ Tr N.n (upd1 N.nx a m) (a, N.nx a, farI N.n a (N.nx a)))
    (q : Q (.val (.bl true)) [.dct (fT N.ks (nxF N.nx))] (g ++ [netI { N with nx := upd1 N.nx a m }])) :
    wpD (d__law_held [.val (.ins k), .val (.int N.n), .pc 0, .val (.int a), .val (.int m), .val (.bl kept)] [.dct (fT N.ks (nxF N.nx))] g) Q X := by
  unfold d__law_held
  with_reducible refine v_den ?ha ?_
  case ha => rfl
  unfold b__law_held
  simp only [List.map_cons, List.map_nil, List.replicate, argS, List.cons_append, List.nil_append]
  have hz : sizeLine = 16777216 := rfl
  have hlen := ok.len
  have hpos := ok.pos
  have hnd := ok.nd
  have ok' : NtOk { N with nx := upd1 N.nx a m } := ok.hold hm
  have es : (g ++ [netI N]).set g.length (netI { N with nx := upd1 N.nx a m }) = g ++ [netI { N with nx := upd1 N.nx a m }] := by
    rw [List.set_append_right _ _ (Nat.le_refl _), Nat.sub_self]; rfl
  have o1 : okD 12 (.dct (fT (sortI N.ks) (nxF (upd1 N.nx a m)))) := okD_fT (by rw [sortI_len]; omega) fun _ _ => trivial
  repeat' first
    | with_reducible refine v_stopIf ?_
    | wtm_at "vl"
  rw [upd_nx]
  with_reducible refine v_goS ?_
  with_reducible refine v_seq ?_
  repeat' first
    | with_reducible refine v_stopIf ?_
    | wtm_at "vl"
  · trivial
  · rfl
  · rw [es]
    have hg2 : (g ++ [netI { N with nx := upd1 N.nx a m }])[g.length]? = some (netI { N with nx := upd1 N.nx a m }) := by rw [List.getElem?_append_right (Nat.le_refl _), Nat.sub_self]; rfl
    with_reducible refine v_goS ?_
    with_reducible refine v_seq ?_
    repeat' first
      | with_reducible refine lorderedN_w hnd hlen ?_
      | with_reducible refine v_stopSet ?_
      | wtm_at "vl"
    · rfl
    · exact o1
    with_reducible refine v_goS ?_
    with_reducible refine v_seq ?_
    repeat' first
      | with_reducible refine v_stopRet ?_
      | wtm_at "vl"
    with_reducible refine v_goS ?_
    have ht : ∀ {cs : List C} {Q X}, (∀ r : Bool, (r = true ↔ Tr N.n (upd1 N.nx a m) (a, N.nx a, farI N.n a (N.nx a))) → Q (.val (.bl r)) cs (g ++ [netI { N with nx := upd1 N.nx a m }])) → wpD (d_holds_true [.val (.ins g.length), .val (.tup [.int a, .int (N.nx a), .int (farI N.n a (N.nx a))])] cs (g ++ [netI { N with nx := upd1 N.nx a m }])) Q X := fun {cs Q X} q => holdstrue_e (N := { N with nx := upd1 N.nx a m }) ok' hg2 ha q
    repeat' first
      | with_reducible refine ht (fun r hr => ?_)
      | wtm_at "vl"
    all_goals first
      | exact q
      | trivial
      | exact congrArg D.bl (Bool.eq_iff_iff.mpr (hr.trans hk.symm))
      | trace_state
  · exact ha
local macro_rules | `(tactic| wtm_at "vl") => `(tactic| first
  | (with_reducible refine' lnexts_w ?a ?b ?c ?q; (case a => assumption); (case b => assumption); (case c => assumption))
  | (with_reducible refine' lbehinds_w ?a ?b ?c ?q; (case a => assumption); (case b => assumption); (case c => assumption))
  | (with_reducible refine' ninit_w ?h0 ?a ?b ?c ?d ?e ?f ?i ?q; (case h0 => wtm_at "gk"); (case a => assumption); (case b => assumption); (case c => assumption); (case d => assumption); (case e => assumption); (case f => assumption); (case i => assumption))
  | (with_reducible refine' each_w ?h ?h0 ?q; (case h0 => wtm_at "gk"); (case h => assumption))
  | (with_reducible refine' lkept_w ?a ?b ?c ?d ?e ?q; (case a => assumption); (case b => assumption); (case c => assumption); (case d => assumption); (case e => assumption))
  | (with_reducible refine' lheld1_w ?a ?h0 ?b ?c ?d ?q; (case h0 => wtm_at "gk"); (case a => assumption); (case b => assumption); (case c => assumption); (case d => assumption))
  | (with_reducible refine' faith_w ?a ?h0 ?b ?c ?q; (case h0 => wtm_at "gk"); (case a => assumption); (case b => assumption); (case c => assumption))
  | fail)
theorem law_w {ns : List Int} (h : ns.length ≤ sizeLine) : wpD (d_law [.val (.frz (ns.map D.int))] [] []) (fun r _ _ => r = .val (.bl true)) X0 := by
  unfold d_law
  with_reducible refine v_den ?ha ?_
  case ha => rfl
  unfold b_law
  simp only [List.map_cons, List.map_nil, List.replicate, argS, List.cons_append, List.nil_append]
  have hz : sizeLine = 16777216 := rfl
  repeat' first
    | with_reducible refine v_stopIf ?_
    | wtm_at "vl"
  all_goals first
    | omega
    | skip
  rename_i mode c1 hm1 hm2 hc1 n c2 hn1 hn2 hn3 hc2' ps0 c3 hps hpn0 hpr0 hc3'
  with_reducible refine v_cutS (fun s => ∃ ps : List Int, ps.length = ps0.length ∧ ps.Nodup ∧ (∀ p ∈ ps, 0 ≤ p ∧ p < n) ∧ s = ⟨[.val (.frz (ns.map D.int)), .own c3, .val (.int mode), .val (.int (1 + mode % 6)), .val (.int n), .own (.lst (ps.map D.int)), .no, .no, .no, .no, .no, .no, .no, .no, .no, .no], [], []⟩) ?_ ?_
  · repeat' wtm_at "vl"
    all_goals first
      | exact ⟨_, rfl, sortI ps0, sortI_len _, sortI_nodup hpn0, (fun p hp => hpr0 p (sortI_mem.mp hp)), rfl⟩
      | exact ⟨_, rfl, ps0, rfl, hpn0, hpr0, rfl⟩
      | trace_state
  intro s ⟨ps, hpl0, hpn, hpr, e⟩
  subst e
  have hpl : ps.length < 64 := by omega
  have hp0 : 0 < ps.length := by omega
  repeat' wtm_at "vl"
  intro nx cA hnx hcA
  repeat' wtm_at "vl"
  intro kb bf cB hk1 hk2 hcB
  repeat' first
    | with_reducible refine w_stopLc ?_
    | wtm_at "vl"
  with_reducible refine v_goS ?_
  with_reducible refine w_lc ?_
  with_reducible refine w_r1 ?_
  repeat' wtm_at "vl"
  rename_i r c4 hr1 hr2 hc4
  refine ⟨by rw [rgD_len]; omega, fun i acc s => ∃ (c : C) (ls : List Lt), TapeOk c ∧ ls.length = i ∧ (∀ l ∈ ls, ∀ p ∈ l.ps, p ∈ ps) ∧ acc = ls.map Lt.d ∧ s = ⟨[.val (.frz (ns.map D.int)), .own c, .val (.int mode), .val (.int (1 + mode % 6)), .val (.int n), .own (.lst (ps.map D.int)), .own (.dct (fT ps (nxF nx))), .own (.dct (fT kb (bfF bf))), .no, .no, .no, .no, .no, .no, .no, .no], [], []⟩, ⟨_, [], hc4, rfl, (fun l hl => nomatch hl), rfl, rfl⟩, ?_, ?_⟩
  · intro i d acc s hd ⟨c, ls, hc, hl, hlp, ea, es⟩
    subst es; subst ea
    obtain ⟨hi, rfl⟩ := rgD_get hd
    refine ⟨⟨trivial, rfl⟩, _, rfl, ?_⟩
    dsimp only [FS.setE, List.set, wipeE]
    repeat' first
      | with_reducible refine lletter_w (by assumption) hp0 (by omega) (fun l c5 hl5 hc5 => ?_)
      | wtm_at "vl"
    exact ⟨c5, ls ++ [l], hc5, by rw [List.length_append, hl]; rfl, fun x hx => by
      rcases List.mem_append.mp hx with hx | hx
      · exact hlp x hx
      · rw [List.mem_singleton] at hx; subst hx; exact hl5, by rw [List.map_append]; rfl, rfl⟩
  · intro acc s ⟨cC, ls, hcC, hls, hlp, ea, es⟩
    subst es; subst ea
    refine ⟨trivial, ?_⟩
    rw [rgD_len] at hls
    have hkl : kb.length < 64 := Nat.lt_of_le_of_lt (nodup_le hk1 fun x hx => (hk2 x hx).1) hpl
    obtain ⟨N, e1, e2, e3, e4, e5, okN, bN, e6⟩ := mkN (by omega : 0 < n) hpn hpl hpr hnx hk1 hk2 hlp (by omega)
    subst e1; subst e2; subst e3; subst e4
    repeat' first
      | with_reducible refine v_stopFor ?_
      | wtm_at "vl"
    rw [e6, e5]
    have hnx := okN.nx
    have hnd := okN.nd
    have hrg := okN.rng
    have hpos := okN.pos
    have hlen := okN.len
    with_reducible refine v_cutS (fun s => ∃ (left : Int) (z1 z2 z3 z4 : S) (ex : List Inst), (left = 0 ↔ ∀ a ∈ N.ks, ∀ m ∈ N.ks, ¬ Fa N.n N.nx a m) ∧ s = ⟨[.val (.frz (ns.map D.int)), .own cC, .val (.int mode), .val (.int (1 + mode % 6)), .val (.int N.n), .own (.lst (N.ks.map D.int)), .own (.dct (fT N.ks (nxF N.nx))), .own (.dct (fT kb (bfF N.bf))), .own (.lst (N.ls.map Lt.d)), .val (.ins 0), .val (.int left), z1, z2, .no, z3, z4], [], netI N :: ex⟩) ?_ ?_
    · with_reducible refine v_forL D.int ?_
      repeat' wtm_at "vl"
      refine ⟨sortI N.ks, .inl rfl, fun dn s => ∃ (left : Int) (z1 z2 z3 z4 : S) (ex : List Inst), 0 ≤ left ∧ (left = 0 ↔ ∀ a ∈ dn, ∀ m ∈ N.ks, ¬ Fa N.n N.nx a m) ∧ s = ⟨[.val (.frz (ns.map D.int)), .own cC, .val (.int mode), .val (.int (1 + mode % 6)), .val (.int N.n), .own (.lst (N.ks.map D.int)), .own (.dct (fT N.ks (nxF N.nx))), .own (.dct (fT kb (bfF N.bf))), .own (.lst (N.ls.map Lt.d)), .val (.ins 0), .val (.int left), z1, z2, .no, z3, z4], [], netI N :: ex⟩, ⟨0, _, _, _, _, [], Int.le_refl 0, ⟨(fun _ a ha => nomatch ha), fun _ => rfl⟩, rfl⟩, ?_, ?_⟩
      · intro dn a td hdd s ⟨left, z1, z2, z3, z4, ex, hl0, hl1, e⟩
        subst e
        refine ⟨_, rfl, ?_⟩
        dsimp only [FS.setE, List.set]
        have ha : a ∈ N.ks := sortI_mem.mp (by rw [hdd]; simp)
        with_reducible refine v_forL D.int ?_
        repeat' wtm_at "vl"
        refine ⟨sortI N.ks, .inl rfl, fun dn2 s => ∃ (left : Int) (z2 z3 z4 : S) (ex : List Inst), 0 ≤ left ∧ (left = 0 ↔ (∀ a ∈ dn, ∀ m ∈ N.ks, ¬ Fa N.n N.nx a m) ∧ (∀ m ∈ dn2, ¬ Fa N.n N.nx a m)) ∧ s = ⟨[.val (.frz (ns.map D.int)), .own cC, .val (.int mode), .val (.int (1 + mode % 6)), .val (.int N.n), .own (.lst (N.ks.map D.int)), .own (.dct (fT N.ks (nxF N.nx))), .own (.dct (fT kb (bfF N.bf))), .own (.lst (N.ls.map Lt.d)), .val (.ins 0), .val (.int left), .val (.int a), z2, .no, z3, z4], [], netI N :: ex⟩, ⟨left, _, _, _, ex, hl0, ⟨fun z => ⟨hl1.mp z, (fun m hm => nomatch hm)⟩, fun z => hl1.mpr z.1⟩, rfl⟩, ?_, ?_⟩
        · intro dn2 m td2 hdd2 s ⟨left, z2, z3, z4, ex, hl0, hl1, e⟩
          subst e
          refine ⟨_, rfl, ?_⟩
          dsimp only [FS.setE, List.set]
          have hm : m ∈ N.ks := sortI_mem.mp (by rw [hdd2]; simp)
          have hx' : ∀ x ∈ N.ks, upd1 N.nx a m x ∈ N.ks := fun x hx => by
            unfold upd1; split
            · exact hm
            · exact hnx x hx
          repeat' first
            | with_reducible refine v_stopIf ?_
            | wtm_at "vl"
          with_reducible refine v_cutS (fun s => ∃ (kept : Bool) (z4 : S) (ex : List Inst), (kept = true ↔ Fa N.n N.nx a m) ∧ s = ⟨[.val (.frz (ns.map D.int)), .own cC, .val (.int mode), .val (.int (1 + mode % 6)), .val (.int N.n), .own (.lst (N.ks.map D.int)), .own (.dct (fT N.ks (nxF N.nx))), .own (.dct (fT kb (bfF N.bf))), .own (.lst (N.ls.map Lt.d)), .val (.ins 0), .val (.int left), .val (.int a), .val (.int m), .no, .val (.bl kept), z4], [], netI N :: ex⟩) ?_ ?_
          · repeat' first
              | with_reducible refine v_stopSet ?_
              | wtm_at "vl"
            · have hb : farI N.n a m < farI N.n a (N.nx a) := by assumption
              with_reducible refine v_goS ?_
              with_reducible refine v_seq ?_
              repeat' first
                | with_reducible refine v_stopSet ?_
                | wtm_at "vl"
              rw [upd_nx]
              with_reducible refine v_goS ?_
              with_reducible refine v_seq ?_
              repeat' wtm_at "vl"
              intro kept hk
              have hk2 := hk.trans (kept_iff hpos ha hb)
              have hk3 : kept = true ↔ Tr N.n (upd1 N.nx a m) (a, N.nx a, farI N.n a (N.nx a)) := hk2.trans (tr_held hpos hb).symm
              repeat' wtm_at "vl"
              exact ⟨_, rfl, kept, _, ex ++ [netI { N with nx := upd1 N.nx a m }], ⟨fun z => ⟨hb, hk2.mp z⟩, fun z => hk2.mpr z.2⟩, rfl⟩
            · exact ⟨_, rfl, false, _, ex, ⟨(fun z => nomatch z), fun z => absurd z.1 (by assumption)⟩, rfl⟩
            · exact ha
          · intro s ⟨kept, z4, ex, hk, e⟩
            subst e
            repeat' wtm_at "vl"
            intro r hr
            have er : r = kept := Bool.eq_iff_iff.mpr (hr.trans hk.symm)
            repeat' wtm_at "vl"
            all_goals first
              | trivial
              | exact congrArg D.bl er
              | (refine ⟨_, _, _, _, ex, ?_, ?_, rfl⟩
                 · split <;> omega
                 · cases kept with
                   | true =>
                     have hf := hk.mp rfl
                     constructor
                     · intro z; exfalso; simp at z; omega
                     · intro z; exact absurd hf (z.2 m (by simp))
                   | false =>
                     have hf : ¬ Fa N.n N.nx a m := fun z => Bool.false_ne_true (hk.mpr z)
                     simp only [Bool.false_eq_true, if_false, Int.add_zero]
                     rw [hl1]
                     constructor
                     · intro ⟨h1, h2⟩
                       refine ⟨h1, fun x hx => ?_⟩
                       rcases List.mem_append.mp hx with hx | hx
                       · exact h2 x hx
                       · rw [List.mem_singleton] at hx; rw [hx]; exact hf
                     · intro ⟨h1, h2⟩
                       exact ⟨h1, fun x hx => h2 x (List.mem_append_left _ hx)⟩)
              | trace_state
        · intro s ⟨left, z2, z3, z4, ex, hl0, hl1, e⟩
          subst e
          refine ⟨left, _, _, _, _, ex, hl0, ?_, rfl⟩
          rw [hl1]
          constructor
          · intro ⟨h1, h2⟩ x hx y hy
            rcases List.mem_append.mp hx with hx | hx
            · exact h1 x hx y hy
            · rw [List.mem_singleton] at hx; subst hx; exact h2 y (sortI_mem.mpr hy)
          · intro h1
            exact ⟨fun x hx => h1 x (List.mem_append_left _ hx), fun y hy => h1 a (by simp) y (sortI_mem.mp hy)⟩
      · intro s ⟨left, z1, z2, z3, z4, ex, hl0, hl1, e⟩
        exact ⟨_, rfl, left, z1, z2, z3, z4, ex, hl1.trans ⟨fun h a ha => h a (sortI_mem.mpr ha), fun h a ha => h a (sortI_mem.mp ha)⟩, e⟩
    · intro s ⟨left, z1, z2, z3, z4, ex, hl1, e⟩
      subst e
      have hfa := fa_iff hpos hnd hrg hnx
      repeat' wtm_at "vl"
      all_goals first
        | trivial
        | (exact congrArg D.bl (decide_eq_decide.mpr (hfa.trans hl1.symm)))
        | rfl
        | trace_state
end Lk59
open PySem PySem.W PySem.Calls PyProof.Rows
theorem PySem.Challenge.cw_ringlaps_k59_whole_faithful_exactly_holds : PySem.Challenge.rw_ringlaps_k59_whole_faithful_exactly.Holds := by
  w_on; o_law
  refine Lk59.hd ?hw ?hc
  case hw => w_witness2
  case hc =>
    refine LamX.walk_ofTsE (l := PySem.Challenge.rw_ringlaps_k59_whole_faithful_exactly) (n := 63) (k := 14) (x := "script") (CX := fun w => L2.CX PySem.Challenge.rw_ringlaps_k59_whole_faithful_exactly.prog w) rfl (by decide) (by kernel_rfl) ⟨rfl, by decide, by decide⟩ ?F (fun w => VL.cx_false)
    intro w mg fa h Y G hmg0
    obtain ⟨K, KX, c⟩ := Y
    have hmg : mg ("law" : PySem.Str) = some (.ref fa) := by
      have e : (HandSHeadRun.topDef (OpenLaw.row PySem.Challenge.rw_ringlaps_k59_whole_faithful_exactly).prog 39).name = ("law" : PySem.Str) := by kernel_rfl
      rw [← e]
      exact hmg0
    exact ⟨K, KX, VL.lawAt hmg (fun base => Lk59.ok_law ⟨⟨h, KX, G⟩, c⟩) fun ns hl hb => Lk59.law_w (Nat.le_trans hl (by decide))⟩
