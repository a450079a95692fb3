import PyProof.Rows.All
import PySem.Challenge.RW_mostclauses_k59_whole_nothing_told_twice
import Wide.All
import OpenK.AllK
import Wide.FinOn
import KE.KStateDown
import Lean
import HandS.ForMost
import HandS.WordsExc
import HandS.Defaults
import HandS.Head0
import HandS.Head1
import HandS.Head2
import HandS.HeadEnd
import HandS.HeadHook1
import HandS.HeadHook2
import HandS.HeadHook3
import HandS.HeadHook4
import HandS.Codes
import HandS.Walk
import HandS.Flow
import HandS.Wide
import HandS.TupMul
import HandS.TupAny
import HandS.SortInts
import HandS.IsInst
import HandS.DictComp
import HandS.MakeKw
import HandS.Zip
import HandS.Small
import HandS.NoneIn
import HandS.Conv
import HandS.TupSets
import HandS.Style
import PyProof.CollectIter
import PyProof.WalksMore
import KE.GoesMore
import KE.GoesEnum
import PyProof.Rows.SetFrom
import PyProof.SetRoads
import HandS.MakeKwOnly
import PyProof.SumWalk
import HandS.DeepEq
set_option Elab.async false
set_option linter.all false
set_option maxRecDepth 100000
set_option maxHeartbeats 0
namespace K59
open PySem PySem.Spec PyProof.Rows L2
def top (i : Nat) : Stmt := PySem.Challenge.pw_mostclauses_k59_whole_nothing_told_twice.main.body.getD i (.Pass ⟨0, 0, 0, 0⟩)
abbrev s_ways_to : Stmt := top 12
def d_ways_to : He.DefD := ⟨("ways_to", none), "ways_to", "ways_to", defArgs s_ways_to, defBody s_ways_to, defScope s_ways_to, [], []⟩
abbrev s_how_many : Stmt := top 13
def d_how_many : He.DefD := ⟨("how_many", none), "how_many", "how_many", defArgs s_how_many, defBody s_how_many, defScope s_how_many, [], []⟩
abbrev s_choices : Stmt := top 14
def d_choices : He.DefD := ⟨("choices", none), "choices", "choices", defArgs s_choices, defBody s_choices, defScope s_choices, [], []⟩
abbrev s_is_whole : Stmt := top 18
def d_is_whole : He.DefD := ⟨("is_whole", none), "is_whole", "is_whole", defArgs s_is_whole, defBody s_is_whole, defScope s_is_whole, [], []⟩
abbrev s_names_of : Stmt := top 19
def d_names_of : He.DefD := ⟨("names_of", none), "names_of", "names_of", defArgs s_names_of, defBody s_names_of, defScope s_names_of, [], []⟩
abbrev s_are_unlike : Stmt := top 20
def d_are_unlike : He.DefD := ⟨("are_unlike", none), "are_unlike", "are_unlike", defArgs s_are_unlike, defBody s_are_unlike, defScope s_are_unlike, [], []⟩
abbrev s_check_marks : Stmt := top 21
def d_check_marks : He.DefD := ⟨("check_marks", none), "check_marks", "check_marks", defArgs s_check_marks, defBody s_check_marks, defScope s_check_marks, [.int 1000000000], []⟩
abbrev s_first_fresh : Stmt := top 22
def d_first_fresh : He.DefD := ⟨("first_fresh", none), "first_fresh", "first_fresh", defArgs s_first_fresh, defBody s_first_fresh, defScope s_first_fresh, [], []⟩
abbrev s_ones_in : Stmt := top 26
def d_ones_in : He.DefD := ⟨("ones_in", none), "ones_in", "ones_in", defArgs s_ones_in, defBody s_ones_in, defScope s_ones_in, [], []⟩
abbrev s_ones_in_part : Stmt := top 27
def d_ones_in_part : He.DefD := ⟨("ones_in_part", none), "ones_in_part", "ones_in_part", defArgs s_ones_in_part, defBody s_ones_in_part, defScope s_ones_in_part, [], []⟩
abbrev s_is_part : Stmt := top 28
def d_is_part : He.DefD := ⟨("is_part", none), "is_part", "is_part", defArgs s_is_part, defBody s_is_part, defScope s_is_part, [], []⟩
abbrev s_size_of : Stmt := top 29
def d_size_of : He.DefD := ⟨("size_of", none), "size_of", "size_of", defArgs s_size_of, defBody s_size_of, defScope s_size_of, [], []⟩
abbrev s_has_net : Stmt := top 30
def d_has_net : He.DefD := ⟨("has_net", none), "has_net", "has_net", defArgs s_has_net, defBody s_has_net, defScope s_has_net, [], []⟩
abbrev s_marks_at : Stmt := top 32
def d_marks_at : He.DefD := ⟨("marks_at", none), "marks_at", "marks_at", defArgs s_marks_at, defBody s_marks_at, defScope s_marks_at, [], []⟩
abbrev s_size_under : Stmt := top 34
def d_size_under : He.DefD := ⟨("size_under", none), "size_under", "size_under", defArgs s_size_under, defBody s_size_under, defScope s_size_under, [], []⟩
abbrev s_row_of : Stmt := top 35
def d_row_of : He.DefD := ⟨("row_of", none), "row_of", "row_of", defArgs s_row_of, defBody s_row_of, defScope s_row_of, [], []⟩
abbrev s_Growing_init : Stmt := inClass (top 36) 0
def d_Growing_init : He.DefD := ⟨("Growing", some "__init__"), "__init__", "Growing.__init__", defArgs s_Growing_init, defBody s_Growing_init, defScope s_Growing_init, [], []⟩
abbrev s_Growing_row_to : Stmt := inClass (top 36) 1
def d_Growing_row_to : He.DefD := ⟨("Growing", some "row_to"), "row_to", "Growing.row_to", defArgs s_Growing_row_to, defBody s_Growing_row_to, defScope s_Growing_row_to, [], []⟩
abbrev s_Growing_lens_to : Stmt := inClass (top 36) 2
def d_Growing_lens_to : He.DefD := ⟨("Growing", some "lens_to"), "lens_to", "Growing.lens_to", defArgs s_Growing_lens_to, defBody s_Growing_lens_to, defScope s_Growing_lens_to, [], []⟩
abbrev s_Growing_lacks : Stmt := inClass (top 36) 3
def d_Growing_lacks : He.DefD := ⟨("Growing", some "lacks"), "lacks", "Growing.lacks", defArgs s_Growing_lacks, defBody s_Growing_lacks, defScope s_Growing_lacks, [], []⟩
abbrev s_Growing_many_ahead : Stmt := inClass (top 36) 4
def d_Growing_many_ahead : He.DefD := ⟨("Growing", some "many_ahead"), "many_ahead", "Growing.many_ahead", defArgs s_Growing_many_ahead, defBody s_Growing_many_ahead, defScope s_Growing_many_ahead, [], []⟩
abbrev s_Growing_grow : Stmt := inClass (top 36) 5
def d_Growing_grow : He.DefD := ⟨("Growing", some "grow"), "grow", "Growing.grow", defArgs s_Growing_grow, defBody s_Growing_grow, defScope s_Growing_grow, [], []⟩
abbrev s_gather : Stmt := top 37
def d_gather : He.DefD := ⟨("gather", none), "gather", "gather", defArgs s_gather, defBody s_gather, defScope s_gather, [], []⟩
abbrev s_check_part : Stmt := top 40
def d_check_part : He.DefD := ⟨("check_part", none), "check_part", "check_part", defArgs s_check_part, defBody s_check_part, defScope s_check_part, [], []⟩
abbrev s_Keeper_init : Stmt := inClass (top 41) 0
def d_Keeper_init : He.DefD := ⟨("Keeper", some "__init__"), "__init__", "Keeper.__init__", defArgs s_Keeper_init, defBody s_Keeper_init, defScope s_Keeper_init, [], [("fresh", .non)]⟩
abbrev s_Keeper_check_room : Stmt := inClass (top 41) 1
def d_Keeper_check_room : He.DefD := ⟨("Keeper", some "check_room"), "check_room", "Keeper.check_room", defArgs s_Keeper_check_room, defBody s_Keeper_check_room, defScope s_Keeper_check_room, [], []⟩
abbrev s_Keeper_grow_all : Stmt := inClass (top 41) 2
def d_Keeper_grow_all : He.DefD := ⟨("Keeper", some "grow_all"), "grow_all", "Keeper.grow_all", defArgs s_Keeper_grow_all, defBody s_Keeper_grow_all, defScope s_Keeper_grow_all, [], []⟩
abbrev s_Keeper_is_far : Stmt := inClass (top 41) 3
def d_Keeper_is_far : He.DefD := ⟨("Keeper", some "is_far"), "is_far", "Keeper.is_far", defArgs s_Keeper_is_far, defBody s_Keeper_is_far, defScope s_Keeper_is_far, [], []⟩
abbrev s_Keeper_note : Stmt := inClass (top 41) 4
def d_Keeper_note : He.DefD := ⟨("Keeper", some "note"), "note", "Keeper.note", defArgs s_Keeper_note, defBody s_Keeper_note, defScope s_Keeper_note, [], []⟩
abbrev s_Keeper_bound : Stmt := inClass (top 41) 5
def d_Keeper_bound : He.DefD := ⟨("Keeper", some "bound"), "bound", "Keeper.bound", defArgs s_Keeper_bound, defBody s_Keeper_bound, defScope s_Keeper_bound, [], []⟩
abbrev s_Keeper_wider : Stmt := inClass (top 41) 6
def d_Keeper_wider : He.DefD := ⟨("Keeper", some "wider"), "wider", "Keeper.wider", defArgs s_Keeper_wider, defBody s_Keeper_wider, defScope s_Keeper_wider, [], []⟩
abbrev s_Keeper_check_more : Stmt := inClass (top 41) 7
def d_Keeper_check_more : He.DefD := ⟨("Keeper", some "check_more"), "check_more", "Keeper.check_more", defArgs s_Keeper_check_more, defBody s_Keeper_check_more, defScope s_Keeper_check_more, [], []⟩
abbrev s_Keeper_more : Stmt := inClass (top 41) 8
def d_Keeper_more : He.DefD := ⟨("Keeper", some "more"), "more", "Keeper.more", defArgs s_Keeper_more, defBody s_Keeper_more, defScope s_Keeper_more, [], []⟩
abbrev s_Keeper_back : Stmt := inClass (top 41) 9
def d_Keeper_back : He.DefD := ⟨("Keeper", some "back"), "back", "Keeper.back", defArgs s_Keeper_back, defBody s_Keeper_back, defScope s_Keeper_back, [], []⟩
abbrev s_Keeper_marks : Stmt := inClass (top 41) 10
def d_Keeper_marks : He.DefD := ⟨("Keeper", some "marks"), "marks", "Keeper.marks", defArgs s_Keeper_marks, defBody s_Keeper_marks, defScope s_Keeper_marks, [], []⟩
abbrev s_Keeper_puts : Stmt := inClass (top 41) 13
def d_Keeper_puts : He.DefD := ⟨("Keeper", some "puts"), "puts", "Keeper.puts", defArgs s_Keeper_puts, defBody s_Keeper_puts, defScope s_Keeper_puts, [], []⟩
abbrev s_Keeper_clauses : Stmt := inClass (top 41) 14
def d_Keeper_clauses : He.DefD := ⟨("Keeper", some "clauses"), "clauses", "Keeper.clauses", defArgs s_Keeper_clauses, defBody s_Keeper_clauses, defScope s_Keeper_clauses, [], []⟩
abbrev s_Keeper_names : Stmt := inClass (top 41) 15
def d_Keeper_names : He.DefD := ⟨("Keeper", some "names"), "names", "Keeper.names", defArgs s_Keeper_names, defBody s_Keeper_names, defScope s_Keeper_names, [], []⟩
abbrev s_law_begun : Stmt := top 43
def d_law_begun : He.DefD := ⟨("_law_begun", none), "_law_begun", "_law_begun", defArgs s_law_begun, defBody s_law_begun, defScope s_law_begun, [], []⟩
abbrev s_law_draw : Stmt := top 44
def d_law_draw : He.DefD := ⟨("_law_draw", none), "_law_draw", "_law_draw", defArgs s_law_draw, defBody s_law_draw, defScope s_law_draw, [], []⟩
abbrev s_law_pick : Stmt := top 45
def d_law_pick : He.DefD := ⟨("_law_pick", none), "_law_pick", "_law_pick", defArgs s_law_pick, defBody s_law_pick, defScope s_law_pick, [], []⟩
abbrev s_law_marks : Stmt := top 46
def d_law_marks : He.DefD := ⟨("_law_marks", none), "_law_marks", "_law_marks", defArgs s_law_marks, defBody s_law_marks, defScope s_law_marks, [], []⟩
abbrev s_law_size : Stmt := top 47
def d_law_size : He.DefD := ⟨("_law_size", none), "_law_size", "_law_size", defArgs s_law_size, defBody s_law_size, defScope s_law_size, [], []⟩
abbrev s_law_choices : Stmt := top 48
def d_law_choices : He.DefD := ⟨("_law_choices", none), "_law_choices", "_law_choices", defArgs s_law_choices, defBody s_law_choices, defScope s_law_choices, [], []⟩
abbrev s_law_sums : Stmt := top 49
def d_law_sums : He.DefD := ⟨("_law_sums", none), "_law_sums", "_law_sums", defArgs s_law_sums, defBody s_law_sums, defScope s_law_sums, [], []⟩
abbrev s_law_gather : Stmt := top 50
def d_law_gather : He.DefD := ⟨("_law_gather", none), "_law_gather", "_law_gather", defArgs s_law_gather, defBody s_law_gather, defScope s_law_gather, [], []⟩
abbrev s_law_under : Stmt := top 51
def d_law_under : He.DefD := ⟨("_law_under", none), "_law_under", "_law_under", defArgs s_law_under, defBody s_law_under, defScope s_law_under, [], []⟩
abbrev s_law_lens : Stmt := top 52
def d_law_lens : He.DefD := ⟨("_law_lens", none), "_law_lens", "_law_lens", defArgs s_law_lens, defBody s_law_lens, defScope s_law_lens, [], []⟩
abbrev s_law_lacks : Stmt := top 53
def d_law_lacks : He.DefD := ⟨("_law_lacks", none), "_law_lacks", "_law_lacks", defArgs s_law_lacks, defBody s_law_lacks, defScope s_law_lacks, [], []⟩
abbrev s_law_room : Stmt := top 54
def d_law_room : He.DefD := ⟨("_law_room", none), "_law_room", "_law_room", defArgs s_law_room, defBody s_law_room, defScope s_law_room, [], []⟩
abbrev s_law_grow : Stmt := top 55
def d_law_grow : He.DefD := ⟨("_law_grow", none), "_law_grow", "_law_grow", defArgs s_law_grow, defBody s_law_grow, defScope s_law_grow, [], []⟩
abbrev s_law_modelled : Stmt := top 56
def d_law_modelled : He.DefD := ⟨("_law_modelled", none), "_law_modelled", "_law_modelled", defArgs s_law_modelled, defBody s_law_modelled, defScope s_law_modelled, [], []⟩
abbrev s_law_puts : Stmt := top 57
def d_law_puts : He.DefD := ⟨("_law_puts", none), "_law_puts", "_law_puts", defArgs s_law_puts, defBody s_law_puts, defScope s_law_puts, [], []⟩
abbrev s_law_joined : Stmt := top 58
def d_law_joined : He.DefD := ⟨("_law_joined", none), "_law_joined", "_law_joined", defArgs s_law_joined, defBody s_law_joined, defScope s_law_joined, [], []⟩
abbrev s_law_do : Stmt := top 59
def d_law_do : He.DefD := ⟨("_law_do", none), "_law_do", "_law_do", defArgs s_law_do, defBody s_law_do, defScope s_law_do, [], []⟩
abbrev s_law_there : Stmt := top 60
def d_law_there : He.DefD := ⟨("_law_there", none), "_law_there", "_law_there", defArgs s_law_there, defBody s_law_there, defScope s_law_there, [], []⟩
abbrev s_law_more_marks : Stmt := top 61
def d_law_more_marks : He.DefD := ⟨("_law_more_marks", none), "_law_more_marks", "_law_more_marks", defArgs s_law_more_marks, defBody s_law_more_marks, defScope s_law_more_marks, [], []⟩
abbrev s_law_deed : Stmt := top 62
def d_law_deed : He.DefD := ⟨("_law_deed", none), "_law_deed", "_law_deed", defArgs s_law_deed, defBody s_law_deed, defScope s_law_deed, [], []⟩
abbrev s_law_told_deed : Stmt := top 63
def d_law_told_deed : He.DefD := ⟨("_law_told_deed", none), "_law_told_deed", "_law_told_deed", defArgs s_law_told_deed, defBody s_law_told_deed, defScope s_law_told_deed, [], []⟩
abbrev s_law_first_things : Stmt := top 64
def d_law_first_things : He.DefD := ⟨("_law_first_things", none), "_law_first_things", "_law_first_things", defArgs s_law_first_things, defBody s_law_first_things, defScope s_law_first_things, [], []⟩
abbrev s_law_made : Stmt := top 65
def d_law_made : He.DefD := ⟨("_law_made", none), "_law_made", "_law_made", defArgs s_law_made, defBody s_law_made, defScope s_law_made, [], []⟩
abbrev s_law_model : Stmt := top 66
def d_law_model : He.DefD := ⟨("_law_model", none), "_law_model", "_law_model", defArgs s_law_model, defBody s_law_model, defScope s_law_model, [], []⟩
abbrev s_law_ways_up : Stmt := top 67
def d_law_ways_up : He.DefD := ⟨("_law_ways_up", none), "_law_ways_up", "_law_ways_up", defArgs s_law_ways_up, defBody s_law_ways_up, defScope s_law_ways_up, [], []⟩
abbrev s_law : Stmt := top 68
def d_law : He.DefD := ⟨("law", none), "law", "law", defArgs s_law, defBody s_law, defScope s_law, [], []⟩
def fn : List He.DefD := [d_ways_to, d_how_many, d_choices, d_is_whole, d_names_of, d_are_unlike, d_check_marks, d_first_fresh, d_ones_in, d_ones_in_part, d_is_part, d_size_of, d_has_net, d_marks_at, d_size_under, d_row_of, d_Growing_init, d_Growing_row_to, d_Growing_lens_to, d_Growing_lacks, d_Growing_many_ahead, d_Growing_grow, d_gather, d_check_part, d_Keeper_init, d_Keeper_check_room, d_Keeper_grow_all, d_Keeper_is_far, d_Keeper_note, d_Keeper_bound, d_Keeper_wider, d_Keeper_check_more, d_Keeper_more, d_Keeper_back, d_Keeper_marks, d_Keeper_puts, d_Keeper_clauses, d_Keeper_names, d_law_begun, d_law_draw, d_law_pick, d_law_marks, d_law_size, d_law_choices, d_law_sums, d_law_gather, d_law_under, d_law_lens, d_law_lacks, d_law_room, d_law_grow, d_law_modelled, d_law_puts, d_law_joined, d_law_do, d_law_there, d_law_more_marks, d_law_deed, d_law_told_deed, d_law_first_things, d_law_made, d_law_model, d_law_ways_up, d_law]
def fa : List He.Fa := [.glo "ways_to", .glo "how_many", .glo "choices", .glo "is_whole", .glo "names_of", .glo "are_unlike", .glo "check_marks", .glo "first_fresh", .glo "ones_in", .glo "ones_in_part", .glo "is_part", .glo "size_of", .glo "has_net", .glo "marks_at", .glo "size_under", .glo "row_of", .glo "gather", .glo "check_part", .glo "_law_begun", .glo "_law_draw", .glo "_law_pick", .glo "_law_marks", .glo "_law_size", .glo "_law_choices", .glo "_law_sums", .glo "_law_gather", .glo "_law_under", .glo "_law_lens", .glo "_law_lacks", .glo "_law_room", .glo "_law_grow", .glo "_law_modelled", .glo "_law_puts", .glo "_law_joined", .glo "_law_do", .glo "_law_there", .glo "_law_more_marks", .glo "_law_deed", .glo "_law_told_deed", .glo "_law_first_things", .glo "_law_made", .glo "_law_model", .glo "_law_ways_up", .glo "law", .glo "Growing", .glo "Keeper", .glo "PART_WORDS", .free "len", .free "range", .free "enumerate", .free "sum", .free "min", .free "max", .free "abs", .free "isinstance", .free "int", .free "bool", .free "tuple", .free "list", .free "set", .free "dict", .free "any", .free "zip", .free "sorted", .int "MOST_CHOICES" 3003, .int "GREATEST_TOLD" 1000000000, .int "MOST_MARKS" 60, .int "MOST_DEEP" 60, .int "MOST_CLAUSES" 3003, .cls "Growing", .mkr "Growing", .noat "Growing" "sources", .noat "Growing" "size", .noat "Growing" "outs", .meth "Growing" "row_to", .meth "Growing" "lens_to", .meth "Growing" "lacks", .meth "Growing" "many_ahead", .meth "Growing" "grow", .cls "Keeper", .mkr "Keeper", .noat "Keeper" "coming", .noat "Keeper" "held_marks", .noat "Keeper" "cap", .noat "Keeper" "top", .noat "Keeper" "growers", .noat "Keeper" "meanings", .noat "Keeper" "told_clauses", .noat "Keeper" "ahead", .meth "Keeper" "check_room", .meth "Keeper" "grow_all", .meth "Keeper" "is_far", .meth "Keeper" "note", .meth "Keeper" "bound", .meth "Keeper" "wider", .meth "Keeper" "check_more", .meth "Keeper" "more", .meth "Keeper" "back", .meth "Keeper" "marks", .meth "Keeper" "puts", .meth "Keeper" "clauses", .meth "Keeper" "names"]
def names0 : List PySem.Str := ["_wall", "NoMarks", "NoPlan", "NoFresh", "NoGrow", "NotWider", "TooFar", "TooMany", "NoDeed", "MOST_CHOICES", "ways_to", "how_many"]
def names1 : List PySem.Str := ["choices", "GREATEST_TOLD", "MOST_MARKS", "is_whole", "names_of", "are_unlike", "check_marks", "first_fresh", "MOST_DEEP", "PART_WORDS", "ones_in", "ones_in_part"]
def names2 : List PySem.Str := ["is_part", "size_of", "has_net", "marks_at", "size_under", "row_of", "Growing", "gather", "MOST_CLAUSES", "check_part", "Keeper", "_law_begun"]
def names3 : List PySem.Str := ["_law_draw", "_law_pick", "_law_marks", "_law_size", "_law_choices", "_law_sums", "_law_gather", "_law_under", "_law_lens", "_law_lacks", "_law_room", "_law_grow"]
def names4 : List PySem.Str := ["_law_modelled", "_law_puts", "_law_joined", "_law_do", "_law_there", "_law_more_marks", "_law_deed", "_law_told_deed", "_law_first_things", "_law_made", "_law_model", "_law_ways_up"]
def names : List PySem.Str := names0 ++ names1 ++ names2 ++ names3 ++ names4
def exP (K : PySem.W.Frag) : Bool := He.tupB K "PART_WORDS" [.str "sums", .str "net"] && (He.eqO (PySem.W.findIn K (.ref (He.ga K "Growing")) "__class__") (some (some (.builtin "object.__class__"))) &&
  (He.eqO (PySem.W.specialIn K (.builtin "object.__class__") "__get__") (some (some (.builtin "getset_descriptor.__get__"))) && (decide (PySem.W.takesIn K (.builtin "object.__class__") = some true) &&
  (decide (PySem.W.mroIn K (He.ga K "Growing") (.type "object") = some true) && decide (PySem.W.kitOne K (.ref (He.ga K "Growing")) (.type "int") = some false)))))
abbrev R : PySem.W.OpenRow := PySem.W.OpenLaw.row PySem.Challenge.rw_mostclauses_k59_whole_nothing_told_twice
abbrev hk : PySem.W.Hook := He.hookX 5 fa fn [] [] exP
def ob (s : PySem.W.SharedT) : He.AlX := He.obsX 5 fa fn [] [] exP (HandSHeadRun.getT s)
theorem ob_eq (s : PySem.W.SharedT) : ob s = hk.obs s.abs := He.obsX_eq (HandSHeadRun.getT_eq s)
theorem run (w : World) : HandSHeadRun.RunEq R (PySem.W.view R.prog [68]) hk ob 6000 names w := by
  intro os
  kernel_rfl
end K59
set_option Elab.async false
set_option linter.all false
set_option maxRecDepth 100000
set_option maxHeartbeats 4000000
namespace K59
open PySem PySem.Spec PyProof.Rows L2
/-- what the top leaves, as the head tells it -/
structure Hd (K : PySem.W.Frag) (mg : Str → Option Value) : Prop where
  hp : ∃ h : Heap, K.In h ∧ h.Ns mainGlobals mg
  c : He.SaysD fa fn K
  ex : exP K = true
section
variable {K : PySem.W.Frag} {mg : Str → Option Value}
theorem Hd.free (hd : Hd K mg) (i : Nat) {x : Str} (h : fa[i]? = some (.free x) := by rfl) : mg x = none := by
  obtain ⟨_, X, G⟩ := hd.hp
  exact He.free_ok X G (hd.c.fact i h)
theorem Hd.glo (hd : Hd K mg) (i : Nat) {x : Str} (h : fa[i]? = some (.glo x) := by rfl) : mg x = some (.ref (He.ga K x)) := by
  obtain ⟨_, X, G⟩ := hd.hp
  exact He.glo_ok X G (hd.c.fact i h)
theorem Hd.int (hd : Hd K mg) (i : Nat) {x : Str} {n : Int} (h : fa[i]? = some (.int x n) := by rfl) : ∃ u, mg x = some u ∧ RelV (.int n) u := by
  obtain ⟨_, X, G⟩ := hd.hp
  obtain ⟨t, e⟩ := He.int_ok X G (hd.c.fact i h)
  exact ⟨_, e, t, rfl⟩
theorem Hd.g_ways_to (hd : Hd K mg) : mg "ways_to" = some (.ref (He.ga K "ways_to")) := hd.glo 0
theorem Hd.g_how_many (hd : Hd K mg) : mg "how_many" = some (.ref (He.ga K "how_many")) := hd.glo 1
theorem Hd.g_choices (hd : Hd K mg) : mg "choices" = some (.ref (He.ga K "choices")) := hd.glo 2
theorem Hd.g_is_whole (hd : Hd K mg) : mg "is_whole" = some (.ref (He.ga K "is_whole")) := hd.glo 3
theorem Hd.g_names_of (hd : Hd K mg) : mg "names_of" = some (.ref (He.ga K "names_of")) := hd.glo 4
theorem Hd.g_are_unlike (hd : Hd K mg) : mg "are_unlike" = some (.ref (He.ga K "are_unlike")) := hd.glo 5
theorem Hd.g_check_marks (hd : Hd K mg) : mg "check_marks" = some (.ref (He.ga K "check_marks")) := hd.glo 6
theorem Hd.g_first_fresh (hd : Hd K mg) : mg "first_fresh" = some (.ref (He.ga K "first_fresh")) := hd.glo 7
theorem Hd.g_ones_in (hd : Hd K mg) : mg "ones_in" = some (.ref (He.ga K "ones_in")) := hd.glo 8
theorem Hd.g_ones_in_part (hd : Hd K mg) : mg "ones_in_part" = some (.ref (He.ga K "ones_in_part")) := hd.glo 9
theorem Hd.g_is_part (hd : Hd K mg) : mg "is_part" = some (.ref (He.ga K "is_part")) := hd.glo 10
theorem Hd.g_size_of (hd : Hd K mg) : mg "size_of" = some (.ref (He.ga K "size_of")) := hd.glo 11
theorem Hd.g_has_net (hd : Hd K mg) : mg "has_net" = some (.ref (He.ga K "has_net")) := hd.glo 12
theorem Hd.g_marks_at (hd : Hd K mg) : mg "marks_at" = some (.ref (He.ga K "marks_at")) := hd.glo 13
theorem Hd.g_size_under (hd : Hd K mg) : mg "size_under" = some (.ref (He.ga K "size_under")) := hd.glo 14
theorem Hd.g_row_of (hd : Hd K mg) : mg "row_of" = some (.ref (He.ga K "row_of")) := hd.glo 15
theorem Hd.g_gather (hd : Hd K mg) : mg "gather" = some (.ref (He.ga K "gather")) := hd.glo 16
theorem Hd.g_check_part (hd : Hd K mg) : mg "check_part" = some (.ref (He.ga K "check_part")) := hd.glo 17
theorem Hd.g_law_begun (hd : Hd K mg) : mg "_law_begun" = some (.ref (He.ga K "_law_begun")) := hd.glo 18
theorem Hd.g_law_draw (hd : Hd K mg) : mg "_law_draw" = some (.ref (He.ga K "_law_draw")) := hd.glo 19
theorem Hd.g_law_pick (hd : Hd K mg) : mg "_law_pick" = some (.ref (He.ga K "_law_pick")) := hd.glo 20
theorem Hd.g_law_marks (hd : Hd K mg) : mg "_law_marks" = some (.ref (He.ga K "_law_marks")) := hd.glo 21
theorem Hd.g_law_size (hd : Hd K mg) : mg "_law_size" = some (.ref (He.ga K "_law_size")) := hd.glo 22
theorem Hd.g_law_choices (hd : Hd K mg) : mg "_law_choices" = some (.ref (He.ga K "_law_choices")) := hd.glo 23
theorem Hd.g_law_sums (hd : Hd K mg) : mg "_law_sums" = some (.ref (He.ga K "_law_sums")) := hd.glo 24
theorem Hd.g_law_gather (hd : Hd K mg) : mg "_law_gather" = some (.ref (He.ga K "_law_gather")) := hd.glo 25
theorem Hd.g_law_under (hd : Hd K mg) : mg "_law_under" = some (.ref (He.ga K "_law_under")) := hd.glo 26
theorem Hd.g_law_lens (hd : Hd K mg) : mg "_law_lens" = some (.ref (He.ga K "_law_lens")) := hd.glo 27
theorem Hd.g_law_lacks (hd : Hd K mg) : mg "_law_lacks" = some (.ref (He.ga K "_law_lacks")) := hd.glo 28
theorem Hd.g_law_room (hd : Hd K mg) : mg "_law_room" = some (.ref (He.ga K "_law_room")) := hd.glo 29
theorem Hd.g_law_grow (hd : Hd K mg) : mg "_law_grow" = some (.ref (He.ga K "_law_grow")) := hd.glo 30
theorem Hd.g_law_modelled (hd : Hd K mg) : mg "_law_modelled" = some (.ref (He.ga K "_law_modelled")) := hd.glo 31
theorem Hd.g_law_puts (hd : Hd K mg) : mg "_law_puts" = some (.ref (He.ga K "_law_puts")) := hd.glo 32
theorem Hd.g_law_joined (hd : Hd K mg) : mg "_law_joined" = some (.ref (He.ga K "_law_joined")) := hd.glo 33
theorem Hd.g_law_do (hd : Hd K mg) : mg "_law_do" = some (.ref (He.ga K "_law_do")) := hd.glo 34
theorem Hd.g_law_there (hd : Hd K mg) : mg "_law_there" = some (.ref (He.ga K "_law_there")) := hd.glo 35
theorem Hd.g_law_more_marks (hd : Hd K mg) : mg "_law_more_marks" = some (.ref (He.ga K "_law_more_marks")) := hd.glo 36
theorem Hd.g_law_deed (hd : Hd K mg) : mg "_law_deed" = some (.ref (He.ga K "_law_deed")) := hd.glo 37
theorem Hd.g_law_told_deed (hd : Hd K mg) : mg "_law_told_deed" = some (.ref (He.ga K "_law_told_deed")) := hd.glo 38
theorem Hd.g_law_first_things (hd : Hd K mg) : mg "_law_first_things" = some (.ref (He.ga K "_law_first_things")) := hd.glo 39
theorem Hd.g_law_made (hd : Hd K mg) : mg "_law_made" = some (.ref (He.ga K "_law_made")) := hd.glo 40
theorem Hd.g_law_model (hd : Hd K mg) : mg "_law_model" = some (.ref (He.ga K "_law_model")) := hd.glo 41
theorem Hd.g_law_ways_up (hd : Hd K mg) : mg "_law_ways_up" = some (.ref (He.ga K "_law_ways_up")) := hd.glo 42
theorem Hd.g_law (hd : Hd K mg) : mg "law" = some (.ref (He.ga K "law")) := hd.glo 43
theorem Hd.g_Growing (hd : Hd K mg) : mg "Growing" = some (.ref (He.ga K "Growing")) := hd.glo 44
theorem Hd.g_Keeper (hd : Hd K mg) : mg "Keeper" = some (.ref (He.ga K "Keeper")) := hd.glo 45
theorem Hd.g_PART_WORDS (hd : Hd K mg) : mg "PART_WORDS" = some (.ref (He.ga K "PART_WORDS")) := hd.glo 46
theorem Hd.f_len (hd : Hd K mg) : mg "len" = none := hd.free 47
theorem Hd.f_range (hd : Hd K mg) : mg "range" = none := hd.free 48
theorem Hd.f_enumerate (hd : Hd K mg) : mg "enumerate" = none := hd.free 49
theorem Hd.f_sum (hd : Hd K mg) : mg "sum" = none := hd.free 50
theorem Hd.f_min (hd : Hd K mg) : mg "min" = none := hd.free 51
theorem Hd.f_max (hd : Hd K mg) : mg "max" = none := hd.free 52
theorem Hd.f_abs (hd : Hd K mg) : mg "abs" = none := hd.free 53
theorem Hd.f_isinstance (hd : Hd K mg) : mg "isinstance" = none := hd.free 54
theorem Hd.f_int (hd : Hd K mg) : mg "int" = none := hd.free 55
theorem Hd.f_bool (hd : Hd K mg) : mg "bool" = none := hd.free 56
theorem Hd.f_tuple (hd : Hd K mg) : mg "tuple" = none := hd.free 57
theorem Hd.f_list (hd : Hd K mg) : mg "list" = none := hd.free 58
theorem Hd.f_set (hd : Hd K mg) : mg "set" = none := hd.free 59
theorem Hd.f_dict (hd : Hd K mg) : mg "dict" = none := hd.free 60
theorem Hd.f_any (hd : Hd K mg) : mg "any" = none := hd.free 61
theorem Hd.f_zip (hd : Hd K mg) : mg "zip" = none := hd.free 62
theorem Hd.f_sorted (hd : Hd K mg) : mg "sorted" = none := hd.free 63
theorem Hd.i_MOST_CHOICES (hd : Hd K mg) : ∃ u, mg "MOST_CHOICES" = some u ∧ RelV (.int 3003) u := hd.int 64
theorem Hd.i_GREATEST_TOLD (hd : Hd K mg) : ∃ u, mg "GREATEST_TOLD" = some u ∧ RelV (.int 1000000000) u := hd.int 65
theorem Hd.i_MOST_MARKS (hd : Hd K mg) : ∃ u, mg "MOST_MARKS" = some u ∧ RelV (.int 60) u := hd.int 66
theorem Hd.i_MOST_DEEP (hd : Hd K mg) : ∃ u, mg "MOST_DEEP" = some u ∧ RelV (.int 60) u := hd.int 67
theorem Hd.i_MOST_CLAUSES (hd : Hd K mg) : ∃ u, mg "MOST_CLAUSES" = some u ∧ RelV (.int 3003) u := hd.int 68
theorem Hd.c_Growing (hd : Hd K mg) : Cls K (He.ga K "Growing") := He.cls_ok (x := "Growing") (hd.c.fact 69 rfl)
theorem Hd.k_Growing (hd : Hd K mg) : Mk K (He.ga K "Growing") (He.ma K (He.ga K "Growing") "__init__") := He.mkr_ok (x := "Growing") (hd.c.fact 70 rfl)
theorem Hd.n_Growing_sources (hd : Hd K mg) : NoAttr K (He.ga K "Growing") "sources" := He.noat_ok (x := "Growing") (hd.c.fact 71 rfl)
theorem Hd.n_Growing_size (hd : Hd K mg) : NoAttr K (He.ga K "Growing") "size" := He.noat_ok (x := "Growing") (hd.c.fact 72 rfl)
theorem Hd.n_Growing_outs (hd : Hd K mg) : NoAttr K (He.ga K "Growing") "outs" := He.noat_ok (x := "Growing") (hd.c.fact 73 rfl)
theorem Hd.m_Growing_row_to (hd : Hd K mg) : Meth K (He.ga K "Growing") "row_to" (He.ma K (He.ga K "Growing") "row_to") := He.meth_ok (x := "Growing") (m := "row_to") (hd.c.fact 74 rfl)
theorem Hd.m_Growing_lens_to (hd : Hd K mg) : Meth K (He.ga K "Growing") "lens_to" (He.ma K (He.ga K "Growing") "lens_to") := He.meth_ok (x := "Growing") (m := "lens_to") (hd.c.fact 75 rfl)
theorem Hd.m_Growing_lacks (hd : Hd K mg) : Meth K (He.ga K "Growing") "lacks" (He.ma K (He.ga K "Growing") "lacks") := He.meth_ok (x := "Growing") (m := "lacks") (hd.c.fact 76 rfl)
theorem Hd.m_Growing_many_ahead (hd : Hd K mg) : Meth K (He.ga K "Growing") "many_ahead" (He.ma K (He.ga K "Growing") "many_ahead") := He.meth_ok (x := "Growing") (m := "many_ahead") (hd.c.fact 77 rfl)
theorem Hd.m_Growing_grow (hd : Hd K mg) : Meth K (He.ga K "Growing") "grow" (He.ma K (He.ga K "Growing") "grow") := He.meth_ok (x := "Growing") (m := "grow") (hd.c.fact 78 rfl)
theorem Hd.c_Keeper (hd : Hd K mg) : Cls K (He.ga K "Keeper") := He.cls_ok (x := "Keeper") (hd.c.fact 79 rfl)
theorem Hd.k_Keeper (hd : Hd K mg) : Mk K (He.ga K "Keeper") (He.ma K (He.ga K "Keeper") "__init__") := He.mkr_ok (x := "Keeper") (hd.c.fact 80 rfl)
theorem Hd.n_Keeper_coming (hd : Hd K mg) : NoAttr K (He.ga K "Keeper") "coming" := He.noat_ok (x := "Keeper") (hd.c.fact 81 rfl)
theorem Hd.n_Keeper_held_marks (hd : Hd K mg) : NoAttr K (He.ga K "Keeper") "held_marks" := He.noat_ok (x := "Keeper") (hd.c.fact 82 rfl)
theorem Hd.n_Keeper_cap (hd : Hd K mg) : NoAttr K (He.ga K "Keeper") "cap" := He.noat_ok (x := "Keeper") (hd.c.fact 83 rfl)
theorem Hd.n_Keeper_top (hd : Hd K mg) : NoAttr K (He.ga K "Keeper") "top" := He.noat_ok (x := "Keeper") (hd.c.fact 84 rfl)
theorem Hd.n_Keeper_growers (hd : Hd K mg) : NoAttr K (He.ga K "Keeper") "growers" := He.noat_ok (x := "Keeper") (hd.c.fact 85 rfl)
theorem Hd.n_Keeper_meanings (hd : Hd K mg) : NoAttr K (He.ga K "Keeper") "meanings" := He.noat_ok (x := "Keeper") (hd.c.fact 86 rfl)
theorem Hd.n_Keeper_told_clauses (hd : Hd K mg) : NoAttr K (He.ga K "Keeper") "told_clauses" := He.noat_ok (x := "Keeper") (hd.c.fact 87 rfl)
theorem Hd.n_Keeper_ahead (hd : Hd K mg) : NoAttr K (He.ga K "Keeper") "ahead" := He.noat_ok (x := "Keeper") (hd.c.fact 88 rfl)
theorem Hd.m_Keeper_check_room (hd : Hd K mg) : Meth K (He.ga K "Keeper") "check_room" (He.ma K (He.ga K "Keeper") "check_room") := He.meth_ok (x := "Keeper") (m := "check_room") (hd.c.fact 89 rfl)
theorem Hd.m_Keeper_grow_all (hd : Hd K mg) : Meth K (He.ga K "Keeper") "grow_all" (He.ma K (He.ga K "Keeper") "grow_all") := He.meth_ok (x := "Keeper") (m := "grow_all") (hd.c.fact 90 rfl)
theorem Hd.m_Keeper_is_far (hd : Hd K mg) : Meth K (He.ga K "Keeper") "is_far" (He.ma K (He.ga K "Keeper") "is_far") := He.meth_ok (x := "Keeper") (m := "is_far") (hd.c.fact 91 rfl)
theorem Hd.m_Keeper_note (hd : Hd K mg) : Meth K (He.ga K "Keeper") "note" (He.ma K (He.ga K "Keeper") "note") := He.meth_ok (x := "Keeper") (m := "note") (hd.c.fact 92 rfl)
theorem Hd.m_Keeper_bound (hd : Hd K mg) : Meth K (He.ga K "Keeper") "bound" (He.ma K (He.ga K "Keeper") "bound") := He.meth_ok (x := "Keeper") (m := "bound") (hd.c.fact 93 rfl)
theorem Hd.m_Keeper_wider (hd : Hd K mg) : Meth K (He.ga K "Keeper") "wider" (He.ma K (He.ga K "Keeper") "wider") := He.meth_ok (x := "Keeper") (m := "wider") (hd.c.fact 94 rfl)
theorem Hd.m_Keeper_check_more (hd : Hd K mg) : Meth K (He.ga K "Keeper") "check_more" (He.ma K (He.ga K "Keeper") "check_more") := He.meth_ok (x := "Keeper") (m := "check_more") (hd.c.fact 95 rfl)
theorem Hd.m_Keeper_more (hd : Hd K mg) : Meth K (He.ga K "Keeper") "more" (He.ma K (He.ga K "Keeper") "more") := He.meth_ok (x := "Keeper") (m := "more") (hd.c.fact 96 rfl)
theorem Hd.m_Keeper_back (hd : Hd K mg) : Meth K (He.ga K "Keeper") "back" (He.ma K (He.ga K "Keeper") "back") := He.meth_ok (x := "Keeper") (m := "back") (hd.c.fact 97 rfl)
theorem Hd.m_Keeper_marks (hd : Hd K mg) : Meth K (He.ga K "Keeper") "marks" (He.ma K (He.ga K "Keeper") "marks") := He.meth_ok (x := "Keeper") (m := "marks") (hd.c.fact 98 rfl)
theorem Hd.m_Keeper_puts (hd : Hd K mg) : Meth K (He.ga K "Keeper") "puts" (He.ma K (He.ga K "Keeper") "puts") := He.meth_ok (x := "Keeper") (m := "puts") (hd.c.fact 99 rfl)
theorem Hd.m_Keeper_clauses (hd : Hd K mg) : Meth K (He.ga K "Keeper") "clauses" (He.ma K (He.ga K "Keeper") "clauses") := He.meth_ok (x := "Keeper") (m := "clauses") (hd.c.fact 100 rfl)
theorem Hd.m_Keeper_names (hd : Hd K mg) : Meth K (He.ga K "Keeper") "names" (He.ma K (He.ga K "Keeper") "names") := He.meth_ok (x := "Keeper") (m := "names") (hd.c.fact 101 rfl)
theorem Hd.d_ways_to (hd : Hd K mg) : ∃ fd, FunD K "ways_to" "ways_to" (defArgs s_ways_to) (defBody s_ways_to) (defScope s_ways_to) [] [] (He.ga K "ways_to") fd := hd.c.def_ 0 (d := K59.d_ways_to) rfl
theorem Hd.d_how_many (hd : Hd K mg) : ∃ fd, FunD K "how_many" "how_many" (defArgs s_how_many) (defBody s_how_many) (defScope s_how_many) [] [] (He.ga K "how_many") fd := hd.c.def_ 1 (d := K59.d_how_many) rfl
theorem Hd.d_choices (hd : Hd K mg) : ∃ fd, FunD K "choices" "choices" (defArgs s_choices) (defBody s_choices) (defScope s_choices) [] [] (He.ga K "choices") fd := hd.c.def_ 2 (d := K59.d_choices) rfl
theorem Hd.d_is_whole (hd : Hd K mg) : ∃ fd, FunD K "is_whole" "is_whole" (defArgs s_is_whole) (defBody s_is_whole) (defScope s_is_whole) [] [] (He.ga K "is_whole") fd := hd.c.def_ 3 (d := K59.d_is_whole) rfl
theorem Hd.d_names_of (hd : Hd K mg) : ∃ fd, FunD K "names_of" "names_of" (defArgs s_names_of) (defBody s_names_of) (defScope s_names_of) [] [] (He.ga K "names_of") fd := hd.c.def_ 4 (d := K59.d_names_of) rfl
theorem Hd.d_are_unlike (hd : Hd K mg) : ∃ fd, FunD K "are_unlike" "are_unlike" (defArgs s_are_unlike) (defBody s_are_unlike) (defScope s_are_unlike) [] [] (He.ga K "are_unlike") fd := hd.c.def_ 5 (d := K59.d_are_unlike) rfl
theorem Hd.d_check_marks (hd : Hd K mg) : ∃ fd, FunD K "check_marks" "check_marks" (defArgs s_check_marks) (defBody s_check_marks) (defScope s_check_marks) [.int 1000000000] [] (He.ga K "check_marks") fd := hd.c.def_ 6 (d := K59.d_check_marks) rfl
theorem Hd.d_first_fresh (hd : Hd K mg) : ∃ fd, FunD K "first_fresh" "first_fresh" (defArgs s_first_fresh) (defBody s_first_fresh) (defScope s_first_fresh) [] [] (He.ga K "first_fresh") fd := hd.c.def_ 7 (d := K59.d_first_fresh) rfl
theorem Hd.d_ones_in (hd : Hd K mg) : ∃ fd, FunD K "ones_in" "ones_in" (defArgs s_ones_in) (defBody s_ones_in) (defScope s_ones_in) [] [] (He.ga K "ones_in") fd := hd.c.def_ 8 (d := K59.d_ones_in) rfl
theorem Hd.d_ones_in_part (hd : Hd K mg) : ∃ fd, FunD K "ones_in_part" "ones_in_part" (defArgs s_ones_in_part) (defBody s_ones_in_part) (defScope s_ones_in_part) [] [] (He.ga K "ones_in_part") fd := hd.c.def_ 9 (d := K59.d_ones_in_part) rfl
theorem Hd.d_is_part (hd : Hd K mg) : ∃ fd, FunD K "is_part" "is_part" (defArgs s_is_part) (defBody s_is_part) (defScope s_is_part) [] [] (He.ga K "is_part") fd := hd.c.def_ 10 (d := K59.d_is_part) rfl
theorem Hd.d_size_of (hd : Hd K mg) : ∃ fd, FunD K "size_of" "size_of" (defArgs s_size_of) (defBody s_size_of) (defScope s_size_of) [] [] (He.ga K "size_of") fd := hd.c.def_ 11 (d := K59.d_size_of) rfl
theorem Hd.d_has_net (hd : Hd K mg) : ∃ fd, FunD K "has_net" "has_net" (defArgs s_has_net) (defBody s_has_net) (defScope s_has_net) [] [] (He.ga K "has_net") fd := hd.c.def_ 12 (d := K59.d_has_net) rfl
theorem Hd.d_marks_at (hd : Hd K mg) : ∃ fd, FunD K "marks_at" "marks_at" (defArgs s_marks_at) (defBody s_marks_at) (defScope s_marks_at) [] [] (He.ga K "marks_at") fd := hd.c.def_ 13 (d := K59.d_marks_at) rfl
theorem Hd.d_size_under (hd : Hd K mg) : ∃ fd, FunD K "size_under" "size_under" (defArgs s_size_under) (defBody s_size_under) (defScope s_size_under) [] [] (He.ga K "size_under") fd := hd.c.def_ 14 (d := K59.d_size_under) rfl
theorem Hd.d_row_of (hd : Hd K mg) : ∃ fd, FunD K "row_of" "row_of" (defArgs s_row_of) (defBody s_row_of) (defScope s_row_of) [] [] (He.ga K "row_of") fd := hd.c.def_ 15 (d := K59.d_row_of) rfl
theorem Hd.d_Growing_init (hd : Hd K mg) : ∃ fd, FunD K "__init__" "Growing.__init__" (defArgs s_Growing_init) (defBody s_Growing_init) (defScope s_Growing_init) [] [] (He.ma K (He.ga K "Growing") "__init__") fd := hd.c.def_ 16 (d := K59.d_Growing_init) rfl
theorem Hd.d_Growing_row_to (hd : Hd K mg) : ∃ fd, FunD K "row_to" "Growing.row_to" (defArgs s_Growing_row_to) (defBody s_Growing_row_to) (defScope s_Growing_row_to) [] [] (He.ma K (He.ga K "Growing") "row_to") fd := hd.c.def_ 17 (d := K59.d_Growing_row_to) rfl
theorem Hd.d_Growing_lens_to (hd : Hd K mg) : ∃ fd, FunD K "lens_to" "Growing.lens_to" (defArgs s_Growing_lens_to) (defBody s_Growing_lens_to) (defScope s_Growing_lens_to) [] [] (He.ma K (He.ga K "Growing") "lens_to") fd := hd.c.def_ 18 (d := K59.d_Growing_lens_to) rfl
theorem Hd.d_Growing_lacks (hd : Hd K mg) : ∃ fd, FunD K "lacks" "Growing.lacks" (defArgs s_Growing_lacks) (defBody s_Growing_lacks) (defScope s_Growing_lacks) [] [] (He.ma K (He.ga K "Growing") "lacks") fd := hd.c.def_ 19 (d := K59.d_Growing_lacks) rfl
theorem Hd.d_Growing_many_ahead (hd : Hd K mg) : ∃ fd, FunD K "many_ahead" "Growing.many_ahead" (defArgs s_Growing_many_ahead) (defBody s_Growing_many_ahead) (defScope s_Growing_many_ahead) [] [] (He.ma K (He.ga K "Growing") "many_ahead") fd := hd.c.def_ 20 (d := K59.d_Growing_many_ahead) rfl
theorem Hd.d_Growing_grow (hd : Hd K mg) : ∃ fd, FunD K "grow" "Growing.grow" (defArgs s_Growing_grow) (defBody s_Growing_grow) (defScope s_Growing_grow) [] [] (He.ma K (He.ga K "Growing") "grow") fd := hd.c.def_ 21 (d := K59.d_Growing_grow) rfl
theorem Hd.d_gather (hd : Hd K mg) : ∃ fd, FunD K "gather" "gather" (defArgs s_gather) (defBody s_gather) (defScope s_gather) [] [] (He.ga K "gather") fd := hd.c.def_ 22 (d := K59.d_gather) rfl
theorem Hd.d_check_part (hd : Hd K mg) : ∃ fd, FunD K "check_part" "check_part" (defArgs s_check_part) (defBody s_check_part) (defScope s_check_part) [] [] (He.ga K "check_part") fd := hd.c.def_ 23 (d := K59.d_check_part) rfl
theorem Hd.d_Keeper_init (hd : Hd K mg) : ∃ fd, FunD K "__init__" "Keeper.__init__" (defArgs s_Keeper_init) (defBody s_Keeper_init) (defScope s_Keeper_init) [] [("fresh", .non)] (He.ma K (He.ga K "Keeper") "__init__") fd := hd.c.def_ 24 (d := K59.d_Keeper_init) rfl
theorem Hd.d_Keeper_check_room (hd : Hd K mg) : ∃ fd, FunD K "check_room" "Keeper.check_room" (defArgs s_Keeper_check_room) (defBody s_Keeper_check_room) (defScope s_Keeper_check_room) [] [] (He.ma K (He.ga K "Keeper") "check_room") fd := hd.c.def_ 25 (d := K59.d_Keeper_check_room) rfl
theorem Hd.d_Keeper_grow_all (hd : Hd K mg) : ∃ fd, FunD K "grow_all" "Keeper.grow_all" (defArgs s_Keeper_grow_all) (defBody s_Keeper_grow_all) (defScope s_Keeper_grow_all) [] [] (He.ma K (He.ga K "Keeper") "grow_all") fd := hd.c.def_ 26 (d := K59.d_Keeper_grow_all) rfl
theorem Hd.d_Keeper_is_far (hd : Hd K mg) : ∃ fd, FunD K "is_far" "Keeper.is_far" (defArgs s_Keeper_is_far) (defBody s_Keeper_is_far) (defScope s_Keeper_is_far) [] [] (He.ma K (He.ga K "Keeper") "is_far") fd := hd.c.def_ 27 (d := K59.d_Keeper_is_far) rfl
theorem Hd.d_Keeper_note (hd : Hd K mg) : ∃ fd, FunD K "note" "Keeper.note" (defArgs s_Keeper_note) (defBody s_Keeper_note) (defScope s_Keeper_note) [] [] (He.ma K (He.ga K "Keeper") "note") fd := hd.c.def_ 28 (d := K59.d_Keeper_note) rfl
theorem Hd.d_Keeper_bound (hd : Hd K mg) : ∃ fd, FunD K "bound" "Keeper.bound" (defArgs s_Keeper_bound) (defBody s_Keeper_bound) (defScope s_Keeper_bound) [] [] (He.ma K (He.ga K "Keeper") "bound") fd := hd.c.def_ 29 (d := K59.d_Keeper_bound) rfl
theorem Hd.d_Keeper_wider (hd : Hd K mg) : ∃ fd, FunD K "wider" "Keeper.wider" (defArgs s_Keeper_wider) (defBody s_Keeper_wider) (defScope s_Keeper_wider) [] [] (He.ma K (He.ga K "Keeper") "wider") fd := hd.c.def_ 30 (d := K59.d_Keeper_wider) rfl
theorem Hd.d_Keeper_check_more (hd : Hd K mg) : ∃ fd, FunD K "check_more" "Keeper.check_more" (defArgs s_Keeper_check_more) (defBody s_Keeper_check_more) (defScope s_Keeper_check_more) [] [] (He.ma K (He.ga K "Keeper") "check_more") fd := hd.c.def_ 31 (d := K59.d_Keeper_check_more) rfl
theorem Hd.d_Keeper_more (hd : Hd K mg) : ∃ fd, FunD K "more" "Keeper.more" (defArgs s_Keeper_more) (defBody s_Keeper_more) (defScope s_Keeper_more) [] [] (He.ma K (He.ga K "Keeper") "more") fd := hd.c.def_ 32 (d := K59.d_Keeper_more) rfl
theorem Hd.d_Keeper_back (hd : Hd K mg) : ∃ fd, FunD K "back" "Keeper.back" (defArgs s_Keeper_back) (defBody s_Keeper_back) (defScope s_Keeper_back) [] [] (He.ma K (He.ga K "Keeper") "back") fd := hd.c.def_ 33 (d := K59.d_Keeper_back) rfl
theorem Hd.d_Keeper_marks (hd : Hd K mg) : ∃ fd, FunD K "marks" "Keeper.marks" (defArgs s_Keeper_marks) (defBody s_Keeper_marks) (defScope s_Keeper_marks) [] [] (He.ma K (He.ga K "Keeper") "marks") fd := hd.c.def_ 34 (d := K59.d_Keeper_marks) rfl
theorem Hd.d_Keeper_puts (hd : Hd K mg) : ∃ fd, FunD K "puts" "Keeper.puts" (defArgs s_Keeper_puts) (defBody s_Keeper_puts) (defScope s_Keeper_puts) [] [] (He.ma K (He.ga K "Keeper") "puts") fd := hd.c.def_ 35 (d := K59.d_Keeper_puts) rfl
theorem Hd.d_Keeper_clauses (hd : Hd K mg) : ∃ fd, FunD K "clauses" "Keeper.clauses" (defArgs s_Keeper_clauses) (defBody s_Keeper_clauses) (defScope s_Keeper_clauses) [] [] (He.ma K (He.ga K "Keeper") "clauses") fd := hd.c.def_ 36 (d := K59.d_Keeper_clauses) rfl
theorem Hd.d_Keeper_names (hd : Hd K mg) : ∃ fd, FunD K "names" "Keeper.names" (defArgs s_Keeper_names) (defBody s_Keeper_names) (defScope s_Keeper_names) [] [] (He.ma K (He.ga K "Keeper") "names") fd := hd.c.def_ 37 (d := K59.d_Keeper_names) rfl
theorem Hd.d_law_begun (hd : Hd K mg) : ∃ fd, FunD K "_law_begun" "_law_begun" (defArgs s_law_begun) (defBody s_law_begun) (defScope s_law_begun) [] [] (He.ga K "_law_begun") fd := hd.c.def_ 38 (d := K59.d_law_begun) rfl
theorem Hd.d_law_draw (hd : Hd K mg) : ∃ fd, FunD K "_law_draw" "_law_draw" (defArgs s_law_draw) (defBody s_law_draw) (defScope s_law_draw) [] [] (He.ga K "_law_draw") fd := hd.c.def_ 39 (d := K59.d_law_draw) rfl
theorem Hd.d_law_pick (hd : Hd K mg) : ∃ fd, FunD K "_law_pick" "_law_pick" (defArgs s_law_pick) (defBody s_law_pick) (defScope s_law_pick) [] [] (He.ga K "_law_pick") fd := hd.c.def_ 40 (d := K59.d_law_pick) rfl
theorem Hd.d_law_marks (hd : Hd K mg) : ∃ fd, FunD K "_law_marks" "_law_marks" (defArgs s_law_marks) (defBody s_law_marks) (defScope s_law_marks) [] [] (He.ga K "_law_marks") fd := hd.c.def_ 41 (d := K59.d_law_marks) rfl
theorem Hd.d_law_size (hd : Hd K mg) : ∃ fd, FunD K "_law_size" "_law_size" (defArgs s_law_size) (defBody s_law_size) (defScope s_law_size) [] [] (He.ga K "_law_size") fd := hd.c.def_ 42 (d := K59.d_law_size) rfl
theorem Hd.d_law_choices (hd : Hd K mg) : ∃ fd, FunD K "_law_choices" "_law_choices" (defArgs s_law_choices) (defBody s_law_choices) (defScope s_law_choices) [] [] (He.ga K "_law_choices") fd := hd.c.def_ 43 (d := K59.d_law_choices) rfl
theorem Hd.d_law_sums (hd : Hd K mg) : ∃ fd, FunD K "_law_sums" "_law_sums" (defArgs s_law_sums) (defBody s_law_sums) (defScope s_law_sums) [] [] (He.ga K "_law_sums") fd := hd.c.def_ 44 (d := K59.d_law_sums) rfl
theorem Hd.d_law_gather (hd : Hd K mg) : ∃ fd, FunD K "_law_gather" "_law_gather" (defArgs s_law_gather) (defBody s_law_gather) (defScope s_law_gather) [] [] (He.ga K "_law_gather") fd := hd.c.def_ 45 (d := K59.d_law_gather) rfl
theorem Hd.d_law_under (hd : Hd K mg) : ∃ fd, FunD K "_law_under" "_law_under" (defArgs s_law_under) (defBody s_law_under) (defScope s_law_under) [] [] (He.ga K "_law_under") fd := hd.c.def_ 46 (d := K59.d_law_under) rfl
theorem Hd.d_law_lens (hd : Hd K mg) : ∃ fd, FunD K "_law_lens" "_law_lens" (defArgs s_law_lens) (defBody s_law_lens) (defScope s_law_lens) [] [] (He.ga K "_law_lens") fd := hd.c.def_ 47 (d := K59.d_law_lens) rfl
theorem Hd.d_law_lacks (hd : Hd K mg) : ∃ fd, FunD K "_law_lacks" "_law_lacks" (defArgs s_law_lacks) (defBody s_law_lacks) (defScope s_law_lacks) [] [] (He.ga K "_law_lacks") fd := hd.c.def_ 48 (d := K59.d_law_lacks) rfl
theorem Hd.d_law_room (hd : Hd K mg) : ∃ fd, FunD K "_law_room" "_law_room" (defArgs s_law_room) (defBody s_law_room) (defScope s_law_room) [] [] (He.ga K "_law_room") fd := hd.c.def_ 49 (d := K59.d_law_room) rfl
theorem Hd.d_law_grow (hd : Hd K mg) : ∃ fd, FunD K "_law_grow" "_law_grow" (defArgs s_law_grow) (defBody s_law_grow) (defScope s_law_grow) [] [] (He.ga K "_law_grow") fd := hd.c.def_ 50 (d := K59.d_law_grow) rfl
theorem Hd.d_law_modelled (hd : Hd K mg) : ∃ fd, FunD K "_law_modelled" "_law_modelled" (defArgs s_law_modelled) (defBody s_law_modelled) (defScope s_law_modelled) [] [] (He.ga K "_law_modelled") fd := hd.c.def_ 51 (d := K59.d_law_modelled) rfl
theorem Hd.d_law_puts (hd : Hd K mg) : ∃ fd, FunD K "_law_puts" "_law_puts" (defArgs s_law_puts) (defBody s_law_puts) (defScope s_law_puts) [] [] (He.ga K "_law_puts") fd := hd.c.def_ 52 (d := K59.d_law_puts) rfl
theorem Hd.d_law_joined (hd : Hd K mg) : ∃ fd, FunD K "_law_joined" "_law_joined" (defArgs s_law_joined) (defBody s_law_joined) (defScope s_law_joined) [] [] (He.ga K "_law_joined") fd := hd.c.def_ 53 (d := K59.d_law_joined) rfl
theorem Hd.d_law_do (hd : Hd K mg) : ∃ fd, FunD K "_law_do" "_law_do" (defArgs s_law_do) (defBody s_law_do) (defScope s_law_do) [] [] (He.ga K "_law_do") fd := hd.c.def_ 54 (d := K59.d_law_do) rfl
theorem Hd.d_law_there (hd : Hd K mg) : ∃ fd, FunD K "_law_there" "_law_there" (defArgs s_law_there) (defBody s_law_there) (defScope s_law_there) [] [] (He.ga K "_law_there") fd := hd.c.def_ 55 (d := K59.d_law_there) rfl
theorem Hd.d_law_more_marks (hd : Hd K mg) : ∃ fd, FunD K "_law_more_marks" "_law_more_marks" (defArgs s_law_more_marks) (defBody s_law_more_marks) (defScope s_law_more_marks) [] [] (He.ga K "_law_more_marks") fd := hd.c.def_ 56 (d := K59.d_law_more_marks) rfl
theorem Hd.d_law_deed (hd : Hd K mg) : ∃ fd, FunD K "_law_deed" "_law_deed" (defArgs s_law_deed) (defBody s_law_deed) (defScope s_law_deed) [] [] (He.ga K "_law_deed") fd := hd.c.def_ 57 (d := K59.d_law_deed) rfl
theorem Hd.d_law_told_deed (hd : Hd K mg) : ∃ fd, FunD K "_law_told_deed" "_law_told_deed" (defArgs s_law_told_deed) (defBody s_law_told_deed) (defScope s_law_told_deed) [] [] (He.ga K "_law_told_deed") fd := hd.c.def_ 58 (d := K59.d_law_told_deed) rfl
theorem Hd.d_law_first_things (hd : Hd K mg) : ∃ fd, FunD K "_law_first_things" "_law_first_things" (defArgs s_law_first_things) (defBody s_law_first_things) (defScope s_law_first_things) [] [] (He.ga K "_law_first_things") fd := hd.c.def_ 59 (d := K59.d_law_first_things) rfl
theorem Hd.d_law_made (hd : Hd K mg) : ∃ fd, FunD K "_law_made" "_law_made" (defArgs s_law_made) (defBody s_law_made) (defScope s_law_made) [] [] (He.ga K "_law_made") fd := hd.c.def_ 60 (d := K59.d_law_made) rfl
theorem Hd.d_law_model (hd : Hd K mg) : ∃ fd, FunD K "_law_model" "_law_model" (defArgs s_law_model) (defBody s_law_model) (defScope s_law_model) [] [] (He.ga K "_law_model") fd := hd.c.def_ 61 (d := K59.d_law_model) rfl
theorem Hd.d_law_ways_up (hd : Hd K mg) : ∃ fd, FunD K "_law_ways_up" "_law_ways_up" (defArgs s_law_ways_up) (defBody s_law_ways_up) (defScope s_law_ways_up) [] [] (He.ga K "_law_ways_up") fd := hd.c.def_ 62 (d := K59.d_law_ways_up) rfl
theorem Hd.d_law (hd : Hd K mg) : ∃ fd, FunD K "law" "law" (defArgs s_law) (defBody s_law) (defScope s_law) [] [] (He.ga K "law") fd := hd.c.def_ 63 (d := K59.d_law) rfl
theorem Hd.exs (hd : Hd K mg) : He.tupB K "PART_WORDS" [.str "sums", .str "net"] = true ∧ PySem.W.findIn K (.ref (He.ga K "Growing")) "__class__" = some (some (.builtin "object.__class__")) ∧
    PySem.W.specialIn K (.builtin "object.__class__") "__get__" = some (some (.builtin "getset_descriptor.__get__")) ∧ PySem.W.takesIn K (.builtin "object.__class__") = some true ∧
    PySem.W.mroIn K (He.ga K "Growing") (.type "object") = some true ∧ PySem.W.kitOne K (.ref (He.ga K "Growing")) (.type "int") = some false := by
  obtain ⟨a, h⟩ := He.ba hd.ex
  obtain ⟨b, h⟩ := He.ba h
  obtain ⟨c, h⟩ := He.ba h
  obtain ⟨d, h⟩ := He.ba h
  obtain ⟨e, f⟩ := He.ba h
  exact ⟨a, He.eqO_ok b, He.eqO_ok c, of_decide_eq_true d, of_decide_eq_true e, of_decide_eq_true f⟩
theorem Hd.words (hd : Hd K mg) (H : Hp) : SqT K H (He.ga K "PART_WORDS") [.str "sums", .str "net"] := He.tupB_ok hd.exs.1 H
/-- a Growing is no int -/
theorem Hd.isi_G (hd : Hd K mg) {H : Hp} {a dx : Addr} {fs : List (Str × V)} (e : H a = some (.ins (He.ga K "Growing") dx fs)) : TyX K H (.ref a) (.ref (He.ga K "Growing")) ∧ PySem.W.kitOne K (.ref (He.ga K "Growing")) (.type "int") = some false := by
  obtain ⟨_, b, c, d, g, f⟩ := hd.exs
  exact ⟨.base (.ins e hd.c_Growing b c d g), f⟩
end
end K59
set_option Elab.async false
set_option linter.all false
set_option maxRecDepth 100000
set_option maxHeartbeats 4000000
namespace K59
open PySem PySem.Spec PyProof.Rows L2
/-! ### frames: what a piece of code leaves as it was -/
/-- all that stood and isn't in M is as it was; tuples stay; nothing goes -/
structure Fm (M : Addr → Prop) (H H' : Hp) : Prop where
  keep : ∀ b o, H b = some o → ¬ M b → H' b = some o
  tups : ∀ b xs, H b = some (.tup xs) → H' b = some (.tup xs)
  live : ∀ b, H b ≠ none → H' b ≠ none
abbrev No : Addr → Prop := fun _ => False
abbrev Sm : Hp → Hp → Prop := Fm No
section
variable {M M' : Addr → Prop} {H H1 H2 H3 : Hp} {a b p : Addr} {o o' : HO}
theorem Fm.refl : Fm M H H := ⟨fun _ _ h _ => h, fun _ _ h => h, fun _ h => h⟩
theorem Fm.trans (x : Fm M H H1) (y : Fm M H1 H2) : Fm M H H2 :=
  ⟨fun b o h n => y.keep b o (x.keep b o h n) n, fun b xs h => y.tups b xs (x.tups b xs h), fun b h => y.live b (x.live b h)⟩
theorem Fm.mono (x : Fm M H H1) (h : ∀ b, H b ≠ none → M b → M' b) : Fm M' H H1 :=
  ⟨fun b o e n => x.keep b o e fun m => n (h b (by rw [e]; exact fun z => nomatch z) m), x.tups, x.live⟩
theorem Sm.to (x : Sm H H1) : Fm M H H1 := x.mono fun _ _ z => z.elim
theorem Fm.to (x : Fm No H H1) : Fm M H H1 := x.mono fun _ _ z => z.elim
theorem Sm.at (x : Sm H H1) (h : H b = some o) : H1 b = some o := x.keep b o h id
theorem Fm.at (x : Fm M H H1) (h : H b = some o) (n : ¬ M b) : H1 b = some o := x.keep b o h n
theorem Fm.free (x : Fm M H H1) (h : H1 b = none) : H b = none := by
  cases e : H b with
  | none => rfl
  | some o => exact absurd h (x.live b (by rw [e]; exact fun z => nomatch z))
theorem Fm.seqL {K : PySem.W.Frag} {xs : List V} (x : Fm M H H1) (h : SqL K H a xs) (n : ¬ M a) : SqL K H1 a xs := by
  rcases h with (h | ⟨o, h⟩) | h
  · exact .inl (.inl (x.keep _ _ h n))
  · exact .inl (.inr ⟨o, x.keep _ _ h n⟩)
  · exact .inr h
theorem Sm.seqL {K : PySem.W.Frag} {xs : List V} (x : Sm H H1) (h : SqL K H a xs) : SqL K H1 a xs := Fm.seqL x h id
theorem Fm.same (x : Sm H H1) : Same H H1 := fun _ _ h => x.at h
theorem Fm.of_same (x : Same H H1) : Fm M H H1 :=
  ⟨fun b o h _ => x b o h, fun b xs h => x b _ h, fun b h => by
    cases e : H b with
    | none => exact absurd e h
    | some o => rw [x b o e]; exact fun z => nomatch z⟩
theorem Fm.new (np : H p = none) : Fm M H (upd H p o) := .of_same fun b u e => by rw [upd_ne (ne_of_none e np)]; exact e
/-- an object of M that is no tuple is changed -/
theorem Fm.put (h : H a = some o) (m : M a) (nt : ∀ xs, o ≠ .tup xs) : Fm M H (upd H a o') :=
  ⟨fun b u e n => by rw [upd_ne (show b ≠ a from fun z => n (by rw [z]; exact m))]; exact e,
   fun b xs e => by
    have hb : b ≠ a := fun z => by
      subst z
      rw [h] at e
      exact nt xs (Option.some.inj e)
    rw [upd_ne hb]; exact e,
   fun b e => by
    by_cases hb : b = a
    · subst hb; rw [upd_same]; exact fun z => nomatch z
    · rw [upd_ne hb]; exact e⟩
theorem ne_live (h : H a = some o) (n : H p = none) : a ≠ p := ne_of_none h n
theorem live_of (h : H a = some o) : H a ≠ none := by rw [h]; exact fun z => nomatch z
/-- a new object: the heap behind it is a letter -/
@[elab_as_elim] theorem upd_new {motive : Hp → Prop} (np : H p = none) (h : ∀ H1, Sm H H1 → H1 p = some o → motive H1) : motive (upd H p o) := h _ (.new np) upd_same
/-- an object is changed -/
@[elab_as_elim] theorem upd_put {motive : Hp → Prop} (h0 : H a = some o) (nt : ∀ xs, o ≠ .tup xs) (h : ∀ H1, Fm (· = a) H H1 → H1 a = some o' → motive H1) : motive (upd H a o') := h _ (.put h0 rfl nt) upd_same
end
/-- what wasn't there ahead may be changed -/
theorem Fm.over {M : Addr → Prop} {H H1 : Hp} {p : Addr} {o : HO} (x : Fm M H H1) (np : H p = none) : Fm M H (upd H1 p o) :=
  ⟨fun b u e m => by rw [upd_ne (ne_of_none e np)]; exact x.keep b u e m, fun b xs e => by rw [upd_ne (ne_of_none e np)]; exact x.tups b xs e,
   fun b e => by
    have h := x.live b e
    by_cases c : b = p
    · subst c; rw [upd_same]; exact fun z => nomatch z
    · rw [upd_ne c]; exact h⟩
theorem Fm.over1 {M : Addr → Prop} {H H1 H2 : Hp} {p : Addr} (x : Fm M H H1) (np : H p = none) (y : Fm (· = p) H1 H2) : Fm M H H2 :=
  ⟨fun b u e m => y.keep b u (x.keep b u e m) (ne_of_none e np), fun b xs e => y.tups b xs (x.tups b xs e), fun b e => y.live b (x.live b e)⟩
theorem no_lst {ys : List V} : ∀ xs, (HO.lst ys) ≠ .tup xs := fun _ z => nomatch z
theorem no_dK {ys : List (Key × V)} : ∀ xs, (HO.dK ys) ≠ .tup xs := fun _ z => nomatch z
theorem no_ins {C dx : Addr} {fs : List (Str × V)} : ∀ xs, (HO.ins C dx fs) ≠ .tup xs := fun _ z => nomatch z
/-! ### comprehensions over what is walked -/
section
variable {J : It} {n : Nat} {G : Hp → Prop} {Y : Nat → Hp → V → Hp → Prop}
/-- [elt for .. in ..]: each element is got by itself; R i y H: y is the i-th one -/
theorem lc_all (w : Walk J n G Y) {g : TG} {te : TE} {vs : List Nat} {σ : L2.St} {H1 : Hp} {M : Addr → Prop} {Qd : Addr → Hp → Prop} (R : Nat → V → Hp → Prop)
    (hn : n ≤ sizeLine) (hM : ∀ b, M b → H1 b ≠ none) (hG : ∀ H, Fm M H1 H → G H) (hR : ∀ i y N H H', R i y H → Fm N H H' → R i y H')
    (hs : ∀ i x H H' (Qy : V → Hp → Prop), i < n → Fm M H1 H → Y i H x H' → (∀ y H4, Fm M H H4 → R i y H4 → Qy y H4) → g x (wipe σ vs) H' fun σ2 H2 => wipe σ2 vs = wipe σ vs ∧ te σ2 H2 Qy)
    (hd : ∀ D ys H', H1 D = none → Fm M H1 H' → H' D = some (.lst ys) → ys.length = n → (∀ i y, ys[i]? = some y → R i y H') → Qd D H') :
    ∀ D, H1 D = none → ∃ W : Nat → Nat → Hp → Prop, (∃ m, W 0 m (upd H1 D (.lst []))) ∧ ∀ i m H, W i m H →
      (J.stop i H ∧ Qd D H) ∨ (J.go i H ∧ ∃ Nx : Hp → Prop, (∀ H', Nx H' → ∃ m', m' < m ∧ W (i + 1) m' H') ∧ ∀ x H', J.yld i H x H' → g x (wipe σ vs) H' fun σ2 H2 => wipe σ2 vs = wipe σ vs ∧ tYes σ2 H2 fun b H3 =>
        if b = true then te σ2 H3 fun y H4 => ∃ acc, H4 D = some (.lst acc) ∧ acc.length < sizeLine ∧ Nx (upd H4 D (.lst (acc ++ [y]))) else Nx H3) := by
  intro D nD
  have mD : ¬ M D := fun z => hM D z nD
  have key : ∀ (H H4 : Hp) acc i y, H4 D = some (.lst acc) → Fm M H1 H4 → acc.length = i → (∀ j z, acc[j]? = some z → R j z H4) → R i y H4 →
      Fm M H1 (upd H4 D (.lst (acc ++ [y]))) ∧ ∃ acc', (upd H4 D (.lst (acc ++ [y]))) D = some (.lst acc') ∧ acc'.length = i + 1 ∧ ∀ j z, acc'[j]? = some z → R j z (upd H4 D (.lst (acc ++ [y]))) := by
    intro H H4 acc i y hD f hl hall hy
    have f2 : Fm (· = D) H4 (upd H4 D (.lst (acc ++ [y]))) := .put hD rfl no_lst
    refine ⟨⟨fun b o e m => ?_, fun b xs e => ?_, fun b e => ?_⟩, acc ++ [y], upd_same, by rw [List.length_append, hl]; rfl, fun j z e => ?_⟩
    · rw [upd_ne (ne_of_none e nD)]; exact f.keep b o e m
    · rw [upd_ne (ne_of_none e nD)]; exact f.tups b xs e
    · exact f2.live b (f.live b e)
    · by_cases c : j < acc.length
      · rw [List.getElem?_append_left c] at e
        exact hR j z _ _ _ (hall j z e) f2
      · rw [List.getElem?_append_right (by omega)] at e
        have ej : j - acc.length = 0 := by
          have := (List.getElem?_eq_some_iff.mp e).1
          simp at this; omega
        rw [ej] at e
        have ey : y = z := by simpa using e
        have ei : j = i := by omega
        subst ey; subst ei
        exact hR j y _ _ _ hy f2
  refine lc_it w (g := g) (tt := tYes) (te := te) (vs := vs) (σ := σ) (H1 := H1) (D := D) (Qd := Qd D)
    (fun i H => Fm M H1 H ∧ ∃ acc, H D = some (.lst acc) ∧ acc.length = i ∧ ∀ j z, acc[j]? = some z → R j z H) ?_ (fun i H _ p => hG H p.1) ?_ ?_
  · exact ⟨.new nD, [], upd_same, rfl, fun j z e => by simp at e⟩
  · intro i x H H' hi p y
    obtain ⟨f, acc, hD, hl, hall⟩ := p
    have q := hs i x H H' (fun y H4 => ∃ acc, H4 D = some (.lst acc) ∧ acc.length < sizeLine ∧ (Fm M H1 (upd H4 D (.lst (acc ++ [y]))) ∧ ∃ acc', (upd H4 D (.lst (acc ++ [y]))) D = some (.lst acc') ∧ acc'.length = i + 1 ∧ ∀ j z, acc'[j]? = some z → R j z (upd H4 D (.lst (acc ++ [y]))))) hi f y
      (fun y H4 f4 r4 => ⟨acc, f4.keep _ _ hD mD, by omega, key H H4 acc i y (f4.keep _ _ hD mD) (f.trans f4) hl (fun j z e => hR j z _ _ _ (hall j z e) f4) r4⟩)
    exact q
  · intro H p
    obtain ⟨f, acc, hD, hl, hall⟩ := p
    exact hd D acc H nD f hD hl hall
end
end K59
namespace K59
open PySem PySem.Spec PyProof.Rows L2
section
variable {P : Program} {w : World} {K : PySem.W.Frag} {mg : Str → Option Value} {base : Heap}
/-- a def's promise, by its body -/
theorem mk_cal {x qual : Str} {st : Stmt} {f : Addr} {fd : FuncData} {N ps : List Str} {k : Nat} {sp : Sp} (F : FunD K x qual (defArgs st) (defBody st) (defScope st) [] [] f fd) (g : mg x = some (.ref f)) (b : Binds K fd ps [])
    (S : FnScope N ps (defScope st)) (len : ∀ vs H Q E, sp vs H Q E → vs.length = ps.length)
    (hbody : ∀ (cdv : Value) (A : Around) (outer : List Env) (s : Shared) (H : Hp) (vs : List V) (Q : VK) (E : XK), Room k (A.deeper (envOfC qual (defScope st) s.heap.objs.size f cdv)) → sp vs H Q E →
      ∃ t, PSs (cxOf CX0 P w K mg base N qual (defScope st) f cdv A outer s H E).nox (defBody st) t ∧ t { nx := fun _ H' => Q .non H', rt := Q } (start N vs) H) : C8.Cal P w K mg base (k + 1) x sp [] :=
  ⟨f, fd, ps, [], F.ok S len fun cdv A outer s H vs Q E hr hsp => let ⟨t, h, q⟩ := hbody cdv A outer s H vs Q E hr hsp; ⟨t, h.nox, q⟩, g, F.kp, b, .nil⟩
/-- a method's -/
theorem mk_met {x qual : Str} {st : Stmt} {C f : Addr} {fd : FuncData} {N ps : List Str} {k : Nat} {sp : Sp} (F : FunD K x qual (defArgs st) (defBody st) (defScope st) [] [] f fd) (c : Cls K C) (m : Meth K C x f) (b : Binds K fd ps [])
    (S : FnScope N ps (defScope st)) (len : ∀ vs H Q E, sp vs H Q E → vs.length = ps.length)
    (hbody : ∀ (cdv : Value) (A : Around) (outer : List Env) (s : Shared) (H : Hp) (vs : List V) (Q : VK) (E : XK), Room k (A.deeper (envOfC qual (defScope st) s.heap.objs.size f cdv)) → sp vs H Q E →
      ∃ t, PSs (cxOf CX0 P w K mg base N qual (defScope st) f cdv A outer s H E).nox (defBody st) t ∧ t { nx := fun _ H' => Q .non H', rt := Q } (start N vs) H) : C8.Met P w K mg base (k + 1) C x sp [] :=
  ⟨f, fd, ps, [], c, m, F.ok S len fun cdv A outer s H vs Q E hr hsp => let ⟨t, h, q⟩ := hbody cdv A outer s H vs Q E hr hsp; ⟨t, h.nox, q⟩, b, .nil⟩
/-- an __init__'s -/
theorem mk_mak {x qual : Str} {st : Stmt} {C f : Addr} {fd : FuncData} {N ps : List Str} {k : Nat} {sp : Sp} (F : FunD K "__init__" qual (defArgs st) (defBody st) (defScope st) [] [] f fd) (c : Mk K C f) (m : mg x = some (.ref C)) (b : Binds K fd ps [])
    (S : FnScope N ps (defScope st)) (len : ∀ vs H Q E, sp vs H Q E → vs.length = ps.length)
    (hbody : ∀ (cdv : Value) (A : Around) (outer : List Env) (s : Shared) (H : Hp) (vs : List V) (Q : VK) (E : XK), Room k (A.deeper (envOfC qual (defScope st) s.heap.objs.size f cdv)) → sp vs H Q E →
      ∃ t, PSs (cxOf CX0 P w K mg base N qual (defScope st) f cdv A outer s H E).nox (defBody st) t ∧ t { nx := fun _ H' => Q .non H', rt := Q } (start N vs) H) : C8.Mak P w K mg base (k + 1) x C sp [] :=
  ⟨f, fd, ps, [], c, F.ok S len fun cdv A outer s H vs Q E hr hsp => let ⟨t, h, q⟩ := hbody cdv A outer s H vs Q E hr hsp; ⟨t, h.nox, q⟩, m, b, .nil⟩
end
/-! ### short words for data -/
theorem ifT {b : Bool} {p q : Prop} (h : b = true) (r : p) : if b = true then p else q := by rw [if_pos h]; exact r
theorem ifF {b : Bool} {p q : Prop} (h : b = false) (r : q) : if b = true then p else q := by rw [if_neg (by rw [h]; exact Bool.false_ne_true)]; exact r
abbrev iV (n : Nat) : V := V.int (n : Int)
abbrev nsV (l : List Nat) : List V := l.map iV
abbrev isV (l : List Int) : List V := l.map V.int
theorem szN {xs : List V} (h : Nat.ble xs.length 1000 = true := by rfl) : xs.length ≤ sizeLine := Nat.le_trans (Nat.le_of_ble_eq_true h) (by decide)
theorem nsV_eq (ls : List Nat) : nsV ls = isV (ls.map fun n : Nat => (n : Int)) := by
  show ls.map iV = (ls.map _).map V.int
  rw [List.map_map]; rfl
theorem sum_cast (ls : List Nat) : (ls.map fun n : Nat => (n : Int)).sum = (ls.sum : Nat) := by
  induction ls with
  | nil => rfl
  | cons a l ih => rw [List.map_cons, List.sum_cons, List.sum_cons, ih]; omega
theorem asI {H : Hp} {a : Addr} {ls : List Nat} (h : H a = some (.lst (nsV ls))) : H a = some (.lst ((ls.map fun n : Nat => (n : Int)).map V.int)) := by
  rw [h, nsV_eq]
/-! ### readings of built-ins, by name -/
def bLen (K : PySem.W.Frag) : List V → Hp → VK → Prop := fun xs H Q => ∃ p ys, xs = [.ref p] ∧ (SqL K H p ys ∨ SqT K H p ys) ∧ Q (.int ys.length) H
def bMax2 : List V → Hp → VK → Prop := fun xs H Q => ∃ i j, xs = [.int i, .int j] ∧ Q (.int (if j > i then j else i)) H
def bMin2 : List V → Hp → VK → Prop := fun xs H Q => ∃ i j, xs = [.int i, .int j] ∧ Q (.int (if j < i then j else i)) H
def bAbs : List V → Hp → VK → Prop := fun xs H Q => ∃ i, xs = [.int i] ∧ Q (.int (if i < 0 then -i else i)) H
def bTuple (K : PySem.W.Frag) : List V → Hp → VK → Prop := fun xs H Q => ∃ p ys, xs = [.ref p] ∧ ((SqL K H p ys ∧ ∀ l, H l = none → Q (.ref l) (upd H l (.tup ys))) ∨ (SqT K H p ys ∧ Q (.ref p) H))
def bList (K : PySem.W.Frag) : List V → Hp → VK → Prop := fun xs H Q => ∃ p ys, xs = [.ref p] ∧ (SqL K H p ys ∨ SqT K H p ys) ∧ ∀ l, H l = none → Q (.ref l) (upd H l (.lst ys))
theorem fewF {α : Type} {l : List α} (h : Nat.ble (l.length + 1) 1000 = true := by rfl) : l.length < 1000 := Nat.le_of_ble_eq_true h
end K59
set_option Elab.async false
set_option linter.all false
set_option maxRecDepth 100000
set_option maxHeartbeats 4000000
namespace K59
open PySem PySem.Spec PyProof.Rows L2
section
variable {X : Cx}
/-! ### a field as a target within a tuple -/
def gFld (K : PySem.W.Frag) (to : TE) (f : Str) : TG := fun v σ H Q => to σ H fun x H1 => ∃ a C dx fs, x = .ref a ∧ H1 a = some (.ins C dx fs) ∧ Cls K C ∧ NoAttr K C f ∧ fs.length < 1000 ∧ Q σ (upd H1 a (.ins C dx (putF f v fs)))
theorem pg_fld {o : Expr} {f : Str} {pos : Pos} {to : TE} (ho : PE X o to) (ha : ∀ v, assign (.Attribute o f pos) X.env v = (do
      let ov ← holding [v] (eval o X.env)
      standAt pos.atName
      holding [v, ov] (setAttr ov f v)
      release [v, ov] []) := by intro _; rfl) : PG X (.Attribute o f pos) (gFld X.K to f) := by
  constructor
  intro pins s σ H v u Q I r hw
  rw [ha]
  refine wpAny_bind (wpAny_holding (thn (ho.run pins s σ H _ I hw) ?_))
  rintro ov s1 ⟨x, H1, I1, rx, a, C, dx, fs, rfl, e, c, n, l, q⟩
  cases rx
  exact wpAny_bind (wpAny_standAt (wpAny_bind (wpAny_holding (setattr_ok I1 e c n l r fun s2 I2 => wpAny_release ⟨σ, _, I2, q⟩))))
/-! ### a, *b = a tuple -/
section
variable {prog : Program} {w : World} {A : Around} {E : Value → Shared → Prop} {s : Shared}
/-- a walk from its second item on -/
theorem walksS_tail {I : Addr} {fp wr : List Addr} {G : Array GenState → Array GenState → Prop} {n : Nat} {P : Nat → Value → Prop} {St : Nat → Shared → Prop} (W : WalksS prog w A I fp wr G (n + 1) P St) :
    WalksS prog w A I fp wr G n (fun i => P (i + 1)) (fun i => St (i + 1)) :=
  ⟨W.sub, W.grefl, W.gtrans, fun i => W.frame (i + 1), fun i s Q E hi => W.item (i + 1) s Q E (Nat.succ_lt_succ hi), W.done, fun i => W.self (i + 1)⟩
theorem unpackStar {t : Addr} {x : Value} {xs : List Value} {Q : List Value → Shared → Prop} (hh : A.handled = none) (ht : IsTup s.heap t (x :: xs).toArray) (hz : xs.length ≤ sizeLine)
    (hQ : ∀ (h1 : Heap) tk, (∀ b o, s.heap.get? b = some o → h1.get? b = some o) → Q [x, .ref h1.objs.size] { s with heap := h1.push { cls := .type "list", data := .seq xs.toArray }, toks := tk }) :
    wpAny (model prog w) A (unpackItems (.ref t) 2 (some 1)) Q E s := by
  have hlt : t ≠ s.heap.objs.size := by obtain ⟨o, ho, _⟩ := ht; exact Nat.ne_of_lt (Heap.lt_size ho)
  unfold unpackItems
  refine wpAny_bind ?_
  unfold notIterableAtAll
  refine wpAny_bind (wpAny_specialOf ht.typeIs slot_tuple_iter.lookup ?_)
  refine wpAny_pure ?_
  simp only [Bool.false_eq_true, if_false]
  refine wpAny_bind (wpAny_holding (iter_tuple ht ?_))
  refine wpAny_bind (wpAny_holding (draw_tuple hlt 1 0 _ _ ⟨_, Heap.get?_push_size _ rfl, rfl, rfl⟩ (ht.push _) (by simp) fun h1 hit1 hs1 => ?_))
  have e1 : List.take 1 (List.drop 0 (x :: xs).toArray.toList) = [x] := by simp
  rw [e1]
  rw [if_neg (by simp)]
  have ht1 : IsTup h1 t (x :: xs).toArray := (ht.push _).extBut hs1.extBut hlt
  have W := walksS_tail (n := xs.length) (Walks.tuple (prog := prog) (w := w) (A := A.in1) (by rw [show A.in1.handled = A.handled from rfl]; exact hh) s.heap.objs.size t hlt (x :: xs).toArray).toS
  have st1 : h1.IsTupleIter s.heap.objs.size t 1 ∧ h1.IsTuple t (x :: xs).toArray := ⟨hit1, ht1⟩
  have hsz : s.heap.objs.size < h1.objs.size := by obtain ⟨o, ho, _⟩ := st1.1; exact Heap.lt_size ho
  have hsz2 : t < h1.objs.size := by obtain ⟨o, ho, _⟩ := ht1; exact Heap.lt_size ho
  refine wpAny_bind (wpAny_holding (wpAny_collect_iter (T := "tuple_iterator") (.inr (.inr (.inr rfl))) W (fun i s' st => ?_) st1 (fun b hb => ?_) (by simp) (fun s' acc hm hacc => ?_) hz))
  · obtain ⟨⟨o, ho, hc, _⟩, _⟩ := st
    exact ⟨o, ho, hc⟩
  · rcases List.mem_cons.mp hb with rfl | hb
    · exact hsz
    · rw [List.mem_singleton.mp hb]; exact hsz2
  · have eacc : acc.toList = xs := by
      refine List.ext_getElem? fun i => ?_
      rw [Array.getElem?_toList]
      by_cases c : i < xs.length
      · have hi : i < acc.size := by rw [hacc.1]; exact c
        have e2 : acc[i]? = some acc[i] := Array.getElem?_eq_getElem hi
        have e3 := hacc.2 i _ e2
        rw [e2]
        simpa using e3.symm
      · rw [List.getElem?_eq_none (by omega), Array.getElem?_eq_none (by rw [hacc.1]; omega)]
    rw [eacc]
    simp only [Nat.sub_self, Nat.add_one_sub_one, Nat.not_lt_zero, if_false]
    refine wpAny_bind (wpAny_newList ?_ (by simpa using hz))
    have e4 : List.take (xs.length - 0) xs = xs := by simp
    have e5 : List.drop (xs.length - 0) xs = [] := by simp
    have e6 : s' = { s with heap := s'.heap, toks := s'.toks } := by
      obtain ⟨h', g', d', t', os'⟩ := s'
      have a := hm.gens; have b := hm.drawn; have c := hm.os
      cases a; cases b; cases c; rfl
    have keep : ∀ b o, s.heap.get? b = some o → s'.heap.get? b = some o := fun b o e => by
      have hb : b ≠ s.heap.objs.size := Nat.ne_of_lt (Heap.lt_size e)
      exact hm.heap b o (by simpa using hb) (hs1.extBut b o hb (Heap.get?_push_of_some _ e))
    rw [e4, e5, e6]
    exact wpAny_pure (hQ s'.heap s'.toks keep)
end
def gStar (K : PySem.W.Frag) (g0 g1 : TG) : TG := fun v σ H Q => ∃ a x xs, v = .ref a ∧ SqT K H a (x :: xs) ∧ ∀ p, H p = none → g0 x σ (upd H p (.lst xs)) fun σ1 H1 => g1 (.ref p) σ1 H1 Q
theorem pg_star {t0 t1 : Expr} {p1 : Pos} {k : Nat} {pos : Pos} {g0 g1 : TG} (hc : X.calm = true) (h0 : PG X t0 g0) (h1 : PG X t1 g1)
    (he : assignEach [t0, .Starred t1 p1] X.env = [(false, assign t0 X.env), (true, assign t1 X.env)] := by rfl) : PG X (.Tuple [t0, .Starred t1 p1] k pos) (gStar X.K g0 g1) := by
  constructor
  intro pins s σ H v u Q I r hw
  obtain ⟨a, x, xs, rfl, hq, hw⟩ := hw
  cases r
  obtain ⟨its, rv, ht, hz⟩ := I.tuple hq
  cases rv with
  | @cons _ y _ ys ry rys =>
    rw [assign_Tuple, he]
    refine wpAny_bind (wpAny_standAt ?_)
    unfold unpack
    have hl := rys.length
    refine wpAny_bind (wpAny_holding (unpackStar (I.ok.hd hc) ht (by rw [← hl]; rw [List.length_cons] at hz; omega) fun h1' tk kp => ?_))
    have I1 : Inv X pins σ H { s with heap := h1', toks := tk } := I.kept kp
    have n1 : H h1'.objs.size = none := I1.hok.fresh (Nat.le_refl _)
    have I2 : Inv X pins σ (upd H h1'.objs.size (.lst xs)) { s with heap := h1'.push { cls := .type "list", data := .seq ys.toArray }, toks := tk } :=
      I1.laid (t' := tk) (fun b o e => Heap.get?_push_of_some _ e) (Nat.le_refl _) ⟨by rw [List.length_cons] at hz; omega, ys, 0, rys, Heap.get?_push_size _ rfl⟩
    refine assignInOrder_cons (thn (h0.run pins _ σ _ x y _ I2 ry (hw _ n1)) ?_)
    rintro _ s3 ⟨σ1, H1, I3, q1⟩
    refine assignInOrder_cons (thn (h1.run pins s3 σ1 H1 (.ref h1'.objs.size) _ Q I3 rfl q1) ?_)
    rintro _ s4 ⟨σ2, H2, I4, q2⟩
    exact wpAny_pure ⟨σ2, H2, I4, q2⟩
end
end K59
set_option Elab.async false
set_option linter.all false
set_option maxRecDepth 100000
set_option maxHeartbeats 4000000
namespace K59
open PySem PySem.Spec PyProof.Rows L2
/-! ### zip of a list and a tuple -/
def ItzM (K : PySem.W.Frag) (a b : Addr) : It :=
  ⟨fun i H => ∃ (xs ys : List V) (x y : V), SqL K H a xs ∧ SqT K H b ys ∧ xs[i]? = some x ∧ ys[i]? = some y,
    fun i H v H' => ∃ T x y, v = .ref T ∧ H T = none ∧ H' = upd H T (.tup [x, y]) ∧ (∀ xs, SqL K H a xs → xs[i]? = some x) ∧ ∀ ys, SqT K H b ys → ys[i]? = some y,
    fun i H => ∃ xs ys : List V, SqL K H a xs ∧ SqT K H b ys ∧ i = min xs.length ys.length⟩
/-- the cells of such a zip's iterator -/
def ZmAt (a b N : Addr) (i : Nat) (h : Heap) : Prop :=
  IsZip h (N + 4) (N + 2) (N + 3) .none ∧ IsTupOf2 h (N + 2) (.ref N) (.ref (N + 1)) ∧ (∃ x y, IsTupOf2 h (N + 3) x y) ∧ h.IsListIter N a i ∧ h.IsTupleIter (N + 1) b i
theorem zm_five {N c : Addr} (h : c ∈ [N + 4, N + 2, N + 3, N, N + 1]) : c = N + 4 ∨ c = N + 2 ∨ c = N + 3 ∨ c = N ∨ c = N + 1 := by simpa using h
theorem turn_zipM {P : Program} {w : World} {K : PySem.W.Frag} {elts : List Expr} {kk : Nat} {tpos : Pos} {a b N : Addr} (ha : a < N) (hb : b < N) :
    Turn P w K (.Tuple elts kk tpos) (ItzM K a b) [N + 4, N + 2, N + 3, N, N + 1] (N + 4) (ZmAt a b N) where
  mem := by simp
  obj := fun i h st c hc => by
    obtain ⟨hz, hTI, ⟨x, y, hTO⟩, ⟨o1, e1, _, d1⟩, ⟨o2, e2, _, d2⟩⟩ := st
    rcases zm_five hc with q | q | q | q | q <;> subst q
    · exact ⟨_, hz, fun v q => nomatch q⟩
    · exact ⟨_, hTI, fun v q => nomatch q⟩
    · exact ⟨_, hTO, fun v q => nomatch q⟩
    · exact ⟨o1, e1, fun v q => by rw [d1] at q; cases q⟩
    · exact ⟨o2, e2, fun v q => by rw [d2] at q; cases q⟩
  keep := fun i h h' st k => by
    obtain ⟨hz, hTI, ⟨x, y, hTO⟩, h1, h2⟩ := st
    exact ⟨k _ (by simp) _ hz, k _ (by simp) _ hTI, ⟨x, y, k _ (by simp) _ hTO⟩, h1.at fun o q => k _ (by simp) o q, h2.at fun o q => k _ (by simp) o q⟩
  item := by
    intro X hP hw hK hc i pins s σ H E I hf st hg
    subst hP hw hK
    obtain ⟨hz, hTI, hTO, h1, h2⟩ := st
    obtain ⟨xs, ys, x, y, hqx, hqy, hx, hy⟩ := hg
    obtain ⟨its, rv, p, _⟩ := I.list hqx
    obtain ⟨its2, rv2, p2, _⟩ := I.tuple hqy
    have l1 := rv.length
    have l2 := rv2.length
    have hi : i < min its.toArray.size its2.toArray.size := by
      have := (List.getElem?_eq_some_iff.mp hx).1
      have := (List.getElem?_eq_some_iff.mp hy).1
      simp only [List.size_toArray]
      omega
    have W := WalksT.zipD2 (prog := X.prog) (w := X.w) (A := X.A) (zip_sep2 (N := N) (fp1 := [a]) (fp2 := [b]) (by simpa using ha) (by simpa using hb))
      (Draws.list (by rw [show X.A.in1.handled = X.A.handled from rfl]; exact I.ok.hd hc) N a (Nat.ne_of_lt ha) its.toArray)
      (Draws.tuple (by rw [show X.A.in1.handled = X.A.handled from rfl]; exact I.ok.hd hc) (N + 1) b (Nat.ne_of_lt (Nat.lt_succ_of_lt hb)) its2.toArray)
    have nfp : ∀ c, c ∈ [N + 4, N + 3, N, N + 1] → c ∈ [N + 4, N + 2, N + 3, N, N + 1] := fun c hc => by
      have : c = N + 4 ∨ c = N + 3 ∨ c = N ∨ c = N + 1 := by simpa using hc
      rcases this with q | q | q | q <;> subst q <;> simp
    refine W.item i s _ _ hi ⟨hz, hTI, hTO, ⟨h1, p.isList⟩, h2, p2⟩ fun T vals h' tk hv hT hIT hmid hk => ?_
    obtain ⟨u, u2, hu, hu2, rfl⟩ := hv
    refine ⟨_, rfl, W.go elts kk tpos i T { s with heap := h', toks := tk } _ _ hmid fun h'' st'' hk'' => ?_⟩
    have hIT'' : h''.IsTuple T #[u, u2] := hIT.at fun o q => hk'' T o (W.apart i T h' hmid) q
    obtain ⟨u', hu', ru⟩ := rv.get hx
    obtain ⟨u2', hu2', ru2⟩ := rv2.get hy
    have e1 : u' = u := by
      have : its[i]? = some u := by simpa using hu
      rw [this] at hu'; exact (Option.some.inj hu').symm
    have e2 : u2' = u2 := by
      have : its2[i]? = some u2 := by simpa using hu2
      rw [this] at hu2'; exact (Option.some.inj hu2').symm
    subst e1 e2
    have new : ObjOk X.prog X.w (upd H T (.tup [x, y])) h'' T (.tup [x, y]) := ⟨by show 2 ≤ sizeLine; decide, [u', u2'], .cons ru (.cons ru2 .nil), hIT''⟩
    have I1 : Inv X pins σ (upd H T (.tup [x, y])) { s with heap := h'', toks := tk } :=
      I.turnedNew (t' := tk) (ch := [N + 4, N + 2, N + 3, N, N + 1]) (fun c o hb q => hk'' c o (fun z => hb (nfp c z)) (hk c o (fun z => hb (nfp c z)) q)) hf hT new
    obtain ⟨z1, z2, z3, z4, z5⟩ := st''
    refine ⟨.ref T, _, I1, rfl, ⟨_, x, y, rfl, I.hok.fresh hT, rfl, fun l hl => by rw [I.list_inj hl hqx]; exact hx, fun l hl => by rw [I.tuple_inj hl hqy]; exact hy⟩, ⟨z1, z2, z3, z4.1, z5.1⟩, fun c hcm => ?_⟩
    have hlt : c < s.heap.objs.size := by
      rcases zm_five hcm with q | q | q | q | q <;> subst q
      · exact Heap.lt_size hz
      · exact Heap.lt_size hTI
      · obtain ⟨_, _, e⟩ := hTO; exact Heap.lt_size e
      · obtain ⟨_, e, _⟩ := h1; exact Heap.lt_size e
      · obtain ⟨_, e, _⟩ := h2; exact Heap.lt_size e
    rw [upd_ne (Nat.ne_of_lt (Nat.lt_of_lt_of_le hlt hT))]
    exact (hf c hcm).1
  done := by
    intro X hP hw hK hc i pins s σ H E I hf st hg
    subst hP hw hK
    obtain ⟨hz, hTI, hTO, h1, h2⟩ := st
    obtain ⟨xs, ys, hqx, hqy, hend⟩ := hg
    obtain ⟨its, rv, p, _⟩ := I.list hqx
    obtain ⟨its2, rv2, p2, _⟩ := I.tuple hqy
    have l1 := rv.length
    have l2 := rv2.length
    have W := WalksT.zipD2 (prog := X.prog) (w := X.w) (A := X.A) (zip_sep2 (N := N) (fp1 := [a]) (fp2 := [b]) (by simpa using ha) (by simpa using hb))
      (Draws.list (by rw [show X.A.in1.handled = X.A.handled from rfl]; exact I.ok.hd hc) N a (Nat.ne_of_lt ha) its.toArray)
      (Draws.tuple (by rw [show X.A.in1.handled = X.A.handled from rfl]; exact I.ok.hd hc) (N + 1) b (Nat.ne_of_lt (Nat.lt_succ_of_lt hb)) its2.toArray)
    have ei : i = min its.toArray.size its2.toArray.size := by simp only [List.size_toArray]; omega
    subst ei
    refine W.done s _ _ ⟨hz, hTI, hTO, ⟨h1, p.isList⟩, h2, p2⟩ fun h' tk hk => ⟨rfl, I.turnedL (t' := tk) (ch := [N + 4, N + 2, N + 3, N, N + 1]) (fun c o hb q => hk c o (fun z => hb ?_) q) hf⟩
    have : c = N + 4 ∨ c = N + 3 ∨ c = N ∨ c = N + 1 := by simpa using z
    rcases this with q | q | q | q <;> subst q <;> simp
  self := fun A i s Q E st h => wpAny_pyIter_zip st.1 h
def iZipM (K : PySem.W.Frag) (ta : TA) : TI := fun σ H R => ta σ H fun vs H1 => ∃ a b xs ys, vs = [.ref a, .ref b] ∧ SqL K H1 a xs ∧ SqT K H1 b ys ∧ R (ItzM K a b) H1
theorem pi_zipM {X : Cx} {e e2 : Expr} {ta : TA} {p pos tpos : Pos} {elts : List Expr} {kk : Nat} (hg : Gl X "zip") (hm : X.mg "zip" = none) (ha : PA X [e, e2] ta)
    (hs : starEach [e, e2] X.env = (false, eval e X.env) :: starEach [e2] X.env := by rfl) (hpl : (backTo pos (starEach [e2] X.env)).any (·.1) = false := by rfl) :
    PI X (.Tuple elts kk tpos) (.Call (.Name "zip" p) [e, e2] [] pos) (iZipM X.K ta) := by
  constructor
  intro pins s σ H R I h
  refine Call_ (ld_blt I hg hm PyProof.Rows.boot_zip (PyProof.Rows.callWith_type1 (thn (ha.run pos pins s σ H _ I h) ?_) hs hpl))
  rintro us s1 ⟨vs, H1, I1, r1, a, b, xs, ys, rfl, hqx, hqy, q⟩
  cases r1 with
  | cons r rr =>
    cases rr with
    | cons r' rr =>
      cases rr; cases r; cases r'
      obtain ⟨its, rv, p1, _⟩ := I1.list hqx
      obtain ⟨its2, rv2, p2, _⟩ := I1.tuple hqy
      have lb : b < s1.heap.objs.size := by obtain ⟨o, ho, _⟩ := id p2; exact Heap.lt_size ho
      refine zip_begins2 (begins_list a its.toArray) (begins_tuple b its2.toArray) p1.isList p2 fun h' hz hTI hTO h1 h2 hsz hk => wpAny_pyIter_zip hz ?_
      have I2 : Inv X pins σ H1 { s1 with heap := h' } := I1.kept (t' := s1.toks) hk
      refine ⟨s1.heap.objs.size + 4, _, _, _, H1, rfl, I2, turn_zipM (N := s1.heap.objs.size) p1.lt lb, ⟨hz, hTI, ⟨_, _, hTO⟩, ⟨_, h1, rfl, rfl⟩, ⟨_, h2, rfl, rfl⟩⟩, fun c hc => ?_, q⟩
      have hle : s1.heap.objs.size ≤ c := by rcases zm_five hc with q | q | q | q | q <;> (rw [q]; omega)
      exact I1.fpOk hle (I1.hok.fresh hle)
theorem walk_zipM {K : PySem.W.Frag} {a b : Addr} {xs ys : List V} {n : Nat} (hn : n = min xs.length ys.length) : Walk (ItzM K a b) n (fun H => SqL K H a xs ∧ SqT K H b ys) (YPair (fun i => xs[i]?) (fun i => ys[i]?)) := by
  subst hn
  constructor
  · intro i H hi q
    have h1 : i < xs.length := by omega
    have h2 : i < ys.length := by omega
    exact ⟨xs, ys, xs[i], ys[i], q.1, q.2, by simp [h1], by simp [h2]⟩
  · intro H q
    exact ⟨xs, ys, q.1, q.2, rfl⟩
  · intro i H v H' _ q y
    obtain ⟨T, x, z, h1, h2, h3, h4, h5⟩ := y
    exact ⟨T, x, z, h1, h2, h3, h4 xs q.1, h5 ys q.2⟩
end K59
set_option Elab.async false
set_option linter.all false
set_option maxRecDepth 100000
set_option maxHeartbeats 4000000
namespace K59
open PySem PySem.Spec PyProof.Rows L2
section
variable {X : Cx}
/-! ### d.update(e), two dicts of int and text keys -/
def rUpdate : V → List V → Hp → VK → Prop := fun x vs H Q => ∃ a b kvs more, x = .ref a ∧ vs = [.ref b] ∧ a ≠ b ∧ H a = some (.dK kvs) ∧ H b = some (.dK more) ∧ kvs.length + more.length ≤ sizeLine ∧ Q .non (upd H a (.dK (mergeK kvs more)))
theorem mt_update : MtR X "dict.update" rUpdate := by
  intro pins s σ H x vs v us Q I rx rv h
  obtain ⟨a, b, kvs, more, rfl, rfl, hne, ha, hb, hz, q⟩ := h
  cases rx
  obtain ⟨u, rfl, ru⟩ := Vals.one rv
  cases ru
  obtain ⟨za, ya, ws, ra, da⟩ := I.hok a _ ha
  obtain ⟨zb, yb, ms, rb, db⟩ := I.hok b _ hb
  have la := Paired.length ra
  have lb := Paired.length rb
  refine call_meetsIn PySem.F.slot_dict_update da.typeIs PySem.F.entry_dict_update (PySem.F.args_dict_update_2 _ _) (meets_dict_update (mixKind X.prog X.w) a b hne yb)
    ⟨ws, ms, da, db, by omega, fun h' hm _ hs => ?_⟩
  refine ⟨.non, _, d_write I (by rw [ha]; exact True.intro) hs ?_ (dk_new ?_ ya (KV.merge rb ra) hm), rfl, q⟩
  · obtain ⟨o, _, _, e, _⟩ := hm; exact ⟨o, e⟩
  · have := length_mergeK more kvs
    omega
/-! ### sets, by their number alone -/
def SetN (a : Addr) (n : Nat) : HO := .ext fun h => ∃ o es ep t, h.get? a = some o ∧ o.ExactSet ∧ o.data = .set es ep t ∧ t.fits es.size = true ∧ es.size = n
theorem setN_ok {P : Program} {w : World} {H : Hp} {h : Heap} {a : Addr} {n : Nat} (e : ∃ o es ep t, h.get? a = some o ∧ o.ExactSet ∧ o.data = .set es ep t ∧ t.fits es.size = true ∧ es.size = n) : ObjOk P w H h a (SetN a n) := by
  obtain ⟨o, es, ep, t, ho, r⟩ := id e
  refine ⟨e, ⟨o, ho⟩, fun h1 h2 p k => ?_⟩
  obtain ⟨o', es', ep', t', ho', r'⟩ := p
  exact ⟨o', es', ep', t', k o' ho', r'⟩
theorem call_lenN : CallR X (.builtin "len") (fun xs H Q => ∃ a n, xs = [.ref a] ∧ H a = some (SetN a n) ∧ n ≤ 1000000 ∧ Q (iV n) H) := by
  intro pins s σ H xs us Q I r h
  obtain ⟨a, n, rfl, ha, hn, q⟩ := h
  rw [Vals.ref1 r]
  obtain ⟨⟨o, es, ep, t, ho, hex, hd, hf, hz⟩, _⟩ := I.hok a _ ha
  exact call_len_set ho hex hd hf (by omega) ⟨iV n, H, I.tok _, ⟨_, by rw [hz]⟩, q⟩
/-- set(xs) of unlike ints -/
theorem call_setI (hc : X.calm = true) : CallR X (.type "set") (fun xs H Q => ∃ l ns, xs = [.ref l] ∧ SqL X.K H l (isV ns) ∧ ns.length ≤ 4000 ∧ ns.Nodup ∧ ∀ p, H p = none → Q (.ref p) (upd H p (SetN p ns.length))) := by
  intro pins s σ H xs us Q I r h
  obtain ⟨l, ns, rfl, hl, hn, nd, q⟩ := h
  rw [Vals.ref1 r]
  obtain ⟨its, rv, pl, hz⟩ := I.list hl
  have hs : its.toArray.size = ns.length := by rw [List.size_toArray, ← rv.length, List.length_map]
  refine call_set_list (I.ok.hd hc) pl.isList (ns := ns) (by simpa using rv.ints) (by rw [hs]; unfold scanBound; omega) fun h' tk hS hk => ?_
  rw [hs, firstMet_nodup ns nd ns.length (Nat.le_refl _), List.take_length] at hS
  obtain ⟨o, es, ep, t, ho, hex, hd, _, _, _, hf, hz'⟩ := hS
  exact ⟨.ref s.heap.objs.size, _, I.laid (t' := tk) (fun b o e => hk b o (Heap.lt_size e) e) (Nat.le_refl _) (setN_ok ⟨o, es, ep, t, ho, hex, hd, hf, hz'⟩), rfl, q _ (I.hok.fresh (Nat.le_refl _))⟩
end
end K59
set_option Elab.async false
set_option linter.all false
set_option maxRecDepth 100000
set_option maxHeartbeats 4000000
namespace K59
open PySem PySem.Spec PyProof.Rows L2
/-! ### lists of values and what they stand for -/
/-- item by item -/
def Rel {α : Type} (F : V → α → Prop) (vs : List V) (xs : List α) : Prop := vs.length = xs.length ∧ ∀ (i : Nat) v x, vs[i]? = some v → xs[i]? = some x → F v x
section
variable {α : Type} {F F' : V → α → Prop} {vs ws : List V} {xs ys : List α}
theorem Rel.nil : Rel F [] [] := ⟨rfl, fun i v x h => by simp at h⟩
theorem Rel.mono (r : Rel F vs xs) (h : ∀ v x, F v x → F' v x) : Rel F' vs xs := ⟨r.1, fun i v x a b => h v x (r.2 i v x a b)⟩
theorem Rel.app (r : Rel F vs xs) (q : Rel F ws ys) : Rel F (vs ++ ws) (xs ++ ys) := by
  refine ⟨by rw [List.length_append, List.length_append, r.1, q.1], fun i v x a b => ?_⟩
  by_cases c : i < vs.length
  · rw [List.getElem?_append_left c] at a
    rw [List.getElem?_append_left (by rw [← r.1]; exact c)] at b
    exact r.2 i v x a b
  · rw [List.getElem?_append_right (by omega)] at a
    rw [List.getElem?_append_right (by rw [← r.1]; omega), ← r.1] at b
    exact q.2 _ v x a b
theorem Rel.one {v : V} {x : α} (h : F v x) : Rel F [v] [x] := by
  refine ⟨rfl, fun i w y a b => ?_⟩
  cases i with
  | zero =>
    have e1 : v = w := by simpa using a
    have e2 : x = y := by simpa using b
    subst e1; subst e2; exact h
  | succ i => simp at a
theorem Rel.snoc {v : V} {x : α} (r : Rel F vs xs) (h : F v x) : Rel F (vs ++ [v]) (xs ++ [x]) := r.app (.one h)
theorem Rel.get (r : Rel F vs xs) {i : Nat} {v : V} (h : vs[i]? = some v) : ∃ x, xs[i]? = some x ∧ F v x := by
  have hl := (List.getElem?_eq_some_iff.mp h).1
  have e : xs[i]? = some (xs[i]'(by rw [← r.1]; exact hl)) := List.getElem?_eq_getElem _
  exact ⟨_, e, r.2 i v _ h e⟩
theorem Rel.get2 (r : Rel F vs xs) {i : Nat} {x : α} (h : xs[i]? = some x) : ∃ v, vs[i]? = some v ∧ F v x := by
  have hl := (List.getElem?_eq_some_iff.mp h).1
  have e : vs[i]? = some (vs[i]'(by rw [r.1]; exact hl)) := List.getElem?_eq_getElem _
  exact ⟨_, e, r.2 i _ x e h⟩
theorem Rel.mem (r : Rel F vs xs) {v : V} (h : v ∈ vs) : ∃ x ∈ xs, F v x := by
  obtain ⟨i, hi, e⟩ := List.getElem_of_mem h
  obtain ⟨x, hx, f⟩ := r.get (i := i) (v := v) (by rw [List.getElem?_eq_getElem hi, e])
  exact ⟨x, List.mem_of_getElem? hx, f⟩
theorem Rel.of_idx (f : Nat → V → Prop) {g : Nat → α} (hl : vs.length = xs.length) (h : ∀ (i : Nat) v x, vs[i]? = some v → xs[i]? = some x → F v x) : Rel F vs xs := ⟨hl, h⟩
theorem Rel.map {β : Type} {g : β → α} {zs : List β} : Rel F vs (zs.map g) ↔ Rel (fun v z => F v (g z)) vs zs := by
  constructor
  · intro r
    refine ⟨by rw [r.1, List.length_map], fun i v z a b => r.2 i v (g z) a ?_⟩
    rw [List.getElem?_map, b]; rfl
  · intro r
    refine ⟨by rw [r.1, List.length_map], fun i v x a b => ?_⟩
    rw [List.getElem?_map] at b
    obtain ⟨z, hz, e⟩ := Option.map_eq_some_iff.mp b
    rw [← e]; exact r.2 i v z a hz
theorem Rel.eq_map {g : α → V} (r : Rel (fun v x => v = g x) vs xs) : vs = xs.map g := by
  refine List.ext_getElem? fun i => ?_
  rw [List.getElem?_map]
  cases e : vs[i]? with
  | none =>
    have h : vs.length ≤ i := List.getElem?_eq_none_iff.mp e
    rw [List.getElem?_eq_none (by rw [← r.1]; exact h)]; rfl
  | some v =>
    obtain ⟨x, hx, f⟩ := r.get e
    rw [hx, f]; rfl
end
/-- tuples of ints -/
def TI (H : Hp) (v : V) (ns : List Int) : Prop := ∃ a, v = .ref a ∧ H a = some (.tup (isV ns))
def TN (H : Hp) (v : V) (ns : List Nat) : Prop := ∃ a, v = .ref a ∧ H a = some (.tup (nsV ns))
theorem TI.fm {M : Addr → Prop} {H H' : Hp} {v : V} {ns : List Int} (h : TI H v ns) (f : Fm M H H') : TI H' v ns := by
  obtain ⟨a, e, h⟩ := h; exact ⟨a, e, f.tups a _ h⟩
theorem TN.fm {M : Addr → Prop} {H H' : Hp} {v : V} {ns : List Nat} (h : TN H v ns) (f : Fm M H H') : TN H' v ns := by
  obtain ⟨a, e, h⟩ := h; exact ⟨a, e, f.tups a _ h⟩
/-! ### more comprehensions -/
section
variable {J : It} {n : Nat} {G : Hp → Prop} {Y : Nat → Hp → V → Hp → Prop}
/-- the new list grows by one -/
theorem grow_one {α : Type} {M : Addr → Prop} {R : Hp → V → α → Prop} {H1 H4 : Hp} {D : Addr} {acc : List V} {xs : List α} {y : V} {x : α} (hR : ∀ y x N H H', R H y x → Fm N H H' → R H' y x)
    (nD : H1 D = none) (f : Fm M H1 H4) (hD : H4 D = some (.lst acc)) (r : Rel (R H4) acc xs) (h : R H4 y x) :
    Fm M H1 (upd H4 D (.lst (acc ++ [y]))) ∧ (upd H4 D (.lst (acc ++ [y]))) D = some (.lst (acc ++ [y])) ∧ Rel (R (upd H4 D (.lst (acc ++ [y])))) (acc ++ [y]) (xs ++ [x]) := by
  have f2 : Fm (· = D) H4 (upd H4 D (.lst (acc ++ [y]))) := .put hD rfl no_lst
  exact ⟨f.over nD, upd_same, (r.snoc h).mono fun v z q => hR v z _ _ _ q f2⟩
/-- [elt for x in .. if test]: f i = what the i-th item gives (none: left out) -/
theorem lc_fil {α : Type} (w : Walk J n G Y) {g : TG} {tt : TT} {te : TE} {vs : List Nat} {σ : L2.St} {H1 : Hp} {M : Addr → Prop} {Qd : Addr → Hp → Prop} (R : Hp → V → α → Prop) (f : Nat → Option α)
    (hn : n ≤ sizeLine) (hM : ∀ b, M b → H1 b ≠ none) (hG : ∀ H, Fm M H1 H → G H) (hR : ∀ y x N H H', R H y x → Fm N H H' → R H' y x)
    (hs : ∀ i x H H' (Qy : V → Hp → Prop) (Qn : Hp → Prop), i < n → Fm M H1 H → Y i H x H' → (∀ y a H4, f i = some a → Fm M H H4 → R H4 y a → Qy y H4) → (∀ H4, f i = none → Fm M H H4 → Qn H4) →
      g x (wipe σ vs) H' fun σ2 H2 => wipe σ2 vs = wipe σ vs ∧ tt σ2 H2 fun b H3 => if b = true then te σ2 H3 Qy else Qn H3)
    (hd : ∀ D ys H', H1 D = none → Fm M H1 H' → H' D = some (.lst ys) → Rel (R H') ys ((List.range n).filterMap f) → Qd D H') :
    ∀ D, H1 D = none → ∃ W : Nat → Nat → Hp → Prop, (∃ m, W 0 m (upd H1 D (.lst []))) ∧ ∀ i m H, W i m H →
      (J.stop i H ∧ Qd D H) ∨ (J.go i H ∧ ∃ Nx : Hp → Prop, (∀ H', Nx H' → ∃ m', m' < m ∧ W (i + 1) m' H') ∧ ∀ x H', J.yld i H x H' → g x (wipe σ vs) H' fun σ2 H2 => wipe σ2 vs = wipe σ vs ∧ tt σ2 H2 fun b H3 =>
        if b = true then te σ2 H3 fun y H4 => ∃ acc, H4 D = some (.lst acc) ∧ acc.length < sizeLine ∧ Nx (upd H4 D (.lst (acc ++ [y]))) else Nx H3) := by
  intro D nD
  have mD : ¬ M D := fun z => hM D z nD
  refine lc_it w (g := g) (tt := tt) (te := te) (vs := vs) (σ := σ) (H1 := H1) (D := D) (Qd := Qd D)
    (fun i H => Fm M H1 H ∧ ∃ acc, H D = some (.lst acc) ∧ Rel (R H) acc ((List.range i).filterMap f)) ?_ (fun i H _ p => hG H p.1) ?_ ?_
  · exact ⟨.new nD, [], upd_same, .nil⟩
  · intro i x H H' hi p y
    obtain ⟨fm, acc, hD, r⟩ := p
    have hl : acc.length ≤ i := by
      rw [r.1]
      have := List.length_filterMap_le f (List.range i)
      rwa [List.length_range] at this
    refine hs i x H H' _ _ hi fm y (fun y a H4 e f4 r4 => ?_) (fun H4 e f4 => ?_)
    · have q := grow_one hR nD (fm.trans f4) (f4.keep _ _ hD mD) (r.mono fun v z h => hR v z _ _ _ h f4) r4
      refine ⟨acc, f4.keep _ _ hD mD, by omega, q.1, acc ++ [y], q.2.1, ?_⟩
      rw [List.range_succ, List.filterMap_append]
      simpa [e] using q.2.2
    · refine ⟨fm.trans f4, acc, f4.keep _ _ hD mD, ?_⟩
      rw [List.range_succ, List.filterMap_append]
      simpa [e] using r.mono fun v z h => hR v z _ _ _ h f4
  · intro H p
    obtain ⟨fm, acc, hD, r⟩ := p
    exact hd D acc H nD fm hD r
/-- the first n items' lists one behind another -/
def cat {α : Type} (F : Nat → List α) : Nat → List α
  | 0 => []
  | n + 1 => cat F n ++ F n
/-- two clauses, the inner one over a range -/
theorem lc2_acc {α : Type} (w : Walk J n G Y) {g g1 : TG} {wi1 : L2.TI} {te : TE} {vs vs1 : List Nat} {σ : L2.St} {H1 : Hp} {M : Addr → Prop} {Qd : Addr → Hp → Prop} (R : Hp → V → α → Prop) (F : Nat → List α)
    (hn : ∀ i, i ≤ n → (cat F i).length ≤ sizeLine) (hM : ∀ b, M b → H1 b ≠ none) (hG : ∀ H, Fm M H1 H → G H) (hR : ∀ y x N H H', R H y x → Fm N H H' → R H' y x)
    (hs : ∀ i x H H' (Rk : L2.St → It → Hp → Prop), i < n → Fm M H1 H → Y i H x H' →
      (∀ σ2 lo H4, Fm M H H4 → (∀ j a H5 (Qy : V → Hp → Prop), (F i)[j]? = some a → Fm M H1 H5 → (∀ b xs, H4 b = some (.tup xs) → H5 b = some (.tup xs)) → (∀ y H6, Fm M H5 H6 → R H6 y a → Qy y H6) → g1 (.int (lo + (j : Nat))) (wipe σ2 vs1) H5 fun σ3 H7 => wipe σ3 vs1 = wipe σ2 vs1 ∧ te σ3 H7 Qy) → Rk σ2 (Itr lo (F i).length) H4) →
      g x (wipe σ vs) H' fun σ2 H2 => wipe σ2 vs = wipe σ vs ∧ wi1 σ2 H2 (Rk σ2))
    (hd : ∀ D ys H', H1 D = none → Fm M H1 H' → H' D = some (.lst ys) → Rel (R H') ys (cat F n) → Qd D H') :
    ∀ D, H1 D = none → ∃ W : Nat → Nat → Hp → Prop, (∃ m, W 0 m (upd H1 D (.lst []))) ∧ ∀ i m H, W i m H →
      (J.stop i H ∧ Qd D H) ∨ (J.go i H ∧ ∃ Nx : Hp → Prop, (∀ H', Nx H' → ∃ m', m' < m ∧ W (i + 1) m' H') ∧ ∀ x H', J.yld i H x H' → g x (wipe σ vs) H' fun σ2 H2 => wipe σ2 vs = wipe σ vs ∧ tYes σ2 H2 fun b H3 =>
        if b = true then wi1 σ2 H3 fun J1 H4 => ∃ W1 : Nat → Nat → Hp → Prop, (∃ m, W1 0 m H4) ∧ ∀ j k H, W1 j k H →
          (J1.stop j H ∧ Nx H) ∨ (J1.go j H ∧ ∃ Nx1 : Hp → Prop, (∀ H', Nx1 H' → ∃ k', k' < k ∧ W1 (j + 1) k' H') ∧ ∀ x H', J1.yld j H x H' → g1 x (wipe σ2 vs1) H' fun σ3 H5 => wipe σ3 vs1 = wipe σ2 vs1 ∧ tYes σ3 H5 fun b H6 =>
            if b = true then te σ3 H6 fun y H7 => ∃ acc, H7 D = some (.lst acc) ∧ acc.length < sizeLine ∧ Nx1 (upd H7 D (.lst (acc ++ [y]))) else Nx1 H6)
        else Nx H3) := by
  intro D nD
  have mD : ¬ M D := fun z => hM D z nD
  refine ⟨fun i m H => m = n - i ∧ i ≤ n ∧ Fm M H1 H ∧ ∃ acc, H D = some (.lst acc) ∧ Rel (R H) acc (cat F i), ⟨n, by simp, Nat.zero_le _, .new nD, [], upd_same, .nil⟩, ?_⟩
  rintro i m H ⟨rfl, hi, fm, acc, hD, r⟩
  have q := hG H fm
  by_cases hlt : i < n
  · refine .inr ⟨w.goes i H hlt q, fun H => Fm M H1 H ∧ ∃ acc, H D = some (.lst acc) ∧ Rel (R H) acc (cat F (i + 1)), fun H' p => ⟨n - (i + 1), by omega, rfl, hlt, p⟩, fun x H' y => ?_⟩
    refine hs i x H H' _ hlt fm (w.yields i H x H' hlt q y) fun σ2 lo H4 f4 inner => ?_
    have f14 := fm.trans f4
    refine ⟨fun j k H => k = (F i).length - j ∧ j ≤ (F i).length ∧ Fm M H1 H ∧ (∀ b xs, H4 b = some (.tup xs) → H b = some (.tup xs)) ∧ ∃ acc, H D = some (.lst acc) ∧ Rel (R H) acc (cat F i ++ (F i).take j),
      ⟨(F i).length, by simp, Nat.zero_le _, f14, fun _ _ e => e, acc, f4.keep _ _ hD mD, by simpa using r.mono fun v z h => hR v z _ _ _ h f4⟩, ?_⟩
    rintro j k H5 ⟨rfl, hj, f5, t5, acc5, hD5, r5⟩
    by_cases hjl : j < (F i).length
    · refine .inr ⟨hjl, fun H => Fm M H1 H ∧ (∀ b xs, H4 b = some (.tup xs) → H b = some (.tup xs)) ∧ ∃ acc, H D = some (.lst acc) ∧ Rel (R H) acc (cat F i ++ (F i).take (j + 1)), fun H' p => ⟨(F i).length - (j + 1), by omega, rfl, hjl, p⟩, ?_⟩
      rintro x1 H6 ⟨rfl, rfl⟩
      have ea : (F i)[j]? = some (F i)[j] := List.getElem?_eq_getElem hjl
      have hl5 : acc5.length < sizeLine := by
        have h1 := hn (i + 1) hlt
        have h2 : (cat F (i + 1)).length = (cat F i).length + (F i).length := by show (cat F i ++ F i).length = _; rw [List.length_append]
        rw [r5.1, List.length_append, List.length_take]
        omega
      refine inner j _ _ _ ea f5 t5 fun y H7 f7 r7 => ?_
      have g1' := grow_one hR nD (f5.trans f7) (f7.keep _ _ hD5 mD) (r5.mono fun v z h => hR v z _ _ _ h f7) r7
      refine ⟨acc5, f7.keep _ _ hD5 mD, hl5, g1'.1, fun b xs e => ?_, acc5 ++ [y], g1'.2.1, ?_⟩
      · have e7 := f7.tups b xs (t5 b xs e)
        rw [upd_ne]
        · exact e7
        · intro z
          subst z
          rw [f7.keep _ _ hD5 mD] at e7
          cases e7
      · rw [List.take_succ, ea, ← List.append_assoc]
        exact g1'.2.2
    · have ej : j = (F i).length := by omega
      subst ej
      rw [List.take_length] at r5
      exact .inl ⟨Nat.le_refl _, f5, acc5, hD5, r5⟩
  · have e : i = n := by omega
    subst e
    exact .inl ⟨w.stops H q, hd D acc H nD fm hD r⟩
end
end K59
set_option Elab.async false
set_option linter.all false
set_option maxHeartbeats 1000000
namespace K59
/-! ### sums -/
def sm (f : Nat → Nat) : Nat → Nat
  | 0 => 0
  | n + 1 => sm f n + f n
theorem sm_first (f : Nat → Nat) : ∀ n, sm f (n + 1) = f 0 + sm (fun k => f (k + 1)) n
  | 0 => by simp [sm]
  | n + 1 => by
    show sm f (n + 1) + f (n + 1) = f 0 + (sm (fun k => f (k + 1)) n + f (n + 1))
    rw [sm_first f n]; omega
theorem sm_congr {f g : Nat → Nat} : ∀ {n}, (∀ k, k < n → f k = g k) → sm f n = sm g n
  | 0, _ => rfl
  | n + 1, h => by
    show sm f n + f n = sm g n + g n
    rw [sm_congr (n := n) fun k hk => h k (by omega), h n (by omega)]
theorem sm_le {f g : Nat → Nat} : ∀ {n m}, n ≤ m → (∀ k, k < n → f k ≤ g k) → sm f n ≤ sm g m
  | 0, _, _, _ => Nat.zero_le _
  | n + 1, 0, h, _ => absurd h (by omega)
  | n + 1, m + 1, h, hk => by
    show sm f n + f n ≤ sm g m + g m
    rcases Nat.lt_or_ge n m with c | c
    · have h1 := sm_le (f := f) (g := g) (n := n + 1) (m := m) (by omega) hk
      have h2 : sm f (n + 1) = sm f n + f n := rfl
      omega
    · have e : n = m := by omega
      subst e
      have h1 := sm_le (f := f) (g := g) (n := n) (m := n) (Nat.le_refl _) fun k hk' => hk k (by omega)
      have := hk n (by omega)
      omega
theorem sm_add (f g : Nat → Nat) : ∀ n, sm (fun k => f k + g k) n = sm f n + sm g n
  | 0 => rfl
  | n + 1 => by
    show sm (fun k => f k + g k) n + (f n + g n) = sm f n + f n + (sm g n + g n)
    rw [sm_add f g n]; omega
/-! ### how many choices of counts: a window runs over the row -/
def wS (w : Nat → Nat) (m t : Nat) : Nat := sm (fun k => w (t - k)) (min m t + 1)
def w0 (t : Nat) : Nat := if t = 0 then 1 else 0
def ways (lens : List Nat) : Nat → Nat := lens.foldl wS w0
theorem wS_zero (w : Nat → Nat) (m : Nat) : wS w m 0 = w 0 := by
  unfold wS
  rw [Nat.min_zero]
  simp [sm]
theorem wS_succ (w : Nat → Nat) (m t : Nat) : wS w m (t + 1) + (if t + 1 > m then w (t + 1 - m - 1) else 0) = wS w m t + w (t + 1) := by
  unfold wS
  by_cases c : t + 1 > m
  · rw [if_pos c, Nat.min_eq_left (by omega : m ≤ t + 1), Nat.min_eq_left (by omega : m ≤ t), sm_first]
    have e : sm (fun k => w (t + 1 - (k + 1))) m = sm (fun k => w (t - k)) m := sm_congr fun k _ => by congr 1; omega
    have e2 : sm (fun k => w (t - k)) (m + 1) = sm (fun k => w (t - k)) m + w (t - m) := rfl
    have e3 : t + 1 - m - 1 = t - m := by omega
    rw [e, e2, e3]
    simp only [Nat.sub_zero]
    omega
  · rw [if_neg c, Nat.min_eq_right (by omega : t + 1 ≤ m), Nat.min_eq_right (by omega : t ≤ m), sm_first]
    have e : sm (fun k => w (t + 1 - (k + 1))) (t + 1) = sm (fun k => w (t - k)) (t + 1) := sm_congr fun k _ => by congr 1; omega
    rw [e]
    simp only [Nat.sub_zero]
    omega
theorem ways_snoc (l : List Nat) (m : Nat) : ways (l ++ [m]) = wS (ways l) m := by
  unfold ways
  rw [List.foldl_append]; rfl
theorem wS_mono {w v : Nat → Nat} {m n : Nat} (h : ∀ t, w t ≤ v t) (hm : m ≤ n) (t : Nat) : wS w m t ≤ wS v n t := by
  unfold wS
  exact sm_le (by omega) fun k _ => h _
theorem foldl_wS_mono : ∀ (l l' : List Nat) (w v : Nat → Nat), (∀ t, w t ≤ v t) → l.length = l'.length → (∀ (i : Nat) a b, l[i]? = some a → l'[i]? = some b → a ≤ b) → ∀ t, l.foldl wS w t ≤ l'.foldl wS v t
  | [], [], w, v, h, _, _, t => h t
  | [], _ :: _, _, _, _, hl, _, _ => by simp at hl
  | _ :: _, [], _, _, _, hl, _, _ => by simp at hl
  | a :: l, b :: l', w, v, h, hl, hle, t => by
    rw [List.foldl_cons, List.foldl_cons]
    refine foldl_wS_mono l l' _ _ (fun t => wS_mono h (hle 0 a b (by simp) (by simp)) t) (by simpa using hl) (fun i x y hx hy => hle (i + 1) x y (by simpa using hx) (by simpa using hy)) t
theorem ways_mono {l l' : List Nat} (hl : l.length = l'.length) (h : ∀ (i : Nat) a b, l[i]? = some a → l'[i]? = some b → a ≤ b) (t : Nat) : ways l t ≤ ways l' t :=
  foldl_wS_mono l l' _ _ (fun _ => Nat.le_refl _) hl h t
/-- all choices together -/
def prod1 (l : List Nat) : Nat := l.foldl (fun p m => p * (m + 1)) 1
theorem sm_wS (w : Nat → Nat) (m : Nat) : ∀ T, sm (wS w m) T ≤ (m + 1) * sm w T := by
  have shift : ∀ k T, sm (fun t => if k ≤ t then w (t - k) else 0) T ≤ sm w T := by
    intro k T
    induction T with
    | zero => exact Nat.le_refl _
    | succ T ih =>
      by_cases c : k ≤ T
      · -- the sum up to T+1 is the sum of w up to T + 1 - k
        have key : ∀ T, k ≤ T → sm (fun t => if k ≤ t then w (t - k) else 0) (T + 1) = sm w (T + 1 - k) := by
          intro T
          induction T with
          | zero =>
            intro h
            have e : k = 0 := by omega
            subst e
            simp [sm]
          | succ T ih2 =>
            intro h
            show sm (fun t => if k ≤ t then w (t - k) else 0) (T + 1) + (if k ≤ T + 1 then w (T + 1 - k) else 0) = _
            rw [if_pos h]
            by_cases d : k ≤ T
            · rw [ih2 d]
              have e : T + 1 + 1 - k = (T + 1 - k) + 1 := by omega
              rw [e]; rfl
            · have e : k = T + 1 := by omega
              subst e
              have z : sm (fun t => if T + 1 ≤ t then w (t - (T + 1)) else 0) (T + 1) = 0 := by
                have : ∀ n, n ≤ T + 1 → sm (fun t => if T + 1 ≤ t then w (t - (T + 1)) else 0) n = 0 := by
                  intro n
                  induction n with
                  | zero => intro _; rfl
                  | succ n ih3 =>
                    intro hn
                    show sm _ n + (if T + 1 ≤ n then w (n - (T + 1)) else 0) = 0
                    rw [ih3 (by omega), if_neg (by omega)]
                exact this _ (Nat.le_refl _)
              rw [z]
              simp [sm]
        rw [key T c]
        exact sm_le (by omega) fun _ _ => Nat.le_refl _
      · show sm _ T + (if k ≤ T then w (T - k) else 0) ≤ sm w T + w T
        rw [if_neg c]; omega
  intro T
  have e : ∀ t, wS w m t = sm (fun k => if k ≤ t then w (t - k) else 0) (m + 1) := by
    intro t
    unfold wS
    have cut : ∀ n, min n t + 1 ≤ n + 1 → sm (fun k => w (t - k)) (min n t + 1) = sm (fun k => if k ≤ t then w (t - k) else 0) (n + 1) := by
      intro n
      induction n with
      | zero => intro _; simp [sm]
      | succ n ih =>
        intro _
        show _ = sm (fun k => if k ≤ t then w (t - k) else 0) (n + 1) + (if n + 1 ≤ t then w (t - (n + 1)) else 0)
        rw [← ih (by omega)]
        by_cases c : n + 1 ≤ t
        · rw [if_pos c, Nat.min_eq_left c, Nat.min_eq_left (by omega : n ≤ t)]; rfl
        · rw [if_neg c, Nat.min_eq_right (by omega : t ≤ n + 1), Nat.min_eq_right (by omega : t ≤ n)]; omega
    exact cut m (by omega)
  have sw : ∀ (f : Nat → Nat → Nat) (n T : Nat), sm (fun t => sm (f t) n) T = sm (fun k => sm (fun t => f t k) T) n := by
    intro f n T
    induction n with
    | zero =>
      have : ∀ T, sm (fun _ => 0) T = 0 := by
        intro T
        induction T with
        | zero => rfl
        | succ T ih => show sm _ T + 0 = 0; rw [ih]
      exact this T
    | succ n ih =>
      show sm (fun t => sm (f t) n + f t n) T = sm (fun k => sm (fun t => f t k) T) n + sm (fun t => f t n) T
      rw [sm_add, ih]
  rw [sm_congr (fun t _ => e t), sw]
  have bd : ∀ n, sm (fun k => sm (fun t => if k ≤ t then w (t - k) else 0) T) n ≤ n * sm w T := by
    intro n
    induction n with
    | zero => simp [sm]
    | succ n ih =>
      show sm _ n + sm (fun t => if n ≤ t then w (t - n) else 0) T ≤ (n + 1) * sm w T
      have := shift n T
      rw [Nat.succ_mul]; omega
  exact bd _
theorem ways_sum_le (l : List Nat) : ∀ T, sm (ways l) T ≤ prod1 l := by
  have key : ∀ (l : List Nat) (w : Nat → Nat) (b : Nat), (∀ T, sm w T ≤ b) → ∀ T, sm (l.foldl wS w) T ≤ l.foldl (fun p m => p * (m + 1)) b := by
    intro l
    induction l with
    | nil => intro w b h T; exact h T
    | cons m l ih =>
      intro w b h T
      rw [List.foldl_cons, List.foldl_cons]
      refine ih _ _ (fun T => ?_) T
      refine Nat.le_trans (sm_wS w m T) ?_
      rw [Nat.mul_comm]
      exact Nat.mul_le_mul_right _ (h T)
  refine key l w0 1 fun T => ?_
  have : ∀ T, sm w0 T ≤ 1 ∧ (T = 0 → sm w0 T = 0) ∧ (0 < T → sm w0 T = 1) := by
    intro T
    induction T with
    | zero => simp [sm]
    | succ T ih =>
      show sm w0 T + w0 T ≤ 1 ∧ _ ∧ (_ → sm w0 T + w0 T = 1)
      unfold w0 at *
      by_cases c : T = 0
      · subst c; simp [sm]
      · rw [if_neg c]
        have := ih.2.2 (by omega)
        omega
  exact (this T).1
/-! ### the choices -/
def preS (t : Nat) (L : List (List Nat)) (m : Nat) : List (List Nat) := L.flatMap fun c => (List.range (min m (t - c.sum) + 1)).map fun k => c ++ [k]
def pre (t : Nat) (lens : List Nat) : List (List Nat) := lens.foldl (preS t) [[]]
def chM (lens : List Nat) (t : Nat) : List (List Nat) := (pre t lens).filter fun c => decide (c.sum = t)
theorem pre_snoc (t : Nat) (l : List Nat) (m : Nat) : pre t (l ++ [m]) = preS t (pre t l) m := by
  unfold pre
  rw [List.foldl_append]; rfl
theorem mem_preS {t m : Nat} {L : List (List Nat)} {c : List Nat} : c ∈ preS t L m ↔ ∃ d k, d ∈ L ∧ k ≤ m ∧ k ≤ t - d.sum ∧ c = d ++ [k] := by
  unfold preS
  rw [List.mem_flatMap]
  constructor
  · rintro ⟨d, hd, h⟩
    obtain ⟨k, hk, e⟩ := List.mem_map.mp h
    have := List.mem_range.mp hk
    exact ⟨d, k, hd, by omega, by omega, e.symm⟩
  · rintro ⟨d, k, hd, h1, h2, rfl⟩
    exact ⟨d, hd, List.mem_map.mpr ⟨k, List.mem_range.mpr (by omega), rfl⟩⟩
/-- induction over a list from its end -/
theorem snoc_ind {α : Type} {P : List α → Prop} (h0 : P []) (hs : ∀ l a, P l → P (l ++ [a])) : ∀ l, P l := by
  have key : ∀ r : List α, P r.reverse := by
    intro r
    induction r with
    | nil => exact h0
    | cons a r ih => rw [List.reverse_cons]; exact hs _ _ ih
  intro l
  have := key l.reverse
  rwa [List.reverse_reverse] at this
theorem pre_mem (t : Nat) : ∀ lens : List Nat, ∀ c ∈ pre t lens, c.length = lens.length ∧ c.sum ≤ t ∧ ∀ (i : Nat) a b, c[i]? = some a → lens[i]? = some b → a ≤ b := by
  refine snoc_ind ?_ ?_
  · intro c hc
    have e : c = [] := by simpa [pre] using hc
    subst e
    simp
  · intro l m ih c hc
    rw [pre_snoc] at hc
    obtain ⟨d, k, hd, h1, h2, rfl⟩ := mem_preS.mp hc
    obtain ⟨a1, a2, a3⟩ := ih d hd
    refine ⟨by simp [a1], by rw [List.sum_append]; simp; omega, fun i a b ha hb => ?_⟩
    by_cases c : i < d.length
    · rw [List.getElem?_append_left c] at ha
      rw [List.getElem?_append_left (by omega)] at hb
      exact a3 i a b ha hb
    · rw [List.getElem?_append_right (by omega)] at ha
      rw [List.getElem?_append_right (by omega)] at hb
      have e1 : i - d.length = 0 := by
        have := (List.getElem?_eq_some_iff.mp ha).1
        simp at this; omega
      have e2 : i - l.length = 0 := by omega
      rw [e1] at ha; rw [e2] at hb
      have ea : k = a := by simpa using ha
      have eb : m = b := by simpa using hb
      omega
theorem pre_nodup (t : Nat) : ∀ lens : List Nat, (pre t lens).Nodup := by
  refine snoc_ind ?_ ?_
  · simp [pre]
  · intro l m ih
    rw [pre_snoc]
    unfold preS
    have key : ∀ L : List (List Nat), L.Nodup → (L.flatMap fun c => (List.range (min m (t - c.sum) + 1)).map fun k => c ++ [k]).Nodup := by
      intro L
      induction L with
      | nil => intro _; simp
      | cons c L ihL =>
        intro h
        obtain ⟨h1, h2⟩ := List.nodup_cons.mp h
        rw [List.flatMap_cons, List.nodup_append]
        refine ⟨?_, ihL h2, ?_⟩
        · have hr : (List.range (min m (t - c.sum) + 1)).Nodup := List.nodup_range
          refine List.Pairwise.map _ (fun a b hab => ?_) hr
          intro e
          have := List.append_cancel_left e
          simp at this
          exact hab this
        · intro a ha b hb e
          subst e
          obtain ⟨k, _, e1⟩ := List.mem_map.mp ha
          obtain ⟨d, hd, h3⟩ := List.mem_flatMap.mp hb
          obtain ⟨k', _, e2⟩ := List.mem_map.mp h3
          have e3 : c ++ [k] = d ++ [k'] := e1.trans e2.symm
          have : c = d := (List.append_inj' e3 rfl).1
          exact h1 (this ▸ hd)
    exact key _ ih
theorem chM_nodup (lens : List Nat) (t : Nat) : (chM lens t).Nodup := (pre_nodup t lens).filter _
theorem chM_mem {lens : List Nat} {t : Nat} {c : List Nat} (h : c ∈ chM lens t) : c.length = lens.length ∧ c.sum = t ∧ ∀ (i : Nat) a b, c[i]? = some a → lens[i]? = some b → a ≤ b := by
  obtain ⟨h1, h2⟩ := List.mem_filter.mp h
  obtain ⟨a1, _, a3⟩ := pre_mem t lens c h1
  exact ⟨a1, of_decide_eq_true h2, a3⟩
/-- how many of a list have a sum -/
def cnt (L : List (List Nat)) (s : Nat) : Nat := (L.filter fun c => decide (c.sum = s)).length
theorem cnt_cons (c : List Nat) (L : List (List Nat)) (s : Nat) : cnt (c :: L) s = (if c.sum = s then 1 else 0) + cnt L s := by
  unfold cnt
  rw [List.filter_cons]
  by_cases h : c.sum = s
  · rw [if_pos (by simpa using h), if_pos h, List.length_cons]; omega
  · rw [if_neg (by simpa using h), if_neg h]; omega
theorem cnt_append (L L' : List (List Nat)) (s : Nat) : cnt (L ++ L') s = cnt L s + cnt L' s := by
  unfold cnt
  rw [List.filter_append, List.length_append]
theorem cnt_one (d : List Nat) (s : Nat) : cnt [d] s = if d.sum = s then 1 else 0 := by
  rw [cnt_cons]; rfl
theorem sum_snoc (c : List Nat) (k : Nat) : (c ++ [k]).sum = c.sum + k := by simp
theorem cnt_row (c : List Nat) (n s : Nat) : cnt ((List.range (n + 1)).map fun k => c ++ [k]) s = if c.sum ≤ s ∧ s ≤ c.sum + n then 1 else 0 := by
  induction n with
  | zero =>
    have e : cnt ((List.range (0 + 1)).map fun k => c ++ [k]) s = cnt [c ++ [0]] s := rfl
    have q := sum_snoc c 0
    rw [e, cnt_one]
    by_cases h : (c ++ [0]).sum = s
    · rw [if_pos h, if_pos (by omega)]
    · rw [if_neg h, if_neg (by omega)]
  | succ n ih =>
    have q := sum_snoc c (n + 1)
    have e : [n + 1].map (fun k => c ++ [k]) = [c ++ [n + 1]] := rfl
    rw [List.range_succ, List.map_append, cnt_append, ih, e, cnt_one]
    by_cases h1 : c.sum ≤ s ∧ s ≤ c.sum + n
    · rw [if_pos h1, if_neg (by omega), if_pos (by omega)]
    · rw [if_neg h1]
      by_cases h2 : (c ++ [n + 1]).sum = s
      · rw [if_pos h2, if_pos (by omega)]
      · rw [if_neg h2, if_neg (by omega)]
theorem cnt_preS {t s m : Nat} (hs : s ≤ t) : ∀ L : List (List Nat), cnt (preS t L m) s = wS (cnt L) m s
  | [] => by
    show 0 = sm (fun _ => 0) _
    have : ∀ n, sm (fun _ => 0) n = 0 := by
      intro n
      induction n with
      | zero => rfl
      | succ n ih => show sm _ n + 0 = 0; rw [ih]
    rw [this]
  | c :: L => by
    have ih := cnt_preS hs (m := m) L
    have e : preS t (c :: L) m = ((List.range (min m (t - c.sum) + 1)).map fun k => c ++ [k]) ++ preS t L m := rfl
    rw [e, cnt_append, cnt_row, ih]
    unfold wS
    have e2 : sm (fun k => cnt (c :: L) (s - k)) (min m s + 1) = sm (fun k => (if c.sum = s - k then 1 else 0) + cnt L (s - k)) (min m s + 1) := sm_congr fun k _ => cnt_cons c L (s - k)
    rw [e2, sm_add]
    congr 1
    have key : ∀ n, n ≤ s + 1 → sm (fun k => if c.sum = s - k then 1 else 0) n = if c.sum ≤ s ∧ s < c.sum + n then 1 else 0 := by
      intro n
      induction n with
      | zero => intro _; simp [sm]
      | succ n ihn =>
        intro hn
        show sm _ n + (if c.sum = s - n then 1 else 0) = _
        rw [ihn (by omega)]
        by_cases h1 : c.sum ≤ s ∧ s < c.sum + n
        · rw [if_pos h1, if_neg (by omega), if_pos (by omega)]
        · rw [if_neg h1]
          by_cases h2 : c.sum = s - n
          · rw [if_pos h2, if_pos (by omega)]
          · rw [if_neg h2, if_neg (by omega)]
    rw [key _ (by omega)]
    by_cases h1 : c.sum ≤ s ∧ s ≤ c.sum + min m (t - c.sum)
    · rw [if_pos h1, if_pos (by omega)]
    · rw [if_neg h1, if_neg (by omega)]
theorem cnt_pre (t : Nat) : ∀ lens : List Nat, ∀ s, s ≤ t → cnt (pre t lens) s = ways lens s := by
  refine snoc_ind ?_ ?_
  · intro s _
    show cnt [[]] s = w0 s
    rw [cnt_cons]
    unfold w0
    have z : cnt [] s = 0 := rfl
    rw [z]
    simp [eq_comm]
  · intro l m ih s hs
    rw [pre_snoc, cnt_preS hs, ways_snoc]
    unfold wS
    exact sm_congr fun k _ => ih _ (by omega)
theorem chM_length (lens : List Nat) (t : Nat) : (chM lens t).length = ways lens t := cnt_pre t lens t (Nat.le_refl _)
end K59
set_option Elab.async false
set_option linter.all false
set_option maxHeartbeats 1000000
namespace K59
/-! ### the choices as they are got with what is left behind -/
def fnd (t : Nat) (ls : List Nat) (i : Nat) : List (List Nat) := (pre t (ls.take i)).filter fun c => decide (t - c.sum ≤ (ls.drop i).sum)
def stepC (t m bh : Nat) (c : List Nat) : List (List Nat) := (List.range (min m (t - c.sum) + 1 - (t - c.sum - bh))).map fun j => c ++ [(t - c.sum - bh) + j]
theorem fnd_zero {t : Nat} {ls : List Nat} (h : t ≤ ls.sum) : fnd t ls 0 = [[]] := by
  unfold fnd
  simp [pre, h]
theorem fnd_end (t : Nat) (ls : List Nat) : fnd t ls ls.length = chM ls t := by
  unfold fnd chM
  rw [List.take_length, List.drop_length]
  refine List.filter_congr fun c hc => ?_
  have h := (pre_mem t ls c hc).2.1
  show decide (t - c.sum ≤ 0) = decide (c.sum = t)
  by_cases e : c.sum = t
  · rw [decide_eq_true (by omega), decide_eq_true e]
  · rw [decide_eq_false (by omega), decide_eq_false e]
theorem filter_range (n lo : Nat) : (List.range n).filter (fun k => decide (lo ≤ k)) = (List.range (n - lo)).map (fun j => lo + j) := by
  induction n with
  | zero => simp
  | succ n ih =>
    rw [List.range_succ, List.filter_append, ih]
    by_cases c : lo ≤ n
    · have e : n + 1 - lo = (n - lo) + 1 := by omega
      rw [e, List.range_succ, List.map_append]
      simp [c]
    · have e : n + 1 - lo = 0 := by omega
      have e2 : n - lo = 0 := by omega
      rw [e, e2]
      simp [c]
theorem fnd_succ {t : Nat} {ls : List Nat} {i m : Nat} (hm : ls[i]? = some m) : fnd t ls (i + 1) = (fnd t ls i).flatMap (stepC t m (ls.drop (i + 1)).sum) := by
  unfold fnd
  have e1 : ls.take (i + 1) = ls.take i ++ [m] := by rw [List.take_succ, hm]; rfl
  have hi : i < ls.length := (List.getElem?_eq_some_iff.mp hm).1
  have e2 : ls.drop i = m :: ls.drop (i + 1) := by
    rw [List.drop_eq_getElem_cons hi, (List.getElem?_eq_some_iff.mp hm).2]
  rw [e1, pre_snoc, e2, List.sum_cons]
  generalize (ls.drop (i + 1)).sum = bh
  unfold preS
  generalize pre t (ls.take i) = L
  induction L with
  | nil => rfl
  | cons c L ih =>
    rw [List.flatMap_cons, List.filter_append, ih, List.filter_cons]
    have e3 : ((List.range (min m (t - c.sum) + 1)).map fun k => c ++ [k]).filter (fun c => decide (t - c.sum ≤ bh)) = stepC t m bh c := by
      unfold stepC
      rw [List.filter_map]
      have e4 : (List.range (min m (t - c.sum) + 1)).filter ((fun c => decide (t - c.sum ≤ bh)) ∘ fun k => c ++ [k]) = (List.range (min m (t - c.sum) + 1)).filter (fun k => decide (t - c.sum - bh ≤ k)) := by
        refine List.filter_congr fun k _ => ?_
        show decide (t - (c ++ [k]).sum ≤ bh) = _
        have := sum_snoc c k
        by_cases q : t - c.sum - bh ≤ k
        · rw [decide_eq_true (by omega), decide_eq_true q]
        · rw [decide_eq_false (by omega), decide_eq_false q]
      rw [e4, filter_range, List.map_map]
      rfl
    rw [e3]
    by_cases q : t - c.sum ≤ m + bh
    · rw [if_pos (by simpa using q), List.flatMap_cons]
    · rw [if_neg (by simpa using q)]
      have e5 : stepC t m bh c = [] := by
        unfold stepC
        have : min m (t - c.sum) + 1 - (t - c.sum - bh) = 0 := by omega
        rw [this]; rfl
      rw [e5]; rfl
theorem len_preS (t : Nat) (L : List (List Nat)) (m : Nat) : (preS t L m).length ≤ L.length * (m + 1) := by
  unfold preS
  induction L with
  | nil => simp
  | cons c L ih =>
    rw [List.flatMap_cons, List.length_append, List.length_map, List.length_range, List.length_cons, Nat.succ_mul]
    omega
theorem two_pow_ge (m : Nat) : m + 1 ≤ 2 ^ m := by
  induction m with
  | zero => exact Nat.le_refl _
  | succ m ih => rw [Nat.pow_succ]; omega
theorem len_pre (t : Nat) : ∀ l : List Nat, (pre t l).length ≤ 2 ^ l.sum := by
  refine snoc_ind ?_ ?_
  · simp [pre]
  · intro l m ih
    rw [pre_snoc, sum_snoc, Nat.pow_add]
    refine Nat.le_trans (len_preS t _ m) ?_
    exact Nat.mul_le_mul ih (two_pow_ge m)
theorem sum_take_le (l : List Nat) (i : Nat) : (l.take i).sum ≤ l.sum := by
  have e : l.sum = (l.take i).sum + (l.drop i).sum := by rw [← List.sum_append, List.take_append_drop]
  omega
theorem len_fnd {t : Nat} {ls : List Nat} {b : Nat} (hb : ls.sum ≤ b) (i : Nat) : (fnd t ls i).length ≤ 2 ^ b := by
  unfold fnd
  refine Nat.le_trans (List.length_filter_le _ _) (Nat.le_trans (len_pre t _) ?_)
  exact Nat.pow_le_pow_right (by decide) (Nat.le_trans (sum_take_le ls i) hb)
theorem mem_fnd {t : Nat} {ls : List Nat} {i : Nat} {c : List Nat} (h : c ∈ fnd t ls i) : c.sum ≤ t := (pre_mem t _ c (List.mem_filter.mp h).1).2.1
theorem prod1_le : ∀ l : List Nat, prod1 l ≤ 2 ^ l.sum := by
  refine snoc_ind ?_ ?_
  · exact Nat.le_refl _
  · intro l m ih
    unfold prod1 at *
    rw [List.foldl_append, sum_snoc, Nat.pow_add]
    exact Nat.mul_le_mul ih (two_pow_ge m)
end K59
set_option Elab.async false
set_option linter.all false
set_option maxRecDepth 100000
set_option maxHeartbeats 4000000
namespace K59
open PySem PySem.Spec PyProof.Rows L2
section
variable {P : Program} {w : World} {K : PySem.W.Frag} {mg : Str → Option Value} {base : Heap}
theorem sc_ways_to : FnScope ["lens", "total", "ways", "most", "found", "running", "at", "many"] ["lens", "total"] (defScope s_ways_to) := ⟨rfl, rfl, rfl, by decide +kernel, rfl, by decide +kernel, by decide +kernel⟩
/-- the row of the ways up to a total -/
def waysV (ls : List Nat) (n : Nat) : List V := (List.range n).map fun i => iV (ways ls i)
def rowV (f : Nat → Nat) (n : Nat) : List V := (List.range n).map fun i => iV (f i)
theorem rowV_len (f : Nat → Nat) (n : Nat) : (rowV f n).length = n := by simp [rowV]
theorem rowV_get {f : Nat → Nat} {n i : Nat} (h : i < n) : (rowV f n)[i]? = some (iV (f i)) := by simp [rowV, h]
theorem rowV_succ (f : Nat → Nat) (n : Nat) : rowV f (n + 1) = rowV f n ++ [iV (f n)] := by simp [rowV, List.range_succ]
theorem row_w0 (t : Nat) : [V.int 1] ++ List.replicate t (V.int 0) = rowV (ways []) (t + 1) := by
  induction t with
  | zero => rfl
  | succ t ih =>
    rw [rowV_succ, ← ih, List.replicate_succ', List.append_assoc]
    rfl
theorem nsV_get {ls : List Nat} {i : Nat} {x : V} (h : (nsV ls)[i]? = some x) : ∃ m, ls[i]? = some m ∧ x = iV m := by
  rw [List.getElem?_map] at h
  cases e : ls[i]? with
  | none => rw [e] at h; cases h
  | some m => rw [e] at h; exact ⟨m, rfl, (Option.some.inj h).symm⟩
theorem flat_rep (t : Nat) (v : V) : (List.replicate (t : Int).toNat [v]).flatten = List.replicate t v := by
  rw [Int.toNat_natCast]
  induction t with
  | zero => rfl
  | succ t ih => rw [List.replicate_succ, List.flatten_cons, ih]; rfl
theorem take_snoc {α : Type} {l : List α} {i : Nat} {x : α} (h : l[i]? = some x) : l.take (i + 1) = l.take i ++ [x] := by
  rw [List.take_succ, h]; rfl
def spWays : Sp := fun vs H Q _ => ∃ (a : Addr) (ls : List Nat) (t : Nat), vs = [.ref a, iV t] ∧ H a = some (.lst (nsV ls)) ∧ t ≤ 1000 ∧
  ∀ p H', Sm H H' → H' p = some (.lst (rowV (ways ls) (t + 1))) → Q (.ref p) H'
theorem cal_ways_to (hd : Hd K mg) : C8.Cal P w K mg base 1 "ways_to" spWays [] := by
  obtain ⟨fd, F⟩ := hd.d_ways_to
  refine mk_cal F hd.g_ways_to (F.bindsN fun _ _ _ _ _ _ us hl => match us, hl with | [_, _], _ => rfl) sc_ways_to (fun vs H Q E h => ?_) (fun cdv A outer s H vs Q E hr h => ?_)
  · obtain ⟨a, ls, t, rfl, _⟩ := h; rfl
  · obtain ⟨a, ls, t, rfl, ha, ht, k⟩ := h
    refine ⟨_, (pss_cons (ps_set (i := 2) sc_ways_to.nd rfl (Or.inl rfl) (pe_op op_cat (pe_lst (pa_cons pe_int pa_nil)) (pe_op op_rep (pe_lst (pa_cons pe_int pa_nil)) (pv 1))))
    (pss_cons (ps_for PassesOwn.never rfl (pi_list (pv 0)) (pg_name (i := 3) sc_ways_to.nd rfl (Or.inl rfl))
    (pss_cons (ps_par (i := 4) (j := 5) rfl sc_ways_to.nd rfl rfl (by decide) rfl rfl (pa_cons (pe_lst pa_nil) (pa_cons pe_int pa_nil)) rfl)
    (pss_cons (ps_for PassesOwn.never rfl (pi_enum rfl hd.f_enumerate (pa_cons (pv 2) pa_nil)) (pg_tup rfl (pgs_cons (pg_name (i := 6) sc_ways_to.nd rfl (Or.inl rfl)) (pgs_cons (pg_name (i := 7) sc_ways_to.nd rfl (Or.inl rfl)) pgs_nil)))
    (pss_cons (ps_aug (i := 5) sc_ways_to.nd rfl (Or.inl rfl) (pe_op op_sub (pv 7) (pe_ifExp (pt_cmpR op_gt (pv 6) (pv 3) (nomark _)) (pe_ix ix_list (pv 2) (pe_op op_sub (pe_op op_sub (pv 6) (pv 3)) pe_int) (fun _ _ => rfl)) pe_int)) ip_add)
    (pss_one (ps_expr (pe_bm PySem.F.plainAttrs_list PySem.F.slot_list_append PySem.F.type_list_append mt_append (pv 4) (pa_cons (pv 5) pa_nil))))))
    (pss_one (ps_set (i := 2) sc_ways_to.nd rfl (Or.inl rfl) (pv 4))))))
    (pss_one (ps_ret (pv 2))))), ?_⟩
    refine ⟨(by decide), fun p1 n1 => upd_new n1 fun H1 s1 q1 => ?_⟩
    refine ⟨(by decide), fun p2 n2 => upd_new n2 fun H2 s2 q2 => ?_⟩
    refine ⟨_, rfl, p2, t, _, rfl, rfl, q2, by omega, by omega, ?_, fun p3 n3 => upd_new n3 fun H3 s3 q3 => ?_⟩
    · rw [sizeLine_eq]; simp; omega
    rw [flat_rep] at q3
    refine ⟨p1, p3, _, _, rfl, rfl, s3.at (s2.at q1), q3, ?_, fun p4 n4 => upd_new n4 fun H4 s4 q4 => ?_⟩
    · rw [sizeLine_eq]; simp; omega
    have f4 : Sm H H4 := ((s1.trans s2).trans s3).trans s4
    refine ⟨_, rfl, a, rfl, ⟨_, .of (f4.at ha)⟩, for_it walk_list (fun i σ H' => ∃ (p : Addr) (o3 o4 o5 o6 o7 : Option V), σ = [some (.ref a), some (iV t), some (.ref p), o3, o4, o5, o6, o7] ∧ Sm H H' ∧ H p = none ∧ H' p = some (.lst (rowV (ways (ls.take i)) (t + 1)))) ?_ (fun i σ H' _ ⟨_, _, _, _, _, _, _, f, _, _⟩ => .of (f.at ha)) ?_ ?_⟩
    · exact ⟨p4, none, none, none, none, none, rfl, f4, ((s1.trans s2).trans s3).free n4, by rw [q4, row_w0]; rfl⟩
    · rintro i x σ Ha Hb hi ⟨p, o3, o4, o5, o6, o7, rfl, f, np, hp⟩ ⟨rfl, hx⟩
      obtain ⟨m, hm, rfl⟩ := nsV_get hx
      refine ⟨(by decide), fun p5 n5 => upd_new n5 fun H5 s5 q5 => ?_⟩
      refine ⟨_, _, rfl, ?_⟩
      have f5 : Sm H H5 := f.trans s5
      have np5 : H p5 = none := f.free n5
      have hp5 := s5.at hp
      have npp : p ≠ p5 := ne_live hp n5
      refine ⟨_, rfl, p, _, rfl, .of hp5, for_it walk_enum (fun j σ H' => ∃ (r : Nat) (o6 o7 : Option V), σ = [some (.ref a), some (iV t), some (.ref p), some (iV m), some (.ref p5), some (iV r), o6, o7] ∧ Sm H H' ∧ H' p = some (.lst (rowV (ways (ls.take i)) (t + 1))) ∧
        H' p5 = some (.lst (rowV (wS (ways (ls.take i)) m) j)) ∧ (∀ j', j = j' + 1 → r = wS (ways (ls.take i)) m j') ∧ (j = 0 → r = 0)) ?_ (fun j σ H' _ ⟨_, _, _, _, _, h, _⟩ => .of h) ?_ ?_⟩
      · exact ⟨0, o6, o7, rfl, f5, hp5, q5, fun j' z => absurd z (by omega), fun _ => rfl⟩
      · rintro j x σ Hc Hd' hj ⟨r, o6, o7, rfl, g, gp, gf, gr, g0⟩ ⟨T, x0, x1, rfl, nT, rfl, e0, e1⟩
        rw [rowV_len] at hj
        have e1' : iV (ways (ls.take i) j) = x1 := Option.some.inj ((rowV_get hj).symm.trans e1)
        have e0' : V.int (j : Int) = x0 := Option.some.inj e0
        subst e0' e1'
        refine upd_new nT fun H6 s6 q6 => ?_
        refine ⟨T, _, rfl, .of q6, rfl, _, _, rfl, _, _, rfl, rfl, ?_⟩
        have gp6 := s6.at gp
        have gf6 := s6.at gf
        have rec1 : wS (ways (ls.take i)) m j + (if j > m then ways (ls.take i) (j - m - 1) else 0) = r + ways (ls.take i) j := by
          cases j with
          | zero => rw [g0 rfl, wS_zero, if_neg (by omega)]; omega
          | succ j => rw [gr j rfl]; exact wS_succ _ m j
        refine ⟨_, rfl, _, rfl, _, rfl, _, rfl, _, _, rfl, rfl, _, rfl, ite2 (fun c => ?pos) (fun c => ?neg)⟩
        case' pos =>
          have c' : m < j := by have := of_decide_eq_true c; omega
          rw [if_pos c'] at rec1
          refine ⟨_, rfl, _, rfl, _, rfl, _, _, rfl, rfl, _, _, rfl, rfl, p, _, _, _, rfl, rfl, .of gp6, at_of (j := j - m - 1) (by omega) (rowV_get (by omega)), _, _, rfl, rfl, ?_⟩
        case' neg =>
          have c' : ¬ m < j := fun z => c (decide_eq_true (by omega))
          rw [if_neg c'] at rec1
          refine ⟨_, _, rfl, rfl, ?_⟩
        all_goals
          refine ⟨_, _, rfl, rfl, _, rfl, .inl ⟨rfl, _, .of gf6⟩, _, rfl, p5, _, _, rfl, rfl, gf6, by rw [rowV_len, sizeLine_eq]; omega, upd_put gf6 no_lst fun H7 s7 q7 => ?_⟩
          refine ⟨wS (ways (ls.take i)) m j, some (.int (j : Int)), some (iV (ways (ls.take i) j)), ?_, (g.trans s6.to).over1 np5 s7, s7.at gp6 npp, ?_, fun j' e => by rw [show j' = j by omega], fun z => absurd z (by omega)⟩
          · refine congrArg (a₂ := ((wS (ways (ls.take i)) m j : Nat) : Int)) (fun z : Int => [some (.ref a), some (iV t), some (.ref p), some (iV m), some (.ref p5), some (V.int z), some (V.int (j : Int)), some (iV (ways (ls.take i) j))]) ?_
            dsimp only
            omega
          · rw [q7, rowV_succ]
            refine congrArg (a₂ := ((wS (ways (ls.take i)) m j : Nat) : Int)) (fun z : Int => some (HO.lst (rowV (wS (ways (ls.take i)) m) j ++ [V.int z]))) ?_
            dsimp only
            omega
      · rintro σ Hc ⟨r, o6, o7, rfl, g, gp, gf, gr, g0⟩
        rw [rowV_len] at gf
        refine ⟨_, rfl, p5, _, _, _, _, _, rfl, g, np5, ?_⟩
        rw [gf, take_snoc hm, ways_snoc]
    · rintro σ Ha ⟨p, o3, o4, o5, o6, o7, rfl, f, np, hp⟩
      refine ⟨_, rfl, k p Ha f ?_⟩
      rw [hp]
      simp
end
end K59
set_option Elab.async false
set_option linter.all false
set_option maxRecDepth 100000
set_option maxHeartbeats 4000000
namespace K59
open PySem PySem.Spec PyProof.Rows L2
section
variable {P : Program} {w : World} {K : PySem.W.Frag} {mg : Str → Option Value} {base : Heap}
theorem sc_how_many : FnScope ["lens", "total"] ["lens", "total"] (defScope s_how_many) := ⟨rfl, rfl, rfl, by decide +kernel, rfl, by decide +kernel, by decide +kernel⟩
def spHowMany : Sp := fun vs H Q _ => ∃ (a : Addr) (ls : List Nat) (t : Nat), vs = [.ref a, iV t] ∧ H a = some (.lst (nsV ls)) ∧ t ≤ 1000 ∧ ∀ H', Sm H H' → Q (iV (ways ls t)) H'
theorem cal_how_many (hd : Hd K mg) : C8.Cal P w K mg base 2 "how_many" spHowMany [] := by
  obtain ⟨fd, F⟩ := hd.d_how_many
  refine mk_cal F hd.g_how_many (F.bindsN fun _ _ _ _ _ _ us hl => match us, hl with | [_, _], _ => rfl) sc_how_many (fun vs H Q E h => ?_) (fun cdv A outer s H vs Q E hr h => ?_)
  · obtain ⟨a, ls, t, rfl, _⟩ := h; rfl
  · obtain ⟨a, ls, t, rfl, ha, ht, k⟩ := h
    refine ⟨_, (pss_one (ps_ret (pe_ix ix_list (C8.pe_c (cal_ways_to hd) hr (by first | decide | omega) rfl (pa_cons (pv 0) (pa_cons (pv 1) pa_nil))) (pv 1) (fun _ _ => rfl)))), ?_⟩
    refine ⟨_, rfl, _, rfl, a, ls, t, rfl, ha, ht, fun p H1 s1 q1 => ?_⟩
    exact ⟨_, rfl, p, _, _, _, rfl, rfl, .of q1, atI_nat (rowV_get (by omega)), k H1 s1⟩
theorem sc_choices : FnScope ["lens", "total", "many", "most", "found", "behind", "count", "counts", "left"] ["lens", "total"] (defScope s_choices) := ⟨rfl, rfl, rfl, by decide +kernel, rfl, by decide +kernel, by decide +kernel⟩
def ol {α β : Type} (o : Option α) (f : α → List β) : List β := match o with
  | some c => f c
  | none => []
theorem cat_take {α β : Type} (L : List α) (f : α → List β) : ∀ k, cat (fun k => ol L[k]? f) k = (L.take k).flatMap f
  | 0 => rfl
  | k + 1 => by
    show cat _ k ++ ol L[k]? f = _
    rw [cat_take L f k, List.take_succ, List.flatMap_append]
    cases L[k]? with
    | none => rfl
    | some c => show _ ++ f c = _ ++ [c].flatMap f; simp
theorem sum_drop_le (l : List Nat) (i : Nat) : (l.drop i).sum ≤ l.sum := by
  have e : l.sum = (l.take i).sum + (l.drop i).sum := by rw [← List.sum_append, List.take_append_drop]
  omega
/-- a tuple of a choice so far and of what is left -/
def FR (t : Nat) (H : Hp) (v : V) (c : List Nat) : Prop := ∃ a b, v = .ref a ∧ H a = some (.tup [.ref b, iV (t - c.sum)]) ∧ H b = some (.tup (nsV c))
theorem FR.fm {t : Nat} (v : V) (c : List Nat) (N : Addr → Prop) (H H' : Hp) (h : FR t H v c) (f : Fm N H H') : FR t H' v c := by
  obtain ⟨a, b, e, h1, h2⟩ := h; exact ⟨a, b, e, f.tups _ _ h1, f.tups _ _ h2⟩
def spChoices : Sp := fun vs H Q _ => ∃ (a : Addr) (ls : List Nat) (t : Nat), vs = [.ref a, iV t] ∧ H a = some (.lst (nsV ls)) ∧ t ≤ 1000 ∧ t ≤ ls.sum ∧ ls.sum ≤ 20 ∧ ls.length ≤ 60 ∧ ways ls t ≤ 3003 ∧
  ∀ p H' ys, Sm H H' → H' p = some (.lst ys) → Rel (TN H') ys (chM ls t) → Q (.ref p) H'
theorem cal_choices (hd : Hd K mg) : C8.Cal P w K mg base 3 "choices" spChoices [] := by
  obtain ⟨fd, F⟩ := hd.d_choices
  refine mk_cal F hd.g_choices (F.bindsN fun _ _ _ _ _ _ us hl => match us, hl with | [_, _], _ => rfl) sc_choices (fun vs H Q E h => ?_) (fun cdv A outer s H vs Q E hr h => ?_)
  · obtain ⟨a, ls, t, rfl, _⟩ := h; rfl
  · obtain ⟨a, ls, t, rfl, ha, ht, hts, hls, hll, hw, k⟩ := h
    refine ⟨_, (pss_cons (ps_set (i := 2) sc_choices.nd rfl (Or.inl rfl) (C8.pe_c (cal_how_many hd) hr (by first | decide | omega) rfl (pa_cons (pv 0) (pa_cons (pv 1) pa_nil))))
    (pss_cons (ps_if (pt_cmpR op_gt (pv 2) (C8.pe_gc rfl hd.i_MOST_CHOICES) (nomark _)) (pss_one ps_never) pss_nil)
    (pss_cons (ps_asg (pe_tup (pa_cons (pe_lst (pa_cons (pe_tup (pa_cons (pe_tup pa_nil) (pa_cons (pv 1) pa_nil))) pa_nil)) (pa_cons (pe_callB (cr_sum rfl) (by rfl) hd.f_sum (by decide +kernel) (pa_cons (pv 0) pa_nil)) pa_nil))) (pg_tup rfl (pgs_cons (pg_name (i := 4) sc_choices.nd rfl (Or.inl rfl)) (pgs_cons (pg_name (i := 5) sc_choices.nd rfl (Or.inr rfl)) pgs_nil))))
    (pss_cons (ps_for PassesOwn.never rfl (pi_list (pv 0)) (pg_name (i := 3) sc_choices.nd rfl (Or.inr rfl))
    (pss_cons (ps_aug (i := 5) sc_choices.nd rfl (Or.inr rfl) (pv 3) ip_sub)
    (pss_one (ps_setLc2 (i := 4) (own := [("counts", 7), ("left", 8), ("count", 6)]) (vs1 := [6]) (g := (gTup K 2 (gCons (gName 7) (gCons (gName 8) gNil)))) (tt := tYes) (te := (tTup (tCons (tOp (rCatA K) (tVar 7) (tTup (tCons (tVar 6) tNil))) (tCons (tOp (rI0 fun i j => V.int (i - j)) (tVar 8) (tVar 6)) tNil)))) (g1 := (gName 6)) (tt1 := tYes) rfl sc_choices.nd rfl rfl (sw_true rfl rfl rfl (by decide +kernel)) (pi_list (pv 4)) (blkOk_by (N := ["lens", "total", "many", "most", "found", "behind", "count", "counts", "left"]) (sc := defScope s_choices) (by decide +kernel)) (by decide) (fun _ _ _ _ _ => (pg_tup rfl (pgs_cons (pg_name (i := 7) sc_choices.nd rfl (Or.inl rfl)) (pgs_cons (pg_name (i := 8) sc_choices.nd rfl (Or.inl rfl)) pgs_nil)))) (fun _ _ _ _ _ => pts_nil) (fun _ _ _ _ _ => (pi_range2 rfl hd.f_range (pa_cons (pe_callB (call_max2 rfl) (by rfl) hd.f_max (by decide +kernel) (pa_cons pe_int (pa_cons (pe_op op_sub (pv 8) (pv 5)) pa_nil))) (pa_cons (pe_op op_add (pe_callB (call_min2 rfl) (by rfl) hd.f_min (by decide +kernel) (pa_cons (pv 3) (pa_cons (pv 8) pa_nil))) pe_int) pa_nil)))) (fun _ _ _ _ _ => (pg_name (i := 6) sc_choices.nd rfl (Or.inl rfl))) (fun _ _ _ _ _ => pts_nil) (fun _ _ _ _ _ => (pe_tup (pa_cons (pe_op op_catA (pv 7) (pe_tup (pa_cons (pv 6) pa_nil))) (pa_cons (pe_op op_sub (pv 8) (pv 6)) pa_nil))))))))
    (pss_one (ps_ret (pe_lc (own := [("counts", 7), ("left", 8)]) (g := (gTup K 2 (gCons (gName 7) (gCons (gName 8) gNil)))) (tt := tYes) (te := (tVar 7)) rfl sc_choices.nd (pi_list (pv 4)) (blkOk_by (N := ["lens", "total", "many", "most", "found", "behind", "count", "counts", "left"]) (sc := defScope s_choices) (by decide +kernel)) (fun _ _ _ _ _ => (pg_tup rfl (pgs_cons (pg_name (i := 7) sc_choices.nd rfl (Or.inl rfl)) (pgs_cons (pg_name (i := 8) sc_choices.nd rfl (Or.inl rfl)) pgs_nil)))) (fun _ _ _ _ _ => pts_nil) (fun _ _ _ _ _ => (pv 7))))))))), ?_⟩
    refine ⟨_, rfl, _, rfl, a, ls, t, rfl, ha, ht, fun H1 s1 => ?_⟩
    refine ⟨_, rfl, _, _, rfl, rfl, _, rfl, ite2 (fun c => absurd (of_decide_eq_true c) (by omega)) fun _ => ?_⟩
    -- found, behind = [((), total)], sum(lens)
    refine ⟨szN, fun p2 n2 => upd_new n2 fun H2 s2 q2 => ?_⟩
    refine ⟨_, rfl, szN, fun p3 n3 => upd_new n3 fun H3 s3 q3 => ?_⟩
    refine ⟨szN, fun p4 n4 => upd_new n4 fun H4 s4 q4 => ?_⟩
    have f4 : Sm H H4 := ((s1.trans s2).trans s3).trans s4
    refine ⟨_, rfl, a, ls.map (fun n : Nat => (n : Int)), rfl, .of (asI (f4.at ha)), ?_⟩
    refine ⟨szN, fun p5 n5 => upd_new n5 fun H5 s5 q5 => ?_⟩
    refine ⟨p5, _, rfl, .of q5, rfl, _, _, rfl, _, _, rfl, rfl, ?_⟩
    have f5 : Sm H H5 := f4.trans s5
    refine ⟨_, rfl, a, rfl, ⟨_, .of (f5.at ha)⟩, for_it walk_list (fun i σ H' => ∃ (p : Addr) (ys : List V) (o3 o6 o7 o8 : Option V), σ = [some (.ref a), some (iV t), some (iV (ways ls t)), o3, some (.ref p), some (iV (ls.drop i).sum), o6, o7, o8] ∧
      Sm H H' ∧ H' p = some (.lst ys) ∧ Rel (FR t H') ys (fnd t ls i)) ?_ (fun i σ H' _ ⟨_, _, _, _, _, _, _, f, _, _⟩ => .of (f.at ha)) ?_ ?_⟩
    · refine ⟨p4, [.ref p3], none, none, none, none, ?_, f5, s5.at q4, ?_⟩
      · rw [sum_cast]; rfl
      · rw [fnd_zero hts]
        exact .one ⟨p3, p2, rfl, s5.at (s4.at q3), s5.at (s4.at (s3.at q2))⟩
    · rintro i x σ Ha Hb hi ⟨p, ys, o3, o6, o7, o8, rfl, f, hp, r⟩ ⟨rfl, hx⟩
      obtain ⟨m, hm, rfl⟩ := nsV_get hx
      have hil : i < ls.length := (List.getElem?_eq_some_iff.mp hm).1
      have edrop : (ls.drop i).sum = m + (ls.drop (i + 1)).sum := by
        rw [List.drop_eq_getElem_cons hil, (List.getElem?_eq_some_iff.mp hm).2, List.sum_cons]
      refine ⟨_, rfl, _, rfl, _, _, rfl, rfl, ?_⟩
      have esub : ((ls.drop i).sum : Int) - (m : Int) = ((ls.drop (i + 1)).sum : Nat) := by rw [edrop]; omega
      generalize hbh : (ls.drop (i + 1)).sum = bh at esub
      dsimp only
      rw [esub]
      refine ⟨_, rfl, p, rfl, ⟨_, .of hp⟩, lc2_acc walk_list (M := No) (FR t) (fun k => ol (fnd t ls i)[k]? (stepC t m bh)) ?_ (fun _ z => z.elim) (fun H' f' => .of (Sm.at f' hp)) FR.fm ?_ ?_⟩
      · intro k hk
        have e : cat (fun k => ol (fnd t ls i)[k]? (stepC t m bh)) k = ((fnd t ls i).take k).flatMap (stepC t m bh) := cat_take _ _ k
        have hl := len_fnd (t := t) hls (i + 1)
        rw [fnd_succ hm, hbh] at hl
        have h2 : ((fnd t ls i).flatMap (stepC t m bh)).length = (((fnd t ls i).take k).flatMap (stepC t m bh)).length + (((fnd t ls i).drop k).flatMap (stepC t m bh)).length := by
          rw [← List.length_append, ← List.flatMap_append, List.take_append_drop]
        rw [e, sizeLine_eq]
        omega
      · rintro j y Hc Hd' Rk hj fc ⟨rfl, hy⟩ kk
        obtain ⟨c, hc, a1, b1, rfl, h1, h2⟩ := r.get hy
        have hcs := mem_fnd (List.mem_of_getElem? hc)
        have h1' := Sm.at fc h1
        have h2' := Sm.at fc h2
        refine ⟨a1, _, rfl, .of h1', rfl, _, _, rfl, _, _, rfl, rfl, rfl, ?_⟩
        have bm : m ≤ 20 := by have := sum_drop_le ls i; omega
        have bb : bh ≤ 20 := by have := sum_drop_le ls i; omega
        refine ⟨_, rfl, _, rfl, _, _, rfl, rfl, _, _, rfl, _, rfl, _, rfl, _, _, rfl, _, _, rfl, rfl, _, _, rfl, ⟨?_, ?_, ?_, ?_⟩, ?_⟩
        · split <;> omega
        · split <;> omega
        · split <;> omega
        · split <;> omega
        have elo : (if ((t - c.sum : Nat) : Int) - (bh : Int) > 0 then ((t - c.sum : Nat) : Int) - (bh : Int) else 0) = ((t - c.sum - bh : Nat) : Int) := by split <;> omega
        have ehi : ((if ((t - c.sum : Nat) : Int) < (m : Int) then ((t - c.sum : Nat) : Int) else (m : Int)) + 1 - ((t - c.sum - bh : Nat) : Int)).toNat = (stepC t m bh c).length := by
          unfold stepC
          rw [List.length_map, List.length_range]
          split <;> omega
        show Rk [some (.ref a), some (iV t), some (iV (ways ls t)), some (iV m), some (.ref p), some (iV bh), none, some (.ref b1), some (iV (t - c.sum))] (Itr (if ((t - c.sum : Nat) : Int) - (bh : Int) > 0 then ((t - c.sum : Nat) : Int) - (bh : Int) else 0) ((if ((t - c.sum : Nat) : Int) < (m : Int) then ((t - c.sum : Nat) : Int) else (m : Int)) + 1 - (if ((t - c.sum : Nat) : Int) - (bh : Int) > 0 then ((t - c.sum : Nat) : Int) - (bh : Int) else 0)).toNat) _
        rw [elo, ehi]
        have key := kk [some (.ref a), some (iV t), some (iV (ways ls t)), some (iV m), some (.ref p), some (iV bh), none, some (.ref b1), some (iV (t - c.sum))] ((t - c.sum - bh : Nat) : Int) Hd' .refl ?inner
        · rw [hc] at key; exact key
        · intro q e Hq Qy he fe te kq
          rw [hc] at he
          have he : (stepC t m bh c)[q]? = some e := he
          unfold stepC at he
          rw [List.getElem?_map] at he
          obtain ⟨q', hq', ee⟩ := Option.map_eq_some_iff.mp he
          have eq' : q' = q := by
            have h3 := List.getElem?_eq_some_iff.mp hq'
            obtain ⟨h3, h4⟩ := h3
            rw [List.getElem_range] at h4
            exact h4.symm
          subst eq'
          subst ee
          have hqn := (List.getElem?_eq_some_iff.mp hq').1
          rw [List.length_range] at hqn
          have hb : Hq b1 = some (.tup (nsV c)) := te _ _ h2'
          have ev : ((t - c.sum - bh : Nat) : Int) + (q' : Int) = ((t - c.sum - bh + q' : Nat) : Int) := by omega
          rw [ev]
          have esum := sum_snoc c (t - c.sum - bh + q')
          have el : ((t - c.sum : Nat) : Int) - ((t - c.sum - bh + q' : Nat) : Int) = ((t - (c ++ [t - c.sum - bh + q']).sum : Nat) : Int) := by rw [esum]; omega
          refine ⟨rfl, _, rfl, _, rfl, szN, fun p6 n6 => upd_new n6 fun H6 s6 q6 => ?_⟩
          by_cases ce : c = []
          · subst ce
            refine ⟨b1, p6, _, _, rfl, rfl, .of (s6.at hb), .of q6, (by rw [sizeLine_eq]; simp), fun _ => ?_, fun z => absurd rfl z, fun z => absurd rfl z⟩
            refine ⟨_, rfl, _, rfl, _, _, rfl, rfl, szN, fun p8 n8 => upd_new n8 fun H8 s8 q8 => ?_⟩
            refine kq _ H8 (s6.trans s8) ⟨p8, p6, rfl, ?_, s8.at q6⟩
            rw [q8]
            exact congrArg (fun z : Int => some (HO.tup [V.ref p6, V.int z])) el
          · refine ⟨b1, p6, _, _, rfl, rfl, .of (s6.at hb), .of q6, ?_, fun z => absurd (List.map_eq_nil_iff.mp z) ce, fun _ z => (nomatch z), fun _ _ p7 n7 => upd_new n7 fun H7 s7 q7 => ?_⟩
            · have hcl := (pre_mem t _ c (List.mem_filter.mp (List.mem_of_getElem? hc)).1).1
              have hle : (ls.take i).length ≤ ls.length := by rw [List.length_take]; omega
              rw [List.length_map, hcl, sizeLine_eq]
              show _ + 1 ≤ _
              omega
            refine ⟨_, rfl, _, rfl, _, _, rfl, rfl, szN, fun p8 n8 => upd_new n8 fun H8 s8 q8 => ?_⟩
            refine kq _ H8 ((s6.trans s7).trans s8) ⟨p8, p7, rfl, ?_, ?_⟩
            · rw [q8]
              exact congrArg (fun z : Int => some (HO.tup [V.ref p7, V.int z])) el
            · rw [s8.at q7]
              show some (HO.tup (c.map iV ++ [iV _])) = some (HO.tup ((c ++ [_]).map iV))
              rw [List.map_append]; rfl
      · rintro D zs Hq nD fe hD rz
        refine ⟨D, zs, _, _, _, _, rfl, Fm.trans f fe, hD, ?_⟩
        rw [fnd_succ hm, hbh]
        have e : cat (fun k => ol (fnd t ls i)[k]? (stepC t m bh)) ys.length = ((fnd t ls i).take ys.length).flatMap (stepC t m bh) := cat_take _ _ _
        rw [e, r.1, List.take_length] at rz
        exact rz
    · rintro σ Ha ⟨p, ys, o3, o6, o7, o8, rfl, f, hp, r⟩
      have el : (nsV ls).length = ls.length := by simp
      rw [el, fnd_end] at r
      have rl := r.1
      refine ⟨_, rfl, p, rfl, ⟨_, .of hp⟩, lc_all walk_list (M := No) (fun i y H' => ∃ c, (chM ls t)[i]? = some c ∧ TN H' y c) ?_ (fun _ z => z.elim) (fun H' f' => .of (Sm.at f' hp)) (fun i y N H H' ⟨c, e, h⟩ f => ⟨c, e, h.fm f⟩) ?_ ?_⟩
      · rw [rl, chM_length, sizeLine_eq]; omega
      · rintro j y Hc Hd' Qy hj fc ⟨rfl, hy⟩ kq
        obtain ⟨c, hc, a1, b1, rfl, h1, h2⟩ := r.get hy
        refine ⟨a1, _, rfl, .of (Sm.at fc h1), rfl, _, _, rfl, _, _, rfl, rfl, rfl, _, rfl, ?_⟩
        exact kq _ _ .refl ⟨c, hc, b1, rfl, Sm.at fc h2⟩
      · rintro D zs Hq nD fe hD hl hz
        refine k D Hq zs (f.trans fe) hD ⟨by rw [hl, rl], fun i v x hv hx => ?_⟩
        obtain ⟨c, hc, h⟩ := hz i v hv
        rw [hx] at hc
        cases hc
        exact h
end
end K59
set_option Elab.async false
set_option linter.all false
set_option maxRecDepth 100000
set_option maxHeartbeats 4000000
namespace K59
open PySem PySem.Spec PyProof.Rows L2
section
variable {P : Program} {w : World} {K : PySem.W.Frag} {mg : Str → Option Value} {base : Heap}
theorem sc_is_whole : FnScope ["thing"] ["thing"] (defScope s_is_whole) := ⟨rfl, rfl, rfl, by decide +kernel, rfl, by decide +kernel, by decide +kernel⟩
def spWhole : Sp := fun vs H Q _ => ∃ v, vs = [v] ∧ ((∃ n, v = .int n ∧ Q (.bl true) H) ∨ ∃ a xs, v = .ref a ∧ H a = some (.tup xs) ∧ Q (.bl false) H)
theorem cal_is_whole (hd : Hd K mg) : C8.Cal P w K mg base 1 "is_whole" spWhole [] := by
  obtain ⟨fd, F⟩ := hd.d_is_whole
  refine mk_cal F hd.g_is_whole (F.bindsN fun _ _ _ _ _ _ us hl => match us, hl with | [_], _ => rfl) sc_is_whole (fun vs H Q E h => ?_) (fun cdv A outer s H vs Q E hr h => ?_)
  · obtain ⟨a, rfl, _⟩ := h; rfl
  · obtain ⟨v, rfl, h⟩ := h
    refine ⟨_, (pss_one (ps_ret (pe_and (pe_callB call_isi (by rfl) hd.f_isinstance (by decide +kernel) (pa_cons (pv 0) (pa_cons (pe_bltn (v := .ty "int") rfl hd.f_int (by decide +kernel) rfl) pa_nil))) (pe_one (pe_not (pe_callB call_isi (by rfl) hd.f_isinstance (by decide +kernel) (pa_cons (pv 0) (pa_cons (pe_bltn (v := .ty "bool") rfl hd.f_bool (by decide +kernel) rfl) pa_nil)))))))), ?_⟩
    rcases h with ⟨n, rfl, q⟩ | ⟨a, xs, rfl, ha, q⟩
    · refine ⟨_, rfl, _, _, _, _, _, rfl, .ty _, .base (.int _), kit_ty (r := true) (by decide +kernel), _, rfl, iteT ?_⟩
      exact ⟨_, rfl, _, _, _, _, _, rfl, .ty _, .base (.int _), kit_ty (r := false) (by decide +kernel), _, rfl, q⟩
    · exact ⟨_, rfl, _, _, _, _, _, rfl, .ty _, .base (.tup ha), kit_ty (r := false) (by decide +kernel), _, rfl, iteF q⟩
theorem sc_names_of : FnScope ["marks", "mark"] ["marks"] (defScope s_names_of) := ⟨rfl, rfl, rfl, by decide +kernel, rfl, by decide +kernel, by decide +kernel⟩
def absI (i : Int) : Int := if i < 0 then -i else i
theorem absI_nat (i : Int) : absI i = (i.natAbs : Int) := by unfold absI; split <;> omega
theorem absI_nn (i : Int) : 0 ≤ absI i := by unfold absI; split <;> omega
theorem isV_get {ns : List Int} {i : Nat} {x : V} (h : (isV ns)[i]? = some x) : ∃ m, ns[i]? = some m ∧ x = .int m := by
  rw [List.getElem?_map] at h
  obtain ⟨m, e, q⟩ := Option.map_eq_some_iff.mp h
  exact ⟨m, e, q.symm⟩
theorem isV_len (ns : List Int) : (isV ns).length = ns.length := by simp
/-- a list that holds just these -/
theorem ext_isV {ys : List V} {ns : List Int} (hl : ys.length = ns.length) (h : ∀ (i : Nat) y, ys[i]? = some y → ∃ m, ns[i]? = some m ∧ y = .int m) : ys = isV ns := by
  refine List.ext_getElem? fun i => ?_
  cases e : ys[i]? with
  | none =>
    have : ys.length ≤ i := List.getElem?_eq_none_iff.mp e
    rw [List.getElem?_eq_none (by rw [isV_len]; omega)]
  | some y =>
    obtain ⟨m, hm, rfl⟩ := h i y e
    show _ = (ns.map V.int)[i]?
    rw [List.getElem?_map, hm]; rfl
def spNamesOf : Sp := fun vs H Q _ => ∃ (a : Addr) (ms : List Int), vs = [.ref a] ∧ H a = some (.lst (isV ms)) ∧ ms.length ≤ 1000 ∧ ∀ p H', H p = none → Sm H H' → H' p = some (.lst (isV (ms.map absI))) → Q (.ref p) H'
theorem cal_names_of (hd : Hd K mg) : C8.Cal P w K mg base 1 "names_of" spNamesOf [] := by
  obtain ⟨fd, F⟩ := hd.d_names_of
  refine mk_cal F hd.g_names_of (F.bindsN fun _ _ _ _ _ _ us hl => match us, hl with | [_], _ => rfl) sc_names_of (fun vs H Q E h => ?_) (fun cdv A outer s H vs Q E hr h => ?_)
  · obtain ⟨a, ms, rfl, _⟩ := h; rfl
  · obtain ⟨a, ms, rfl, ha, hl, k⟩ := h
    refine ⟨_, (pss_one (ps_ret (pe_lc (own := [("mark", 1)]) (g := (gName 1)) (tt := tYes) (te := (tCB bAbs (tCons (tVar 1) tNil))) rfl sc_names_of.nd (pi_list (pv 0)) (blkOk_by (N := ["marks", "mark"]) (sc := defScope s_names_of) (by decide +kernel)) (fun _ _ _ _ _ => (pg_name (i := 1) sc_names_of.nd rfl (Or.inl rfl))) (fun _ _ _ _ _ => pts_nil) (fun _ _ _ _ _ => (pe_callB call_abs (by rfl) hd.f_abs (by decide +kernel) (pa_cons (pv 1) pa_nil)))))), ?_⟩
    refine ⟨_, rfl, a, rfl, ⟨_, .of ha⟩, lc_all walk_list (M := No) (fun i y H' => ∃ m, (ms.map absI)[i]? = some m ∧ y = .int m) ?_ (fun _ z => z.elim) (fun H' f' => .of (Sm.at f' ha)) (fun i y N H H' h f => h) ?_ ?_⟩
    · rw [isV_len, sizeLine_eq]; omega
    · rintro j y Hc Hd' Qy hj fc ⟨rfl, hy⟩ kq
      obtain ⟨m, hm, rfl⟩ := isV_get hy
      exact ⟨rfl, _, rfl, _, rfl, kq _ _ .refl ⟨absI m, by rw [List.getElem?_map, hm]; rfl, rfl⟩⟩
    · rintro D zs Hq nD fe hD hz hh
      refine k D Hq nD fe ?_
      rw [hD, ext_isV (ns := ms.map absI) (by rw [hz, isV_len, List.length_map]) hh]
theorem sc_are_unlike : FnScope ["things"] ["things"] (defScope s_are_unlike) := ⟨rfl, rfl, rfl, by decide +kernel, rfl, by decide +kernel, by decide +kernel⟩
def spUnlike : Sp := fun vs H Q _ => ∃ (a : Addr) (ns : List Int), vs = [.ref a] ∧ H a = some (.lst (isV ns)) ∧ ns.length ≤ 1000 ∧ ns.Nodup ∧ ∀ H', Sm H H' → Q (.bl true) H'
theorem cal_are_unlike (hd : Hd K mg) : C8.Cal P w K mg base 1 "are_unlike" spUnlike [] := by
  obtain ⟨fd, F⟩ := hd.d_are_unlike
  refine mk_cal F hd.g_are_unlike (F.bindsN fun _ _ _ _ _ _ us hl => match us, hl with | [_], _ => rfl) sc_are_unlike (fun vs H Q E h => ?_) (fun cdv A outer s H vs Q E hr h => ?_)
  · obtain ⟨a, ms, rfl, _⟩ := h; rfl
  · obtain ⟨a, ns, rfl, ha, hl, nd, k⟩ := h
    refine ⟨_, (pss_one (ps_ret (pe_cmpR op_eq (pe_callB call_lenN (by rfl) hd.f_len PySem.boot_len (pa_cons (pe_callTy (call_setI rfl) (by rfl) hd.f_set (by decide +kernel) (pa_cons (pv 0) pa_nil)) pa_nil)) (pe_callB call_len_seq (by rfl) hd.f_len PySem.boot_len (pa_cons (pv 0) pa_nil)) (nomark _)))), ?_⟩
    refine ⟨_, rfl, a, ns, rfl, .of ha, by omega, nd, fun p np => upd_new np fun H1 s1 q1 => ?_⟩
    refine ⟨p, _, rfl, q1, by omega, _, rfl, a, _, rfl, .inl (.of (s1.at ha)), rfl, ?_⟩
    have e : decide ((iV ns.length) = V.int ((isV ns).length : Nat)) = true := by rw [isV_len]; exact decide_eq_true rfl
    show Q (.bl (decide ((iV ns.length) = V.int ((isV ns).length : Nat)))) H1
    rw [e]
    exact k H1 s1
theorem sc_check_marks : FnScope ["marks", "limit", "names"] ["marks", "limit"] (defScope s_check_marks) := ⟨rfl, rfl, rfl, by decide +kernel, rfl, by decide +kernel, by decide +kernel⟩
/-- marks as they are wanted -/
structure MarksOk (ms : List Int) : Prop where
  pos : 1 ≤ ms.length
  few : ms.length ≤ 60
  nd : (ms.map absI).Nodup
  le : ∀ m ∈ ms, absI m ≤ 1000000000
def spCheckMarks : Sp := fun vs H Q _ => ∃ (a : Addr) (ms : List Int), vs = [.ref a, .int 1000000000] ∧ H a = some (.lst (isV ms)) ∧ MarksOk ms ∧ ∀ H', Sm H H' → Q .non H'
theorem cal_check_marks (hd : Hd K mg) : C8.Cal P w K mg base 2 "check_marks" spCheckMarks [.int 1000000000] := by
  obtain ⟨fd, F⟩ := hd.d_check_marks
  obtain ⟨ds, rd, bd⟩ := F.binds1 (ps := ["marks", "limit"]) 1 0 (by simp) rfl (fun T kV doc pm an cdv ct us its hl hi => match us, its, hl, hi with | [_], [_], _, _ => ⟨_, rfl, rfl⟩)
  refine ⟨_, fd, _, ds, F.ok sc_check_marks (fun vs H Q E h => ?_) (fun cdv A outer s H vs Q E hr h => ?_), hd.g_check_marks, F.kp, bd, rd⟩
  · obtain ⟨a, ms, rfl, _⟩ := h; rfl
  · obtain ⟨a, ms, rfl, ha, ok, k⟩ := h
    refine ⟨_, PSs.nox (pss_cons (ps_set (i := 2) sc_check_marks.nd rfl (Or.inl rfl) (C8.pe_c (cal_names_of hd) hr (by first | decide | omega) rfl (pa_cons (pv 0) pa_nil)))
    (pss_one (ps_if (PW.pt (pw_or (pt_not (pt_chain op_le op_le pe_int (pe_callB call_len_seq (by rfl) hd.f_len PySem.boot_len (pa_cons (pv 0) pa_nil)) (C8.pe_gc rfl hd.i_MOST_MARKS))) (pw_or (pt_not (pt_val (C8.pe_c (cal_are_unlike hd) hr (by first | decide | omega) rfl (pa_cons (pv 2) pa_nil)))) (pw_or1 (pt_cmpR op_gt (pe_callB (cr_max rfl) (by rfl) hd.f_max (by decide +kernel) (pa_cons (pv 2) pa_nil)) (pv 1) (nomark _)))))) (pss_one ps_never) pss_nil))), ?_⟩
    have hl := ok.few
    refine ⟨_, rfl, a, ms, rfl, ha, by omega, fun p H1 np s1 q1 => ?_⟩
    have hpos := ok.pos
    refine ⟨_, rfl, a, _, rfl, .inl (.of (s1.at ha)), _, _, rfl, rfl, _, rfl, ?_⟩
    refine ifT (decide_eq_true (by rw [isV_len]; omega)) ?_
    refine ⟨_, _, rfl, rfl, _, rfl, ifF (by rw [isV_len]; exact congrArg (! ·) (decide_eq_true (by omega))) ?_⟩
    refine ⟨_, rfl, p, _, rfl, q1, by rw [List.length_map]; omega, ok.nd, fun H2 s2 => ?_⟩
    refine ⟨_, rfl, ifF rfl ?_⟩
    refine ⟨_, rfl, p, _, rfl, .of (s2.at q1), by rw [List.length_map]; omega, fun m hm hle => ?_⟩
    refine ⟨_, rfl, _, _, rfl, rfl, _, rfl, ifF ?_ ?_⟩
    · obtain ⟨m', h1, rfl⟩ := List.mem_map.mp hm
      exact decide_eq_false (by have := ok.le _ h1; omega)
    · exact k H2 (s1.trans s2)
theorem sc_first_fresh : FnScope ["marks", "fresh", "least"] ["marks", "fresh"] (defScope s_first_fresh) := ⟨rfl, rfl, rfl, by decide +kernel, rfl, by decide +kernel, by decide +kernel⟩
/-- the greatest name of some marks -/
def topI (ms : List Int) : Int := (ms.map absI).foldl (fun a b => if a < b then b else a) 0
theorem foldl_max : ∀ (l : List Int) (a : Int), a ≤ l.foldl (fun a b => if a < b then b else a) a ∧ (∀ b ∈ l, b ≤ l.foldl (fun a b => if a < b then b else a) a) ∧ (l.foldl (fun a b => if a < b then b else a) a = a ∨ l.foldl (fun a b => if a < b then b else a) a ∈ l)
  | [], a => ⟨Int.le_refl _, fun b h => absurd h List.not_mem_nil, Or.inl rfl⟩
  | c :: l, a => by
    rw [List.foldl_cons]
    obtain ⟨h1, h2, h3⟩ := foldl_max l (if a < c then c else a)
    refine ⟨?_, fun b hb => ?_, ?_⟩
    · split at h1 <;> split <;> first | exact h1 | omega
    · rcases List.mem_cons.mp hb with rfl | hb
      · split at h1 <;> split <;> first | exact h1 | omega
      · exact h2 b hb
    · rcases h3 with h3 | h3
      · rw [h3]; split
        · exact .inr (List.mem_cons_self ..)
        · exact .inl rfl
      · exact .inr (List.mem_cons_of_mem _ h3)
theorem topI_ge {ms : List Int} {m : Int} (h : m ∈ ms) : absI m ≤ topI ms := (foldl_max _ 0).2.1 _ (List.mem_map_of_mem h)
/-- a greatest one is that one -/
theorem topI_eq {ms : List Int} {m : Int} (h : m ∈ ms.map absI) (hle : ∀ x ∈ ms.map absI, x ≤ m) : m = topI ms := by
  have h1 := (foldl_max (ms.map absI) 0).2.1 m h
  have h2 : topI ms ≤ m := by
    rcases (foldl_max (ms.map absI) 0).2.2 with e | e
    · have : (0 : Int) ≤ m := by obtain ⟨x, _, rfl⟩ := List.mem_map.mp h; exact absI_nn x
      show List.foldl _ _ _ ≤ m
      omega
    · exact hle _ e
  have h3 : m ≤ topI ms := h1
  omega
/-- the first new name -/
def freshI (ms : List Int) (o : Option Int) : Int := match o with
  | none => topI ms + 1
  | some n => n
def oV (o : Option Int) : V := match o with
  | none => .non
  | some n => .int n
def spFresh : Sp := fun vs H Q _ => ∃ (a : Addr) (ms : List Int) (o : Option Int), vs = [.ref a, oV o] ∧ H a = some (.lst (isV ms)) ∧ ms.length ≤ 1000 ∧ 0 < ms.length ∧ (∀ n, o = some n → topI ms + 1 ≤ n) ∧ ∀ H', Sm H H' → Q (.int (freshI ms o)) H'
theorem cal_first_fresh (hd : Hd K mg) : C8.Cal P w K mg base 2 "first_fresh" spFresh [] := by
  obtain ⟨fd, F⟩ := hd.d_first_fresh
  refine mk_cal F hd.g_first_fresh (F.bindsN fun _ _ _ _ _ _ us hl => match us, hl with | [_, _], _ => rfl) sc_first_fresh (fun vs H Q E h => ?_) (fun cdv A outer s H vs Q E hr h => ?_)
  · obtain ⟨a, ms, o, rfl, _⟩ := h; rfl
  · obtain ⟨a, ms, o, rfl, ha, hl, hpos, ho, k⟩ := h
    refine ⟨_, (pss_cons (ps_set (i := 2) sc_first_fresh.nd rfl (Or.inl rfl) (pe_op op_add (pe_callB (cr_max rfl) (by rfl) hd.f_max (by decide +kernel) (pa_cons (C8.pe_c (cal_names_of hd) hr (by first | decide | omega) rfl (pa_cons (pv 0) pa_nil)) pa_nil)) pe_int))
    (pss_cons (ps_if (PW.pt (pw_and (pt_cmpR op_notN (pv 1) pe_non (nomark _)) (pw_and1 (pt_cmpR op_lt (pv 1) (pv 2) (nomark _))))) (pss_one ps_never) pss_nil)
    (pss_one (ps_ret (pe_ifExp (pt_cmpR op_isN (pv 1) pe_non (nomark _)) (pv 2) (pv 1)))))), ?_⟩
    refine ⟨_, rfl, a, ms, rfl, ha, hl, fun p H1 np s1 q1 => ?_⟩
    refine ⟨p, _, rfl, .of q1, by rw [List.length_map]; omega, fun m hm hle => ?_⟩
    have em := topI_eq hm hle
    subst em
    refine ⟨_, _, rfl, rfl, ?_⟩
    cases o with
    | none => exact ⟨_, rfl, rfl, _, rfl, ifF rfl ⟨_, rfl, rfl, _, rfl, ifT rfl ⟨_, rfl, k H1 s1⟩⟩⟩
    | some n =>
      have hn := ho n rfl
      refine ⟨_, rfl, rfl, _, rfl, ifT rfl ⟨_, rfl, _, rfl, _, _, rfl, rfl, _, rfl, ifF (decide_eq_false (by omega)) ?_⟩⟩
      exact ⟨_, rfl, rfl, _, rfl, ifF rfl ⟨_, rfl, k H1 s1⟩⟩
end
end K59
set_option Elab.async false
set_option linter.all false
set_option maxRecDepth 100000
set_option maxHeartbeats 4000000
namespace K59
open PySem PySem.Spec PyProof.Rows L2
/-! ### parts -/
inductive Part where
  | one
  | sums (ps : List Part)
mutual
def Part.sz : Part → Nat
  | .one => 1
  | .sums ps => Part.szs ps
def Part.szs : List Part → Nat
  | [] => 0
  | p :: ps => p.sz + Part.szs ps
end
mutual
/-- how many knots -/
def Part.nk : Part → Nat
  | .one => 0
  | .sums ps => Part.nks ps + 1
def Part.nks : List Part → Nat
  | [] => 0
  | p :: ps => p.nk + Part.nks ps
end
mutual
def Part.dat : Part → PyData
  | .one => .int 1
  | .sums ps => .tuple (.str "sums" :: Part.dats ps)
def Part.dats : List Part → List PyData
  | [] => []
  | p :: ps => p.dat :: Part.dats ps
end
mutual
def PartAt (H : Hp) : V → Part → Prop
  | v, .one => v = .int 1
  | v, .sums ps => ∃ a vs, v = .ref a ∧ H a = some (.tup (.str "sums" :: vs)) ∧ PartsAt H vs ps
def PartsAt (H : Hp) : List V → List Part → Prop
  | vs, [] => vs = []
  | vs, p :: ps => ∃ v r, vs = v :: r ∧ PartAt H v p ∧ PartsAt H r ps
end
/-- a part of some depth, no sums of nothing -/
def okD : Nat → Part → Prop
  | 0, _ => False
  | _ + 1, .one => True
  | d + 1, .sums ps => ps ≠ [] ∧ ps.length ≤ 60 ∧ ∀ p ∈ ps, okD d p
theorem okD.up : ∀ {d p}, okD d p → okD (d + 1) p
  | 0, _, h => h.elim
  | _ + 1, .one, _ => trivial
  | d + 1, .sums ps, h => ⟨h.1, h.2.1, fun p hp => okD.up (h.2.2 p hp)⟩
theorem okD.le {d e : Nat} {p : Part} (h : okD d p) (l : d ≤ e) : okD e p := by
  induction l with
  | refl => exact h
  | step _ ih => exact ih.up
theorem szs_eq (ps : List Part) : Part.szs ps = (ps.map Part.sz).sum := by
  induction ps with
  | nil => rfl
  | cons p ps ih => rw [Part.szs, ih, List.map_cons, List.sum_cons]
theorem okD.pos : ∀ {d p}, okD d p → 1 ≤ p.sz
  | 0, _, h => h.elim
  | _ + 1, .one, _ => Nat.le_refl _
  | d + 1, .sums (p :: ps), h => by
    have := okD.pos (h.2.2 p (List.mem_cons_self ..))
    show 1 ≤ p.sz + Part.szs ps
    omega
  | d + 1, .sums [], h => absurd rfl h.1
mutual
theorem PartAt.mv {H H' : Hp} (f : ∀ b xs, H b = some (.tup xs) → H' b = some (.tup xs)) : ∀ {p : Part} {v : V}, PartAt H v p → PartAt H' v p
  | .one, _, h => h
  | .sums ps, v, h => by
    rw [PartAt] at h ⊢
    obtain ⟨a, vs, e, ha, hs⟩ := h
    exact ⟨a, vs, e, f _ _ ha, PartsAt.mv f hs⟩
theorem PartsAt.mv {H H' : Hp} (f : ∀ b xs, H b = some (.tup xs) → H' b = some (.tup xs)) : ∀ {ps : List Part} {vs : List V}, PartsAt H vs ps → PartsAt H' vs ps
  | [], _, h => h
  | p :: ps, vs, h => by
    rw [PartsAt] at h ⊢
    obtain ⟨v, r, e, h1, h2⟩ := h
    exact ⟨v, r, e, PartAt.mv f h1, PartsAt.mv f h2⟩
end
theorem PartAt.fm {M : Addr → Prop} {H H' : Hp} {p : Part} {v : V} (h : PartAt H v p) (f : Fm M H H') : PartAt H' v p := h.mv f.tups
theorem PartsAt.fm {M : Addr → Prop} {H H' : Hp} {p : List Part} {v : List V} (h : PartsAt H v p) (f : Fm M H H') : PartsAt H' v p := h.mv f.tups
mutual
theorem PartAt.dp {K : PySem.W.Frag} {H : Hp} : ∀ {p : Part} {v : V}, PartAt H v p → Dp K H v p.dat
  | .one, _, h => by rw [PartAt] at h; subst h; exact .int 1
  | .sums ps, v, h => by
    rw [PartAt] at h
    obtain ⟨a, vs, rfl, ha, hs⟩ := h
    exact .tup (.of ha) (.cons (.str _) (PartsAt.dp hs))
theorem PartsAt.dp {K : PySem.W.Frag} {H : Hp} : ∀ {ps : List Part} {vs : List V}, PartsAt H vs ps → DpAll K H vs (Part.dats ps)
  | [], _, h => by rw [PartsAt] at h; subst h; exact .nil
  | p :: ps, vs, h => by
    rw [PartsAt] at h
    obtain ⟨v, r, rfl, h1, h2⟩ := h
    exact .cons (PartAt.dp h1) (PartsAt.dp h2)
end
theorem PartsAt.len {H : Hp} : ∀ {ps : List Part} {vs : List V}, PartsAt H vs ps → vs.length = ps.length
  | [], _, h => by rw [PartsAt] at h; subst h; rfl
  | p :: ps, vs, h => by
    rw [PartsAt] at h
    obtain ⟨v, r, rfl, h1, h2⟩ := h
    rw [List.length_cons, List.length_cons, PartsAt.len h2]
theorem PartsAt.get {H : Hp} : ∀ {ps : List Part} {vs : List V} {i : Nat} {v : V}, PartsAt H vs ps → vs[i]? = some v → ∃ p, ps[i]? = some p ∧ PartAt H v p
  | [], _, _, _, h, e => by rw [PartsAt] at h; subst h; simp at e
  | p :: ps, vs, i, x, h, e => by
    rw [PartsAt] at h
    obtain ⟨v, r, rfl, h1, h2⟩ := h
    cases i with
    | zero => cases e; exact ⟨p, rfl, h1⟩
    | succ i => exact PartsAt.get (vs := r) (i := i) h2 (by simpa using e)
mutual
theorem dat_lay : ∀ p : Part, p.dat.canLay0 = true
  | .one => rfl
  | .sums ps => by rw [Part.dat, PyData.canLay0, PyData.canLayAll0, dats_lay ps]; exact (by decide +kernel : ((PyData.str "sums").canLay0 && true) = true)
theorem dats_lay : ∀ ps : List Part, PyData.canLayAll0 (Part.dats ps) = true
  | [] => rfl
  | p :: ps => by rw [Part.dats, PyData.canLayAll0, dat_lay p, dats_lay ps]; rfl
end
theorem dats_depth {d : Nat} : ∀ {ps : List Part}, (∀ p ∈ ps, p.dat.depth ≤ d) → PyData.depthAll (Part.dats ps) ≤ d
  | [], _ => Nat.zero_le _
  | p :: ps, h => by
    rw [Part.dats, PyData.depthAll]
    exact Nat.max_le.mpr ⟨h p (List.mem_cons_self ..), dats_depth fun q hq => h q (List.mem_cons_of_mem _ hq)⟩
theorem dat_depth : ∀ {d p}, okD d p → p.dat.depth ≤ d
  | 0, _, h => h.elim
  | _ + 1, .one, _ => Nat.zero_le _
  | d + 1, .sums ps, h => by
    rw [Part.dat, PyData.depth, PyData.depthAll]
    refine Nat.succ_le_succ (Nat.max_le.mpr ⟨Nat.zero_le _, dats_depth fun p hp => dat_depth (h.2.2 p hp)⟩)
theorem dat_shaped {d : Nat} {p : Part} (h : okD d p) (l : d ≤ 60) : SeqAt.shaped p.dat = true := by
  unfold SeqAt.shaped
  rw [dat_lay p, decide_eq_true (Nat.le_trans (dat_depth h) (by omega))]; rfl
theorem shaped_list {ds : List PyData} (h1 : PyData.canLayAll0 ds = true) (h2 : PyData.depthAll ds ≤ 60) : SeqAt.shaped (.list ds) = true := by
  unfold SeqAt.shaped
  rw [PyData.canLay0, h1, PyData.depth, decide_eq_true (by omega)]; rfl
theorem cut_tail (x : V) (xs : List V) : cutV (x :: xs) (some 1) none = xs := by
  have e1 : HT.sIx (x :: xs).length 0 (some 1) = 1 := by
    simp [HT.sIx]
  have e2 : HT.sIx (x :: xs).length (x :: xs).length none = xs.length + 1 := by simp [HT.sIx]
  unfold cutV
  rw [e1, e2]
  simp
theorem cut_tail_ne (x : V) (xs : List V) : ¬ (HT.sIx (x :: xs).length 0 (some 1) = 0 ∧ HT.sIx (x :: xs).length (x :: xs).length none = (x :: xs).length) := by
  have e1 : HT.sIx (x :: xs).length 0 (some 1) = 1 := by
    simp [HT.sIx]
  rw [e1]
  exact fun h => absurd h.1 (by decide)
/-- a list of these numbers -/
theorem ext_nsV {ys : List V} {ns : List Nat} (hl : ys.length = ns.length) (h : ∀ (i : Nat) y, ys[i]? = some y → ∃ m, ns[i]? = some m ∧ y = iV m) : ys = nsV ns := by
  refine List.ext_getElem? fun i => ?_
  cases e : ys[i]? with
  | none =>
    have : ys.length ≤ i := List.getElem?_eq_none_iff.mp e
    rw [List.getElem?_eq_none (by simp; omega)]
  | some y =>
    obtain ⟨m, hm, rfl⟩ := h i y e
    show _ = (ns.map iV)[i]?
    rw [List.getElem?_map, hm]; rfl
section
variable {P : Program} {w : World} {K : PySem.W.Frag} {mg : Str → Option Value} {base : Heap}
theorem sc_size_of : FnScope ["part", "one"] ["part"] (defScope s_size_of) := ⟨rfl, rfl, rfl, by decide +kernel, rfl, by decide +kernel, by decide +kernel⟩
def spSize (d : Nat) : Sp := fun vs H Q _ => ∃ (v : V) (p : Part), vs = [v] ∧ okD d p ∧ d ≤ 60 ∧ PartAt H v p ∧ ∀ H', Sm H H' → Q (iV p.sz) H'
theorem cal_size_of' (hd : Hd K mg) : ∀ d, C8.Cal P w K mg base (d + 1) "size_of" (spSize d) [] := by
  intro d
  induction d with
  | zero =>
    obtain ⟨fd, F⟩ := hd.d_size_of
    exact mk_cal F hd.g_size_of (F.bindsN fun _ _ _ _ _ _ us hl => match us, hl with | [_], _ => rfl) sc_size_of (fun vs H Q E h => by obtain ⟨_, _, _, h, _⟩ := h; exact h.elim) (fun cdv A outer s H vs Q E hr h => by obtain ⟨_, _, _, h, _⟩ := h; exact h.elim)
  | succ d ih_size_of =>
    obtain ⟨fd, F⟩ := hd.d_size_of
    refine mk_cal F hd.g_size_of (F.bindsN fun _ _ _ _ _ _ us hl => match us, hl with | [_], _ => rfl) sc_size_of (fun vs H Q E h => ?_) (fun cdv A outer s H vs Q E hr h => ?_)
    · obtain ⟨_, _, rfl, _⟩ := h; rfl
    · obtain ⟨v, p, rfl, ok, hdl, hp, k⟩ := h
      refine ⟨_, (pss_one (ps_ret (pe_ifExp (pt_cmpR (op_eqD hr.units) (pv 0) pe_int (nomark _)) pe_int (pe_callB (cr_sum rfl) (by rfl) hd.f_sum (by decide +kernel) (pa_cons (pe_lc (own := [("one", 1)]) (g := (gName 1)) (tt := tYes) (te := (tCall _ _ C8.E0 (tCons (tVar 1) tNil))) rfl sc_size_of.nd (pi_tup (pe_slice sl_tup (pv 0) (po_some pe_int) po_none)) (blkOk_by (N := ["part", "one"]) (sc := defScope s_size_of) (by decide +kernel)) (fun _ _ _ _ _ => (pg_name (i := 1) sc_size_of.nd rfl (Or.inl rfl))) (fun _ _ _ _ _ => pts_nil) (fun _ _ _ _ _ => (C8.pe_c ih_size_of hr (by first | decide | omega) rfl (pa_cons (pv 1) pa_nil)))) pa_nil))))), ?_⟩
      refine ⟨_, rfl, p.dat, .int 1, hp.dp, .int 1, dat_shaped ok (by omega), rfl, _, rfl, ?_⟩
      cases p with
      | one => exact ifT rfl (k H .refl)
      | sums ps =>
        refine ifF rfl ?_
        rw [PartAt] at hp
        obtain ⟨a, vs, rfl, ha, hps⟩ := hp
        have hlen := hps.len
        refine ⟨_, rfl, _, rfl, a, _, rfl, .of ha, cut_tail_ne _ _, fun q nq => upd_new nq fun H1 s1 q1 => ?_⟩
        rw [cut_tail] at q1
        refine ⟨q, rfl, ⟨_, .of q1⟩, lc_all walk_tup (M := No) (fun i y H' => ∃ m, (ps.map Part.sz)[i]? = some m ∧ y = iV m) ?_ (fun _ z => z.elim) (fun H' f' => .of (Sm.at f' q1)) (fun i y N H H' h f => h) ?_ ?_⟩
        · have := ok.2.1
          rw [hlen, sizeLine_eq]; omega
        · rintro j y Hc Hd' Qy hj fc ⟨rfl, hy⟩ kq
          obtain ⟨p, hpj, hpa⟩ := hps.get hy
          refine ⟨rfl, _, rfl, y, p, rfl, ok.2.2 p (List.mem_of_getElem? hpj), by omega, (hpa.fm s1).fm fc, fun H' s' => kq _ _ s' ⟨p.sz, by rw [List.getElem?_map, hpj]; rfl, rfl⟩⟩
        · rintro D zs Hq nD fe hD hz hh
          have e := ext_nsV (ns := ps.map Part.sz) (by rw [hz, hlen, List.length_map]) hh
          rw [e] at hD
          refine ⟨D, _, rfl, .of (asI hD), ?_⟩
          rw [sum_cast, ← szs_eq]
          exact k _ (s1.trans fe)
theorem sc_has_net : FnScope ["part", "one"] ["part"] (defScope s_has_net) := ⟨rfl, rfl, rfl, by decide +kernel, rfl, by decide +kernel, by decide +kernel⟩
def spNet (d : Nat) : Sp := fun vs H Q _ => ∃ (v : V) (p : Part), vs = [v] ∧ okD d p ∧ d ≤ 60 ∧ PartAt H v p ∧ ∀ H', Sm H H' → Q (.bl false) H'
theorem cal_has_net' (hd : Hd K mg) : ∀ d, C8.Cal P w K mg base (d + 1) "has_net" (spNet d) [] := by
  intro d
  induction d with
  | zero =>
    obtain ⟨fd, F⟩ := hd.d_has_net
    exact mk_cal F hd.g_has_net (F.bindsN fun _ _ _ _ _ _ us hl => match us, hl with | [_], _ => rfl) sc_has_net (fun vs H Q E h => by obtain ⟨_, _, _, h, _⟩ := h; exact h.elim) (fun cdv A outer s H vs Q E hr h => by obtain ⟨_, _, _, h, _⟩ := h; exact h.elim)
  | succ d ih_has_net =>
    obtain ⟨fd, F⟩ := hd.d_has_net
    refine mk_cal F hd.g_has_net (F.bindsN fun _ _ _ _ _ _ us hl => match us, hl with | [_], _ => rfl) sc_has_net (fun vs H Q E h => ?_) (fun cdv A outer s H vs Q E hr h => ?_)
    · obtain ⟨_, _, rfl, _⟩ := h; rfl
    · obtain ⟨v, p, rfl, ok, hdl, hp, k⟩ := h
      refine ⟨_, (pss_one (ps_ret (pe_and (pe_cmpR (op_neD hr.units) (pv 0) pe_int (nomark _)) (pe_one (pe_or (pe_cmpR op_eq (pe_ix ix_tup (pv 0) pe_int (fun _ _ => rfl)) pe_str (nomark _)) (pe_one (pe_callB (cr_any rfl) (by rfl) hd.f_any (by decide +kernel) (pa_cons (pe_lc (own := [("one", 1)]) (g := (gName 1)) (tt := tYes) (te := (tCall _ _ C8.E0 (tCons (tVar 1) tNil))) rfl sc_has_net.nd (pi_tup (pe_slice sl_tup (pv 0) (po_some pe_int) po_none)) (blkOk_by (N := ["part", "one"]) (sc := defScope s_has_net) (by decide +kernel)) (fun _ _ _ _ _ => (pg_name (i := 1) sc_has_net.nd rfl (Or.inl rfl))) (fun _ _ _ _ _ => pts_nil) (fun _ _ _ _ _ => (C8.pe_c ih_has_net hr (by first | decide | omega) rfl (pa_cons (pv 1) pa_nil)))) pa_nil)))))))), ?_⟩
      refine ⟨_, rfl, p.dat, .int 1, hp.dp, .int 1, dat_shaped ok (by omega), rfl, _, rfl, ?_⟩
      cases p with
      | one => exact ifF rfl (k H .refl)
      | sums ps =>
        refine ifT rfl ?_
        rw [PartAt] at hp
        obtain ⟨a, vs, rfl, ha, hps⟩ := hp
        have hlen := hps.len
        refine ⟨_, rfl, a, _, _, _, rfl, rfl, .of ha, atI_nat (j := 0) rfl, rfl, _, rfl, ifF (by decide +kernel) ?_⟩
        refine ⟨_, rfl, _, rfl, a, _, rfl, .of ha, cut_tail_ne _ _, fun q nq => upd_new nq fun H1 s1 q1 => ?_⟩
        rw [cut_tail] at q1
        refine ⟨q, rfl, ⟨_, .of q1⟩, lc_all walk_tup (M := No) (fun i y H' => y = .bl false) ?_ (fun _ z => z.elim) (fun H' f' => .of (Sm.at f' q1)) (fun i y N H H' h f => h) ?_ ?_⟩
        · have := ok.2.1
          rw [hlen, sizeLine_eq]; omega
        · rintro j y Hc Hd' Qy hj fc ⟨rfl, hy⟩ kq
          obtain ⟨p, hpj, hpa⟩ := hps.get hy
          refine ⟨rfl, _, rfl, y, p, rfl, ok.2.2 p (List.mem_of_getElem? hpj), by omega, (hpa.fm s1).fm fc, fun H' s' => kq _ _ s' rfl⟩
        · rintro D zs Hq nD fe hD hz hh
          have e : zs = (List.replicate vs.length false).map V.bl := by
            refine List.ext_getElem? fun i => ?_
            cases e : zs[i]? with
            | none => 
              have := List.getElem?_eq_none_iff.mp e
              rw [List.getElem?_eq_none (by simp; omega)]
            | some y =>
              have h1 := (List.getElem?_eq_some_iff.mp e).1
              rw [hh i y e, List.getElem?_map, List.getElem?_replicate, if_pos (by omega)]; rfl
          rw [e] at hD
          refine ⟨D, _, rfl, .of hD, ?_⟩
          rw [show (List.replicate vs.length false).any id = false by simp]
          exact k _ (s1.trans fe)
theorem sc_ones_in : FnScope ["thing", "words", "deep", "sizes", "word", "parts", "part"] ["thing", "words", "deep"] (defScope s_ones_in) := ⟨rfl, rfl, rfl, by decide +kernel, rfl, by decide +kernel, by decide +kernel⟩
theorem sc_ones_in_part : FnScope ["thing", "deep"] ["thing", "deep"] (defScope s_ones_in_part) := ⟨rfl, rfl, rfl, by decide +kernel, rfl, by decide +kernel, by decide +kernel⟩
def spOnes (d : Nat) : Sp := fun vs H Q _ => ∃ (v : V) (ps : List Part) (n : Nat), vs = [v, .ref (He.ga K "PART_WORDS"), iV n] ∧ okD d (.sums ps) ∧ d ≤ n ∧ n ≤ 60 ∧ PartAt H v (.sums ps) ∧ ∀ H', Sm H H' → Q (iV (Part.sums ps).sz) H'
def spOnesP (d : Nat) : Sp := fun vs H Q _ => ∃ (v : V) (p : Part) (n : Nat), vs = [v, iV n] ∧ okD d p ∧ d ≤ n ∧ n ≤ 60 ∧ PartAt H v p ∧ ∀ H', Sm H H' → Q (iV p.sz) H'
theorem cal_ones_part_of (hd : Hd K mg) (d : Nat) (ih_ones_in : C8.Cal P w K mg base (2 * d + 1) "ones_in" (spOnes (K := K) d) []) : C8.Cal P w K mg base (2 * d + 2) "ones_in_part" (spOnesP d) [] := by
  obtain ⟨fd, F⟩ := hd.d_ones_in_part
  refine mk_cal F hd.g_ones_in_part (F.bindsN fun _ _ _ _ _ _ us hl => match us, hl with | [_, _], _ => rfl) sc_ones_in_part (fun vs H Q E h => ?_) (fun cdv A outer s H vs Q E hr h => ?_)
  · obtain ⟨_, _, _, rfl, _⟩ := h; rfl
  · obtain ⟨v, p, n, rfl, ok, hdn, hn, hp, k⟩ := h
    refine ⟨_, (pss_cons (ps_if (pt_val (C8.pe_c (cal_is_whole hd) hr (by first | decide | omega) rfl (pa_cons (pv 0) pa_nil))) (pss_one (ps_ret (pe_ifExp (pt_cmpR op_eq (pv 0) pe_int (nomark _)) pe_int pe_int))) pss_nil)
    (pss_one (ps_ret (C8.pe_c ih_ones_in hr (by first | decide | omega) rfl (pa_cons (pv 0) (pa_cons (C8.pe_gc (v := .ref (He.ga K "PART_WORDS")) rfl ⟨_, hd.g_PART_WORDS, rfl⟩) (pa_cons (pv 1) pa_nil))))))), ?_⟩
    cases p with
    | one =>
      rw [PartAt] at hp
      subst hp
      refine ⟨_, rfl, _, rfl, .inl ⟨_, rfl, ?_⟩⟩
      exact ⟨_, rfl, ifT rfl ⟨_, rfl, rfl, _, rfl, ifT rfl (k H .refl)⟩⟩
    | sums ps =>
      have hp' := hp
      rw [PartAt] at hp
      obtain ⟨a, vs, rfl, ha, hps⟩ := hp
      refine ⟨_, rfl, _, rfl, .inr ⟨a, _, rfl, ha, ?_⟩⟩
      exact ⟨_, rfl, ifF rfl ⟨_, rfl, _, rfl, _, ps, n, rfl, ok, hdn, hn, hp', k⟩⟩
theorem cal_ones_in' (hd : Hd K mg) : ∀ d, C8.Cal P w K mg base (2 * d + 1) "ones_in" (spOnes (K := K) d) [] := by
  intro d
  induction d with
  | zero =>
    obtain ⟨fd, F⟩ := hd.d_ones_in
    exact mk_cal F hd.g_ones_in (F.bindsN fun _ _ _ _ _ _ us hl => match us, hl with | [_, _, _], _ => rfl) sc_ones_in (fun vs H Q E h => by obtain ⟨_, _, _, _, h, _⟩ := h; exact h.elim) (fun cdv A outer s H vs Q E hr h => by obtain ⟨_, _, _, _, h, _⟩ := h; exact h.elim)
  | succ d ih =>
    have ih_ones_in_part := cal_ones_part_of hd d ih
    obtain ⟨fd, F⟩ := hd.d_ones_in
    refine mk_cal F hd.g_ones_in (F.bindsN fun _ _ _ _ _ _ us hl => match us, hl with | [_, _, _], _ => rfl) sc_ones_in (fun vs H Q E h => ?_) (fun cdv A outer s H vs Q E hr h => ?_)
    · obtain ⟨_, _, _, rfl, _⟩ := h; rfl
    · obtain ⟨v, ps, n, rfl, ok, hdn, hn, hp, k⟩ := h
      refine ⟨_, (pss_cons (ps_if (PW.pt (pw_or (pt_not (pt_val (pe_callB call_isi (by rfl) hd.f_isinstance (by decide +kernel) (pa_cons (pv 0) (pa_cons (pe_bltn (v := .ty "tuple") rfl hd.f_tuple (by decide +kernel) rfl) pa_nil))))) (pw_or (pt_cmpR (op_eqD hr.units) (pv 0) (pe_tup pa_nil) (nomark _)) (pw_or1 (pt_cmpR op_eq (pv 2) pe_int (nomark _)))))) (pss_one (ps_ret pe_int)) pss_nil)
    (pss_cons (ps_asg (pv 0) (pg_star rfl (pg_name (i := 4) sc_ones_in.nd rfl (Or.inl rfl)) (pg_name (i := 5) sc_ones_in.nd rfl (Or.inl rfl))))
    (pss_cons (ps_if (PW.pt (pw_or (pt_cmpR op_notIn_seq (pv 4) (pv 1) rfl) (pw_or (pt_cmpR (op_eqD hr.units) (pv 5) (pe_lst pa_nil) (nomark _)) (pw_or1 (PW.pt (pw_and (pt_cmpR op_eq (pv 4) pe_str (nomark _)) (pw_and1 (pt_cmpR op_ne (pe_callB call_len_seq (by rfl) hd.f_len PySem.boot_len (pa_cons (pv 5) pa_nil)) pe_int (nomark _))))))))) (pss_one (ps_ret pe_int)) pss_nil)
    (pss_cons (ps_setLc (i := 3) (own := [("part", 6)]) (g := (gName 6)) (tt := tYes) (te := (tCall _ _ C8.E0 (tCons (tVar 6) (tCons (tOp (rI0 fun i j => V.int (i - j)) (tVar 2) (tC (V.int 1))) tNil)))) rfl sc_ones_in.nd rfl rfl (sw_true rfl rfl rfl (by decide +kernel)) (pi_list (pv 5)) (blkOk_by (N := ["thing", "words", "deep", "sizes", "word", "parts", "part"]) (sc := defScope s_ones_in) (by decide +kernel)) (fun _ _ _ _ _ => (pg_name (i := 6) sc_ones_in.nd rfl (Or.inl rfl))) (fun _ _ _ _ _ => pts_nil) (fun _ _ _ _ _ => (C8.pe_c ih_ones_in_part hr (by first | decide | omega) rfl (pa_cons (pv 6) (pa_cons (pe_op op_sub (pv 2) pe_int) pa_nil)))))
    (pss_one (ps_ret (pe_ifExp (pt_cmpR op_in_seq pe_int (pv 3) rfl) pe_int (pe_callB (cr_sum rfl) (by rfl) hd.f_sum (by decide +kernel) (pa_cons (pv 3) pa_nil))))))))), ?_⟩
      have hdp := hp.dp (K := K)
      rw [PartAt] at hp
      obtain ⟨a, vs, rfl, ha, hps⟩ := hp
      have hlen := hps.len
      refine ⟨_, rfl, _, _, _, _, _, rfl, .ty _, .base (.tup ha), kit_ty (r := true) (by decide +kernel), _, rfl, ifF rfl ?_⟩
      refine ⟨_, rfl, szN, fun p1 n1 => upd_new n1 fun H1 s1 q1 => ?_⟩
      refine ⟨(Part.sums ps).dat, .tuple [], ?_, .tup (.of q1) .nil, dat_shaped ok (by omega), rfl, _, rfl, ifF rfl ?_⟩
      · exact PartAt.dp (p := .sums ps) (by rw [PartAt]; exact ⟨a, vs, rfl, s1.at ha, hps.fm s1⟩)
      refine ⟨_, rfl, rfl, _, rfl, ifF (decide_eq_false (fun z => by cases n with | zero => omega | succ n => cases z)) ?_⟩
      refine ⟨_, rfl, a, _, _, rfl, .of (s1.at ha), fun p2 n2 => upd_new n2 fun H2 s2 q2 => ?_⟩
      have f2 := s1.trans s2
      refine ⟨_, rfl, _, rfl, _, _, rfl, .inr (hd.words _), rfl, rfl, _, rfl, ifF (by decide +kernel) ?_⟩
      refine ⟨_, rfl, szN, fun p3 n3 => upd_new n3 fun H3 s3 q3 => ?_⟩
      have f3 := f2.trans s3
      have dall : ∀ {e : Nat}, okD (e + 1) (.sums ps) → PyData.depthAll (Part.dats ps) ≤ e := fun h => dats_depth fun p hp => dat_depth (h.2.2 p hp)
      refine ⟨.list (Part.dats ps), .list [], .lst (.of (s3.at q2)) (hps.fm f3).dp, .lst (.of q3) .nil, shaped_list (dats_lay ps) (Nat.le_trans (dall ok) (by omega)), rfl, _, rfl, ifF ?_ ?_⟩
      · cases ps with
        | nil => exact absurd rfl ok.1
        | cons p ps => rfl
      refine ⟨_, rfl, rfl, _, rfl, ifF (by decide +kernel) ?_⟩
      refine ⟨_, rfl, p2, rfl, ⟨_, .of (s3.at q2)⟩, lc_all walk_list (M := No) (fun i y H' => ∃ m, (ps.map Part.sz)[i]? = some m ∧ y = iV m) ?_ (fun _ z => z.elim) (fun H' f' => .of (Sm.at f' (s3.at q2))) (fun i y N H H' h f => h) ?_ ?_⟩
      · have := ok.2.1
        rw [hlen, sizeLine_eq]; omega
      · rintro j y Hc Hd' Qy hj fc ⟨rfl, hy⟩ kq
        obtain ⟨p, hpj, hpa⟩ := hps.get hy
        refine ⟨rfl, _, rfl, _, rfl, _, _, rfl, rfl, y, p, n - 1, ?_, ok.2.2 p (List.mem_of_getElem? hpj), by omega, by omega, (hpa.fm f3).fm fc, fun H' s' => kq _ _ s' ⟨p.sz, by rw [List.getElem?_map, hpj]; rfl, rfl⟩⟩
        show [y, V.int ((n : Int) - 1)] = [y, V.int ((n - 1 : Nat) : Int)]
        rw [show ((n - 1 : Nat) : Int) = (n : Int) - 1 by omega]
      · rintro D zs Hq nD fe hD hz hh
        have e := ext_nsV (ns := ps.map Part.sz) (by rw [hz, hlen, List.length_map]) hh
        rw [e] at hD
        refine ⟨_, rfl, D, _, rfl, .inl (.of hD), rfl, ?_, _, rfl, ifF ?_ ?_⟩
        · exact List.all_eq_true.mpr fun x hx => by obtain ⟨m, _, rfl⟩ := List.mem_map.mp hx; rfl
        · show inV (.int 0) (nsV (ps.map Part.sz)) = false
          refine List.any_eq_false.mpr fun x hx => ?_
          obtain ⟨m, hm, rfl⟩ := List.mem_map.mp hx
          obtain ⟨p, hp, rfl⟩ := List.mem_map.mp hm
          have := (ok.2.2 p hp).pos
          show ¬ ((iV p.sz |> fun _ => ((p.sz : Int) == 0)) = true)
          simp; omega
        refine ⟨_, rfl, D, _, rfl, .of (asI hD), ?_⟩
        rw [sum_cast, ← szs_eq]
        exact k _ (f3.trans fe)
theorem cal_ones_in_part' (hd : Hd K mg) (d : Nat) : C8.Cal P w K mg base (2 * d + 2) "ones_in_part" (spOnesP d) [] := cal_ones_part_of hd d (cal_ones_in' hd d)
/-- how deep a part is here -/
abbrev DP : Nat := 12
theorem sc_is_part : FnScope ["thing"] ["thing"] (defScope s_is_part) := ⟨rfl, rfl, rfl, by decide +kernel, rfl, by decide +kernel, by decide +kernel⟩
def spIsPart : Sp := fun vs H Q _ => ∃ (v : V) (p : Part), vs = [v] ∧ okD DP p ∧ p.sz ≤ 60 ∧ PartAt H v p ∧ ∀ H', Sm H H' → Q (.bl true) H'
theorem cal_ones_in_part (hd : Hd K mg) : C8.Cal P w K mg base 26 "ones_in_part" (spOnesP DP) [] := cal_ones_in_part' hd DP
theorem cal_size_of (hd : Hd K mg) : C8.Cal P w K mg base 13 "size_of" (spSize DP) [] := cal_size_of' hd DP
theorem cal_has_net (hd : Hd K mg) : C8.Cal P w K mg base 13 "has_net" (spNet DP) [] := cal_has_net' hd DP
theorem cal_is_part (hd : Hd K mg) : C8.Cal P w K mg base 27 "is_part" spIsPart [] := by
  obtain ⟨fd, F⟩ := hd.d_is_part
  refine mk_cal F hd.g_is_part (F.bindsN fun _ _ _ _ _ _ us hl => match us, hl with | [_], _ => rfl) sc_is_part (fun vs H Q E h => ?_) (fun cdv A outer s H vs Q E hr h => ?_)
  · obtain ⟨_, _, rfl, _⟩ := h; rfl
  · obtain ⟨v, p, rfl, ok, hsz, hp, k⟩ := h
    have ih_ones_in_part := cal_ones_in_part (P := P) (w := w) (base := base) hd
    refine ⟨_, (pss_one (ps_ret (pe_chain op_le op_le pe_int (C8.pe_c ih_ones_in_part hr (by first | decide | omega) rfl (pa_cons (pv 0) (pa_cons (C8.pe_gc rfl hd.i_MOST_DEEP) pa_nil))) (C8.pe_gc rfl hd.i_MOST_MARKS)))), ?_⟩
    refine ⟨_, rfl, v, p, 60, rfl, ok, by decide, by decide, hp, fun H1 s1 => ?_⟩
    have := ok.pos
    refine ⟨_, _, rfl, rfl, _, rfl, ifT (decide_eq_true (by omega)) ⟨_, _, rfl, rfl, ?_⟩⟩
    show Q (.bl (decide ((p.sz : Int) ≤ 60))) H1
    rw [decide_eq_true (by omega)]
    exact k H1 s1
theorem sc_check_part : FnScope ["part", "many"] ["part", "many"] (defScope s_check_part) := ⟨rfl, rfl, rfl, by decide +kernel, rfl, by decide +kernel, by decide +kernel⟩
def spCheckPart : Sp := fun vs H Q _ => ∃ (v : V) (p : Part) (n : Nat), vs = [v, iV n] ∧ okD DP p ∧ p.sz ≤ 60 ∧ p.sz = n ∧ PartAt H v p ∧ ∀ H', Sm H H' → Q .non H'
theorem cal_check_part (hd : Hd K mg) : C8.Cal P w K mg base 28 "check_part" spCheckPart [] := by
  obtain ⟨fd, F⟩ := hd.d_check_part
  refine mk_cal F hd.g_check_part (F.bindsN fun _ _ _ _ _ _ us hl => match us, hl with | [_, _], _ => rfl) sc_check_part (fun vs H Q E h => ?_) (fun cdv A outer s H vs Q E hr h => ?_)
  · obtain ⟨_, _, _, rfl, _⟩ := h; rfl
  · obtain ⟨v, p, n, rfl, ok, hsz, rfl, hp, k⟩ := h
    refine ⟨_, PSs.nox (pss_cons (ps_if (PW.pt (pw_or (pt_not (pt_val (C8.pe_c (cal_is_part hd) hr (by first | decide | omega) rfl (pa_cons (pv 0) pa_nil)))) (pw_or1 (pt_cmpR op_ne (C8.pe_c (cal_size_of hd) hr (by first | decide | omega) rfl (pa_cons (pv 0) pa_nil)) (pv 1) (nomark _))))) (pss_one ps_never) pss_nil)
    (pss_one (ps_if (pt_val (C8.pe_c (cal_has_net hd) hr (by first | decide | omega) rfl (pa_cons (pv 0) pa_nil))) (pss_one ps_never) pss_nil))), ?_⟩
    refine ⟨_, rfl, v, p, rfl, ok, hsz, hp, fun H1 s1 => ?_⟩
    refine ⟨_, rfl, ifF rfl ⟨_, rfl, v, p, rfl, ok, by decide, hp.fm s1, fun H2 s2 => ?_⟩⟩
    refine ⟨_, rfl, rfl, _, rfl, ifF (by simp) ?_⟩
    refine ⟨_, rfl, v, p, rfl, ok, by decide, (hp.fm s1).fm s2, fun H3 s3 => ?_⟩
    exact ⟨_, rfl, ifF rfl (k H3 ((s1.trans s2).trans s3))⟩
end
end K59
set_option Elab.async false
set_option linter.all false
set_option maxRecDepth 100000
set_option maxHeartbeats 4000000
namespace K59
open PySem PySem.Spec PyProof.Rows L2
/-! ### knots, in plain Lean -/
inductive Src where
  | mk (m : Int)
  | kn (j : Nat)
structure Kn where
  src : List Src
  size : Nat
/-- the knots so far -/
structure KS where
  n : Nat
  ks : Nat → Kn
def updN {α : Type} (f : Nat → α) (n : Nat) (x : α) : Nat → α := fun i => if i = n then x else f i
theorem updN_same {α : Type} {f : Nat → α} {n : Nat} {x : α} : updN f n x n = x := if_pos rfl
theorem updN_ne {α : Type} {f : Nat → α} {n i : Nat} {x : α} (h : i ≠ n) : updN f n x i = f i := if_neg h
def Src.sz (ks : Nat → Kn) : Src → Nat
  | .mk _ => 1
  | .kn j => (ks j).size
def szsK (ks : Nat → Kn) (k : Kn) : List Nat := k.src.map (Src.sz ks)
def lensK (ks : Nat → Kn) (cap : Nat) (k : Kn) : List Nat := k.src.map fun s => min cap (s.sz ks)
def Src.row (ks : Nat → Kn) (outs : Nat → List Int) (cap : Nat) : Src → List Int
  | .mk m => [m]
  | .kn j => (outs j).take (min cap (ks j).size)
def rowsK (ks : Nat → Kn) (outs : Nat → List Int) (cap : Nat) (k : Kn) : List (List Int) := k.src.map (Src.row ks outs cap)
/-- the mark of a count in a row -/
def mF (rows : List (List Int)) (c : List Nat) (i : Nat) : Option Int := match rows[i]?, c[i]? with
  | some r, some (k + 1) => r[k]?
  | _, _ => none
def mAt (rows : List (List Int)) (c : List Nat) : List Int := (List.range rows.length).filterMap (mF rows c)
/-- the clause of a choice -/
def clK (rows : List (List Int)) (name : Int) (c : List Nat) : List Int := (mAt rows c).map (fun m => 0 - m) ++ [name]
/-- how many outs a knot lacks -/
def lackN (k : Kn) (l : List Int) (cap : Nat) : Nat := min cap k.size - l.length
def newNm (first : Int) (n : Nat) : List Int := (List.range n).map fun (i : Nat) => first + (i : Int)
def newCl (rows : List (List Int)) (lens : List Nat) (a : Nat) (first : Int) : Nat → List (List Int) :=
  cat fun i => (chM lens (a + 1 + i)).map (clK rows (first + (i : Int)))
/-- how many clauses a knot would get -/
def aheadN (ks : Nat → Kn) (k : Kn) (l : List Int) (cap : Nat) : Nat := sm (fun i => ways (lensK ks cap k) (l.length + 1 + i)) (lackN k l cap)
-- the knots of a part
mutual
def Part.gat : Part → List Int → KS → KS × Src
  | .one, ms, g => (g, .mk (ms.headD 0))
  | .sums ps, ms, g =>
    let r := Part.gats ps ms g
    (⟨r.1.n + 1, updN r.1.ks r.1.n ⟨r.2, Part.szs ps⟩⟩, .kn r.1.n)
def Part.gats : List Part → List Int → KS → KS × List Src
  | [], _, g => (g, [])
  | p :: ps, ms, g =>
    let r := p.gat (ms.take p.sz) g
    let q := Part.gats ps (ms.drop p.sz) r.1
    (q.1, r.2 :: q.2)
end
/-! ### knots in the heap -/
def srcV (pa : Nat → Addr × Addr) : Src → V
  | .mk m => .int m
  | .kn j => .ref (pa j).1
/-- an object of a knot: (object, sources' list, size, outs' list) -/
abbrev ObT := HO → Addr → Nat → Addr → Prop
structure KnAt (Ob : ObT) (tg : Nat → Nat) (φ : Addr → Nat) (H : Hp) (pa : Nat → Addr × Addr) (i : Nat) (k : Kn) (l : List Int) : Prop where
  ex : ∃ h s, H (pa i).1 = some h ∧ Ob h s k.size (pa i).2 ∧ H s = some (.lst (k.src.map (srcV pa))) ∧ φ s = 0
  st : φ (pa i).1 = 0
  outs : H (pa i).2 = some (.lst (isV l))
  tag : φ (pa i).2 = tg i
/-- sources come first -/
def Low (ks : Nat → Kn) (n : Nat) : Prop := ∀ i, i < n → ∀ j, Src.kn j ∈ (ks i).src → j < i
def KsAt (Ob : ObT) (tg : Nat → Nat) (φ : Addr → Nat) (H : Hp) (pa : Nat → Addr × Addr) (n : Nat) (ks : Nat → Kn) (outs : Nat → List Int) : Prop := ∀ i, i < n → KnAt Ob tg φ H pa i (ks i) (outs i)
section
variable {Ob : ObT} {tg : Nat → Nat} {φ φ' : Addr → Nat} {H H' : Hp} {pa pa' : Nat → Addr × Addr} {n i : Nat} {k : Kn} {l : List Int} {ks ks' : Nat → Kn} {outs outs' : Nat → List Int} {M : Addr → Prop}
theorem srcV_eq (h : ∀ j, .kn j ∈ k.src → pa' j = pa j) : k.src.map (srcV pa') = k.src.map (srcV pa) := by
  refine List.map_congr_left fun s hs => ?_
  cases s with
  | mk m => rfl
  | kn j => show V.ref (pa' j).1 = V.ref (pa j).1; rw [h j hs]
/-- a knot in a later heap -/
theorem KnAt.mv (a : KnAt Ob tg φ H pa i k l) (f : Fm M H H') (hM : ∀ b, M b → φ b ≠ 0 ∧ φ b ≠ tg i) (hφ : ∀ b, H b ≠ none → φ' b = φ b) (hi : pa' i = pa i) (hj : ∀ j, .kn j ∈ k.src → pa' j = pa j) : KnAt Ob tg φ' H' pa' i k l := by
  obtain ⟨⟨h, s, h1, h2, h3, h4⟩, h5, h6, h7⟩ := a
  refine ⟨⟨h, s, ?_, ?_, ?_, ?_⟩, ?_, ?_, ?_⟩
  · rw [hi]; exact f.at h1 fun m => (hM _ m).1 h5
  · rw [hi]; exact h2
  · rw [srcV_eq hj]; exact f.at h3 fun m => (hM _ m).1 h4
  · rw [hφ _ (live_of h3)]; exact h4
  · rw [hi, hφ _ (live_of h1)]; exact h5
  · rw [hi]; exact f.at h6 fun m => (hM _ m).2 h7
  · rw [hi, hφ _ (live_of h6)]; exact h7
/-- another tag for what is no knot's -/
theorem KnAt.retag (a : KnAt Ob tg φ H pa i k l) (h : ∀ b, φ b = 0 ∨ φ b = tg i → φ' b = φ b) : KnAt Ob tg φ' H pa i k l := by
  obtain ⟨⟨o, s, h1, h2, h3, h4⟩, h5, h6, h7⟩ := a
  exact ⟨⟨o, s, h1, h2, h3, by rw [h _ (.inl h4)]; exact h4⟩, by rw [h _ (.inl h5)]; exact h5, h6, by rw [h _ (.inr h7)]; exact h7⟩
/-- the same φ, the same addresses -/
theorem KnAt.fm (a : KnAt Ob tg φ H pa i k l) (f : Fm M H H') (hM : ∀ b, M b → φ b ≠ 0 ∧ φ b ≠ tg i) : KnAt Ob tg φ H' pa i k l := a.mv f hM (fun _ _ => rfl) rfl fun _ _ => rfl
theorem KsAt.fm (a : KsAt Ob tg φ H pa n ks outs) (f : Fm M H H') (hM : ∀ b, M b → φ b ≠ 0 ∧ ∀ i, i < n → φ b ≠ tg i) : KsAt Ob tg φ H' pa n ks outs := fun i hi => (a i hi).fm f fun b m => ⟨(hM b m).1, (hM b m).2 i hi⟩
theorem KsAt.sm (a : KsAt Ob tg φ H pa n ks outs) (f : Sm H H') : KsAt Ob tg φ H' pa n ks outs := a.fm f fun _ m => m.elim
theorem KsAt.mv (a : KsAt Ob tg φ H pa n ks outs) (lo : Low ks n) (f : Fm M H H') (hM : ∀ b, M b → φ b ≠ 0 ∧ ∀ i, i < n → φ b ≠ tg i) (hφ : ∀ b, H b ≠ none → φ' b = φ b) (hp : ∀ i, i < n → pa' i = pa i) (hk : ∀ i, i < n → ks' i = ks i) (ho : ∀ i, i < n → outs' i = outs i) : KsAt Ob tg φ' H' pa' n ks' outs' := by
  intro i hi
  rw [hk i hi, ho i hi]
  exact (a i hi).mv f (fun b m => ⟨(hM b m).1, (hM b m).2 i hi⟩) hφ (hp i hi) fun j hj => hp j (Nat.lt_trans (lo i hi j hj) hi)
end
end K59
set_option Elab.async false
set_option linter.all false
set_option maxRecDepth 100000
set_option maxHeartbeats 4000000
namespace K59
open PySem PySem.Spec PyProof.Rows L2
theorem cut_nat (xs : List V) (a b : Nat) : cutV xs (some (a : Int)) (some (b : Int)) = (xs.drop a).take (b - a) := by
  unfold cutV
  rw [HT.sIx_nat, HT.sIx_nat]
  refine List.ext_getElem? fun i => ?_
  rw [List.getElem?_take, List.getElem?_take, List.getElem?_drop, List.getElem?_drop]
  by_cases c : i < b - a
  · rw [if_pos c]
    by_cases d : a + i < xs.length
    · rw [if_pos (by omega), show min a xs.length + i = a + i by omega]
    · rw [List.getElem?_eq_none (i := a + i) (by omega)]
      by_cases e : i < min b xs.length - min a xs.length
      · omega
      · rw [if_neg e]
  · rw [if_neg c, if_neg (by omega)]
theorem cut_take (xs : List V) (b : Nat) : cutV xs none (some (b : Int)) = xs.take b := by
  have h := cut_nat xs 0 b
  rw [List.drop_zero] at h
  exact h
theorem min_nat (a b : Nat) : (if (b : Int) < (a : Int) then (b : Int) else (a : Int)) = ((min a b : Nat) : Int) := by split <;> omega
theorem isV_take (l : List Int) (n : Nat) : (isV l).take n = isV (l.take n) := by simp [List.map_take]
section
variable {P : Program} {w : World} {K : PySem.W.Frag} {mg : Str → Option Value} {base : Heap}
theorem sc_marks_at : FnScope ["rows", "counts", "row", "count"] ["rows", "counts"] (defScope s_marks_at) := ⟨rfl, rfl, rfl, by decide +kernel, rfl, by decide +kernel, by decide +kernel⟩
def spMarksAt : Sp := fun vs H Q _ => ∃ (a b : Addr) (rv : List V) (rows : List (List Int)) (c : List Nat), vs = [.ref a, .ref b] ∧ H a = some (.lst rv) ∧ Rel (TI H) rv rows ∧ H b = some (.tup (nsV c)) ∧ c.length = rows.length ∧ rows.length ≤ 1000 ∧
  (∀ (i : Nat) r k, rows[i]? = some r → c[i]? = some (k + 1) → k < r.length) ∧ ∀ p H', Sm H H' → H' p = some (.tup (isV (mAt rows c))) → Q (.ref p) H'
theorem cal_marks_at (hd : Hd K mg) : C8.Cal P w K mg base 1 "marks_at" spMarksAt [] := by
  obtain ⟨fd, F⟩ := hd.d_marks_at
  refine mk_cal F hd.g_marks_at (F.bindsN fun _ _ _ _ _ _ us hl => match us, hl with | [_, _], _ => rfl) sc_marks_at (fun vs H Q E h => ?_) (fun cdv A outer s H vs Q E hr h => ?_)
  · obtain ⟨_, _, _, _, _, rfl, _⟩ := h; rfl
  · obtain ⟨a, b, rv, rows, c, rfl, ha, hrv, hb, hcl, hrl, hlt, k⟩ := h
    refine ⟨_, (pss_one (ps_ret (pe_callTy call_tuple_of (by rfl) hd.f_tuple (by decide +kernel) (pa_cons (pe_lc (own := [("row", 2), ("count", 3)]) (g := (gTup K 2 (gCons (gName 2) (gCons (gName 3) gNil)))) (tt := (tTest (tOp (rI0 fun i j => V.bl (decide (j < i))) (tVar 3) (tC (V.int 0))))) (te := (tOp (rIxT K) (tVar 2) (tOp (rI0 fun i j => V.int (i - j)) (tVar 3) (tC (V.int 1))))) rfl sc_marks_at.nd (pi_zipM rfl hd.f_zip (pa_cons (pv 0) (pa_cons (pv 1) pa_nil))) (blkOk_by (N := ["rows", "counts", "row", "count"]) (sc := defScope s_marks_at) (by decide +kernel)) (fun _ _ _ _ _ => (pg_tup rfl (pgs_cons (pg_name (i := 2) sc_marks_at.nd rfl (Or.inl rfl)) (pgs_cons (pg_name (i := 3) sc_marks_at.nd rfl (Or.inl rfl)) pgs_nil)))) (fun _ _ _ _ _ => (pts_one (pt_cmpR op_gt (pv 3) pe_int (nomark _)))) (fun _ _ _ _ _ => (pe_ix ix_tup (pv 2) (pe_op op_sub (pv 3) pe_int) (fun _ _ => rfl)))) pa_nil)))), ?_⟩
    have hlen : rows.length = min rv.length (nsV c).length := by rw [hrv.1, List.length_map, hcl]; simp
    refine ⟨_, rfl, _, rfl, a, b, rv, nsV c, rfl, .of ha, .of hb, lc_fil (walk_zipM hlen) (M := No) (fun H v (m : Int) => v = .int m) (mF rows c) (by rw [sizeLine_eq]; omega) (fun _ z => z.elim) (fun H' f' => ⟨.of (Sm.at f' ha), .of (Sm.at f' hb)⟩) (fun _ _ _ _ _ h _ => h) ?_ ?_⟩
    · rintro i x H1 H2 Qy Qn hi f1 ⟨T, x0, x1, rfl, nT, rfl, e0, e1⟩ ky kn
      obtain ⟨r, hr', a0, rfl, h0⟩ := hrv.get e0
      obtain ⟨m, hm, rfl⟩ := nsV_get e1
      refine upd_new nT fun H3 s3 q3 => ?_
      refine ⟨T, _, rfl, .of q3, rfl, _, _, rfl, _, _, rfl, rfl, rfl, _, rfl, _, _, rfl, rfl, _, rfl, ite2 (fun c => ?pos) (fun c => ?neg)⟩
      case' neg =>
        refine kn _ ?_ s3
        have hm0 : m = 0 := by
          cases m with
          | zero => rfl
          | succ m => exact absurd (decide_eq_true (by omega)) c
        unfold mF
        rw [hr', hm, hm0]
      case' pos =>
        have hm0 : 0 < m := by have := of_decide_eq_true c; omega
        obtain ⟨m', rfl⟩ : ∃ m', m = m' + 1 := ⟨m - 1, by omega⟩
        have hk := hlt i r m' hr' hm
        refine ⟨_, rfl, _, rfl, _, _, rfl, rfl, a0, _, _, V.int r[m'], rfl, rfl, .of (s3.at (Sm.at f1 h0)), ?_, ?_⟩
        · refine at_of (j := m') (by omega) ?_
          rw [List.getElem?_map, List.getElem?_eq_getElem hk]; rfl
        · refine ky _ (r[m']) _ ?_ s3 rfl
          unfold mF
          rw [hr', hm]
          exact List.getElem?_eq_getElem hk
    · rintro D zs Hq nD fe hD hz
      have e : zs = isV (mAt rows c) := hz.eq_map (g := V.int)
      subst e
      exact ⟨D, _, rfl, .inl ⟨.of hD, fun p np => upd_new np fun H4 s4 q4 => k p H4 (Fm.trans fe s4) q4⟩⟩
/-! ### Growing -/
abbrev tgP (i : Nat) : Nat := 10 + 2 * i
abbrev tgM (i : Nat) : Nat := 11 + 2 * i
def GOb (K : PySem.W.Frag) : ObT := fun h s size o => ∃ dx, h = .ins (He.ga K "Growing") dx [("sources", .ref s), ("size", iV size), ("outs", .ref o)]
abbrev PKs (K : PySem.W.Frag) := KsAt (GOb K) tgP
abbrev PKn (K : PySem.W.Frag) := KnAt (GOb K) tgP
/-- a source that stands -/
def SrcOk (n : Nat) (s : Src) : Prop := ∀ j, s = .kn j → j < n
theorem sc_size_under : FnScope ["source"] ["source"] (defScope s_size_under) := ⟨rfl, rfl, rfl, by decide +kernel, rfl, by decide +kernel, by decide +kernel⟩
def spSizeU : Sp := fun vs H Q _ => ∃ (φ : Addr → Nat) (pa : Nat → Addr × Addr) (ks : Nat → Kn) (outs : Nat → List Int) (s : Src), vs = [srcV pa s] ∧ (∀ j, s = .kn j → PKn K φ H pa j (ks j) (outs j)) ∧ Q (iV (s.sz ks)) H
theorem cal_size_under (hd : Hd K mg) : C8.Cal P w K mg base 1 "size_under" (spSizeU (K := K)) [] := by
  obtain ⟨fd, F⟩ := hd.d_size_under
  refine mk_cal F hd.g_size_under (F.bindsN fun _ _ _ _ _ _ us hl => match us, hl with | [_], _ => rfl) sc_size_under (fun vs H Q E h => ?_) (fun cdv A outer s H vs Q E hr h => ?_)
  · obtain ⟨_, _, _, _, _, rfl, _⟩ := h; rfl
  · obtain ⟨φ, pa, ks, outs, s, rfl, hk, k⟩ := h
    refine ⟨_, (pss_one (ps_ret (pe_ifExp (pt_val (pe_callB call_isi (by rfl) hd.f_isinstance (by decide +kernel) (pa_cons (pv 0) (pa_cons (pe_bltn (v := .ty "int") rfl hd.f_int (by decide +kernel) rfl) pa_nil)))) pe_int (pe_fld (pv 0) rfl)))), ?_⟩
    cases s with
    | mk m => exact ⟨_, rfl, _, _, _, _, _, rfl, .ty _, .base (.int _), kit_ty (r := true) (by decide +kernel), _, rfl, ifT rfl k⟩
    | kn j =>
      obtain ⟨⟨h, sa, h1, ⟨dx, rfl⟩, h3, h4⟩, _, _, _⟩ := hk j rfl
      refine ⟨_, rfl, _, _, _, _, _, rfl, .ty _, (hd.isi_G h1).1, (hd.isi_G h1).2, _, rfl, ifF rfl ?_⟩
      exact ⟨_, rfl, _, _, _, _, _, rfl, h1, hd.c_Growing, hd.n_Growing_size, rfl, k⟩
theorem sc_Growing_row_to : FnScope ["self", "cap"] ["self", "cap"] (defScope s_Growing_row_to) := ⟨rfl, rfl, rfl, by decide +kernel, rfl, by decide +kernel, by decide +kernel⟩
def spRowTo : Sp := fun vs H Q _ => ∃ (φ : Addr → Nat) (pa : Nat → Addr × Addr) (i : Nat) (kn : Kn) (l : List Int) (cap : Nat), vs = [.ref (pa i).1, iV cap] ∧ PKn K φ H pa i kn l ∧
  ∀ p H', Sm H H' → H' p = some (.tup (isV (l.take (min cap kn.size)))) → Q (.ref p) H'
theorem cal_Growing_row_to (hd : Hd K mg) : C8.Met P w K mg base 1 (He.ga K "Growing") "row_to" (spRowTo (K := K)) [] := by
  obtain ⟨fd, F⟩ := hd.d_Growing_row_to
  refine mk_met F hd.c_Growing hd.m_Growing_row_to (F.bindsN fun _ _ _ _ _ _ us hl => match us, hl with | [_, _], _ => rfl) sc_Growing_row_to (fun vs H Q E h => ?_) (fun cdv A outer s H vs Q E hr h => ?_)
  · obtain ⟨_, _, _, _, _, _, rfl, _⟩ := h; rfl
  · obtain ⟨φ, pa, i, kn, l, cap, rfl, ⟨⟨h, sa, h1, ⟨dx, rfl⟩, h3, h4⟩, h5, h6, h7⟩, k⟩ := h
    refine ⟨_, (pss_one (ps_ret (pe_callTy call_tuple_of (by rfl) hd.f_tuple (by decide +kernel) (pa_cons (pe_slice sl_list (pe_fld (pv 0) rfl) po_none (po_some (pe_callB (call_min2 rfl) (by rfl) hd.f_min (by decide +kernel) (pa_cons (pv 1) (pa_cons (pe_fld (pv 0) rfl) pa_nil))))) pa_nil)))), ?_⟩
    refine ⟨_, rfl, _, _, _, _, _, rfl, h1, hd.c_Growing, hd.n_Growing_outs, rfl, ?_⟩
    refine ⟨_, rfl, _, rfl, _, _, _, _, _, rfl, h1, hd.c_Growing, hd.n_Growing_size, rfl, _, _, rfl, _, rfl, _, _, rfl, .of h6, fun q nq => upd_new nq fun H1 s1 q1 => ?_⟩
    rw [min_nat, cut_take, isV_take] at q1
    exact ⟨q, _, rfl, .inl ⟨.of q1, fun p np => upd_new np fun H2 s2 q2 => k p H2 (s1.trans s2) q2⟩⟩
theorem sc_row_of : FnScope ["source", "cap"] ["source", "cap"] (defScope s_row_of) := ⟨rfl, rfl, rfl, by decide +kernel, rfl, by decide +kernel, by decide +kernel⟩
def spRowOf : Sp := fun vs H Q _ => ∃ (φ : Addr → Nat) (pa : Nat → Addr × Addr) (n : Nat) (ks : Nat → Kn) (outs : Nat → List Int) (s : Src) (cap : Nat), vs = [srcV pa s, iV cap] ∧ PKs K φ H pa n ks outs ∧ SrcOk n s ∧
  ∀ v H', Sm H H' → TI H' v (s.row ks outs cap) → Q v H'
theorem cal_row_of (hd : Hd K mg) : C8.Cal P w K mg base 2 "row_of" (spRowOf (K := K)) [] := by
  obtain ⟨fd, F⟩ := hd.d_row_of
  refine mk_cal F hd.g_row_of (F.bindsN fun _ _ _ _ _ _ us hl => match us, hl with | [_, _], _ => rfl) sc_row_of (fun vs H Q E h => ?_) (fun cdv A outer s H vs Q E hr h => ?_)
  · obtain ⟨_, _, _, _, _, _, _, rfl, _⟩ := h; rfl
  · obtain ⟨φ, pa, n, ks, outs, s, cap, rfl, hk, hs, k⟩ := h
    refine ⟨_, (pss_one (ps_ret (pe_ifExp (pt_val (pe_callB call_isi (by rfl) hd.f_isinstance (by decide +kernel) (pa_cons (pv 0) (pa_cons (pe_bltn (v := .ty "int") rfl hd.f_int (by decide +kernel) rfl) pa_nil)))) (pe_tup (pa_cons (pv 0) pa_nil)) (C8.pe_mt (cal_Growing_row_to hd) hr (by first | decide | omega) (pv 0) (pa_cons (pv 1) pa_nil))))), ?_⟩
    cases s with
    | mk m => exact ⟨_, rfl, _, _, _, _, _, rfl, .ty _, .base (.int _), kit_ty (r := true) (by decide +kernel), _, rfl, ifT rfl ⟨_, rfl, szN, fun p np => upd_new np fun H1 s1 q1 => k _ H1 s1 ⟨p, rfl, q1⟩⟩⟩
    | kn j =>
      have hkj := hk j (hs j rfl)
      have hkj' := hkj
      obtain ⟨⟨h, sa, h1, ⟨dx, rfl⟩, h3, h4⟩, _, _, _⟩ := hkj
      refine ⟨_, rfl, _, _, _, _, _, rfl, .ty _, (hd.isi_G h1).1, (hd.isi_G h1).2, _, rfl, ifF rfl ?_⟩
      refine ⟨_, rfl, _, _, _, rfl, h1, rfl, _, rfl, φ, pa, j, ks j, outs j, cap, rfl, hkj', fun p H1 s1 q1 => k _ H1 s1 ⟨p, rfl, q1⟩⟩
/-! ### what knots keep to -/
structure KsOk (n : Nat) (ks : Nat → Kn) : Prop where
  low : Low ks n
  few : ∀ i, i < n → (ks i).src.length ≤ 12
  sum : ∀ i, i < n → (szsK ks (ks i)).sum = (ks i).size
  prod : ∀ i, i < n → prod1 (szsK ks (ks i)) ≤ 64
  le : ∀ i, i < n → (ks i).size ≤ 12
theorem KsOk.src {n : Nat} {ks : Nat → Kn} (o : KsOk n ks) {i : Nat} (hi : i < n) {s : Src} (hs : s ∈ (ks i).src) : SrcOk n s := fun j e => by
  subst e
  exact Nat.lt_trans (o.low i hi j hs) hi
theorem src_get {pa : Nat → Addr × Addr} {l : List Src} {j : Nat} {v : V} (h : (l.map (srcV pa))[j]? = some v) : ∃ s, l[j]? = some s ∧ v = srcV pa s := by
  rw [List.getElem?_map] at h
  obtain ⟨s, e, q⟩ := Option.map_eq_some_iff.mp h
  exact ⟨s, e, q.symm⟩
theorem sc_Growing_lens_to : FnScope ["self", "cap", "source"] ["self", "cap"] (defScope s_Growing_lens_to) := ⟨rfl, rfl, rfl, by decide +kernel, rfl, by decide +kernel, by decide +kernel⟩
def spLensTo : Sp := fun vs H Q _ => ∃ (φ : Addr → Nat) (pa : Nat → Addr × Addr) (n : Nat) (ks : Nat → Kn) (outs : Nat → List Int) (i cap : Nat), vs = [.ref (pa i).1, iV cap] ∧ PKs K φ H pa n ks outs ∧ KsOk n ks ∧ i < n ∧
  ∀ D H', H D = none → Sm H H' → H' D = some (.lst (nsV (lensK ks cap (ks i)))) → Q (.ref D) H'
theorem cal_Growing_lens_to (hd : Hd K mg) : C8.Met P w K mg base 2 (He.ga K "Growing") "lens_to" (spLensTo (K := K)) [] := by
  obtain ⟨fd, F⟩ := hd.d_Growing_lens_to
  refine mk_met F hd.c_Growing hd.m_Growing_lens_to (F.bindsN fun _ _ _ _ _ _ us hl => match us, hl with | [_, _], _ => rfl) sc_Growing_lens_to (fun vs H Q E h => ?_) (fun cdv A outer s H vs Q E hr h => ?_)
  · obtain ⟨_, _, _, _, _, _, _, rfl, _⟩ := h; rfl
  · obtain ⟨φ, pa, n, ks, outs, i, cap, rfl, hk, ok, hi, k⟩ := h
    obtain ⟨⟨h, sa, h1, ⟨dx, rfl⟩, h3, h4⟩, h5, h6, h7⟩ := hk i hi
    refine ⟨_, (pss_one (ps_ret (pe_lc (own := [("source", 2)]) (g := (gName 2)) (tt := tYes) (te := (tCB bMin2 (tCons (tVar 1) (tCons (tCall _ _ C8.E0 (tCons (tVar 2) tNil)) tNil)))) rfl sc_Growing_lens_to.nd (pi_list (pe_fld (pv 0) rfl)) (blkOk_by (N := ["self", "cap", "source"]) (sc := defScope s_Growing_lens_to) (by decide +kernel)) (fun _ _ _ _ _ => (pg_name (i := 2) sc_Growing_lens_to.nd rfl (Or.inl rfl))) (fun _ _ _ _ _ => pts_nil) (fun _ _ _ _ _ => (pe_callB (call_min2 rfl) (by rfl) hd.f_min (by decide +kernel) (pa_cons (pv 1) (pa_cons (C8.pe_c (cal_size_under hd) hr (by first | decide | omega) rfl (pa_cons (pv 2) pa_nil)) pa_nil))))))), ?_⟩
    refine ⟨_, rfl, _, _, _, _, _, rfl, h1, hd.c_Growing, hd.n_Growing_sources, rfl, sa, rfl, ⟨_, .of h3⟩, lc_all walk_list (M := No) (fun j y H' => ∃ m, (lensK ks cap (ks i))[j]? = some m ∧ y = iV m) ?_ (fun _ z => z.elim) (fun H' f' => .of (Sm.at f' h3)) (fun i y N H H' h f => h) ?_ ?_⟩
    · have := ok.few i hi
      rw [List.length_map, sizeLine_eq]; omega
    · rintro j y Hc Hd' Qy hj fc ⟨rfl, hy⟩ kq
      obtain ⟨sj, hsj, rfl⟩ := src_get hy
      refine ⟨rfl, _, rfl, _, rfl, φ, pa, ks, outs, sj, rfl, (fun j' e => hk.sm fc j' (ok.src hi (List.mem_of_getElem? hsj) j' e)), _, _, rfl, ?_⟩
      rw [min_nat]
      refine kq _ _ .refl ⟨min cap (sj.sz ks), ?_, rfl⟩
      show ((ks i).src.map _)[j]? = _
      rw [List.getElem?_map, hsj]; rfl
    · rintro D zs Hq nD fe hD hz hh
      have e := ext_nsV (ns := lensK ks cap (ks i)) (by rw [hz]; simp [lensK]) hh
      rw [e] at hD
      exact k D Hq nD fe hD
/-- the counts from one to another -/
theorem rgV_nat (a b : Nat) : rgV (a : Int) (b : Int) = nsV ((List.range (b - a)).map fun i => a + i) := by
  unfold rgV
  show _ = List.map iV _
  rw [List.map_map, show ((b : Int) - (a : Int)).toNat = b - a by omega]
  exact List.map_congr_left fun i _ => by
    show V.int ((a : Int) + (i : Int)) = V.int ((a + i : Nat) : Int)
    rw [show ((a + i : Nat) : Int) = (a : Int) + (i : Int) by omega]
def lacks (k : Kn) (l : List Int) (cap : Nat) : List Nat := (List.range (lackN k l cap)).map fun i => l.length + 1 + i
theorem sc_Growing_lacks : FnScope ["self", "cap"] ["self", "cap"] (defScope s_Growing_lacks) := ⟨rfl, rfl, rfl, by decide +kernel, rfl, by decide +kernel, by decide +kernel⟩
def spLacks : Sp := fun vs H Q _ => ∃ (φ : Addr → Nat) (pa : Nat → Addr × Addr) (i : Nat) (kn : Kn) (l : List Int) (cap : Nat), vs = [.ref (pa i).1, iV cap] ∧ PKn K φ H pa i kn l ∧ l.length ≤ 1000 ∧ kn.size ≤ 1000 ∧
  ∀ p H', H p = none → Sm H H' → H' p = some (.lst (nsV (lacks kn l cap))) → Q (.ref p) H'
theorem cal_Growing_lacks (hd : Hd K mg) : C8.Met P w K mg base 1 (He.ga K "Growing") "lacks" (spLacks (K := K)) [] := by
  obtain ⟨fd, F⟩ := hd.d_Growing_lacks
  refine mk_met F hd.c_Growing hd.m_Growing_lacks (F.bindsN fun _ _ _ _ _ _ us hl => match us, hl with | [_, _], _ => rfl) sc_Growing_lacks (fun vs H Q E h => ?_) (fun cdv A outer s H vs Q E hr h => ?_)
  · obtain ⟨_, _, _, _, _, _, rfl, _⟩ := h; rfl
  · obtain ⟨φ, pa, i, kn, l, cap, rfl, ⟨⟨h, sa, h1, ⟨dx, rfl⟩, h3, h4⟩, h5, h6, h7⟩, hl, hs, k⟩ := h
    refine ⟨_, (pss_one (ps_ret (pe_listRg rfl rfl hd.f_list (prg_2 rfl hd.f_range (pe_op op_add (pe_callB call_len_seq (by rfl) hd.f_len PySem.boot_len (pa_cons (pe_fld (pv 0) rfl) pa_nil)) pe_int) (pe_op op_add (pe_callB (call_min2 rfl) (by rfl) hd.f_min (by decide +kernel) (pa_cons (pv 1) (pa_cons (pe_fld (pv 0) rfl) pa_nil))) pe_int))))), ?_⟩
    refine ⟨_, rfl, _, _, _, _, _, rfl, h1, hd.c_Growing, hd.n_Growing_outs, rfl, _, _, rfl, .inl (.of h6), _, _, rfl, rfl, ?_⟩
    refine ⟨_, rfl, _, rfl, _, _, _, _, _, rfl, h1, hd.c_Growing, hd.n_Growing_size, rfl, _, _, rfl, _, _, rfl, rfl, ?_⟩
    rw [min_nat, isV_len]
    refine ⟨((l.length + 1 : Nat) : Int), ((min cap kn.size + 1 : Nat) : Int), rfl, rfl, .of_le (by omega) (by omega) (by omega) (by omega), fun p np => upd_new np fun H1 s1 q1 => k p H1 np s1 ?_⟩
    rw [q1, rgV_nat, show min cap kn.size + 1 - (l.length + 1) = lackN kn l cap by unfold lackN; omega]
    rfl
theorem sc_Growing_many_ahead : FnScope ["self", "cap", "total"] ["self", "cap"] (defScope s_Growing_many_ahead) := ⟨rfl, rfl, rfl, by decide +kernel, rfl, by decide +kernel, by decide +kernel⟩
def spAhead : Sp := fun vs H Q _ => ∃ (φ : Addr → Nat) (pa : Nat → Addr × Addr) (n : Nat) (ks : Nat → Kn) (outs : Nat → List Int) (i cap : Nat), vs = [.ref (pa i).1, iV cap] ∧ PKs K φ H pa n ks outs ∧ KsOk n ks ∧ i < n ∧ (outs i).length ≤ 1000 ∧
  ∀ H', Sm H H' → Q (iV (aheadN ks (ks i) (outs i) cap)) H'
theorem sm_sum (f : Nat → Nat) (n : Nat) : ((List.range n).map f).sum = sm f n := by
  induction n with
  | zero => rfl
  | succ n ih => rw [List.range_succ, List.map_append, List.sum_append, ih]; simp [sm]
theorem cal_Growing_many_ahead (hd : Hd K mg) : C8.Met P w K mg base 3 (He.ga K "Growing") "many_ahead" (spAhead (K := K)) [] := by
  obtain ⟨fd, F⟩ := hd.d_Growing_many_ahead
  refine mk_met F hd.c_Growing hd.m_Growing_many_ahead (F.bindsN fun _ _ _ _ _ _ us hl => match us, hl with | [_, _], _ => rfl) sc_Growing_many_ahead (fun vs H Q E h => ?_) (fun cdv A outer s H vs Q E hr h => ?_)
  · obtain ⟨_, _, _, _, _, _, _, rfl, _⟩ := h; rfl
  · obtain ⟨φ, pa, n, ks, outs, i, cap, rfl, hk, ok, hi, hl, k⟩ := h
    have hki := hk i hi
    obtain ⟨⟨h, sa, h1, ⟨dx, rfl⟩, h3, h4⟩, h5, h6, h7⟩ := hki
    refine ⟨_, (pss_one (ps_ret (pe_callB (cr_sum rfl) (by rfl) hd.f_sum (by decide +kernel) (pa_cons (pe_lc (own := [("total", 2)]) (g := (gName 2)) (tt := tYes) (te := (tCall _ _ C8.E0 (tCons (tMeth (He.ga K "Growing") "lens_to" _ _ C8.E0 (tVar 0) (tCons (tVar 1) tNil)) (tCons (tVar 2) tNil)))) rfl sc_Growing_many_ahead.nd (pi_list (C8.pe_mt (cal_Growing_lacks hd) hr (by first | decide | omega) (pv 0) (pa_cons (pv 1) pa_nil))) (blkOk_by (N := ["self", "cap", "total"]) (sc := defScope s_Growing_many_ahead) (by decide +kernel)) (fun _ _ _ _ _ => (pg_name (i := 2) sc_Growing_many_ahead.nd rfl (Or.inl rfl))) (fun _ _ _ _ _ => pts_nil) (fun _ _ _ _ _ => (C8.pe_c (cal_how_many hd) hr (by first | decide | omega) rfl (pa_cons (C8.pe_mt (cal_Growing_lens_to hd) hr (by first | decide | omega) (pv 0) (pa_cons (pv 1) pa_nil)) (pa_cons (pv 2) pa_nil))))) pa_nil)))), ?_⟩
    have hle := ok.le i hi
    refine ⟨_, rfl, _, _, _, rfl, h1, rfl, _, rfl, φ, pa, i, ks i, outs i, cap, rfl, hk i hi, hl, by omega, fun p1 H1 n1 s1 q1 => ?_⟩
    refine ⟨p1, rfl, ⟨_, .of q1⟩, lc_all walk_list (M := No) (fun j y H' => ∃ m, ((List.range (lackN (ks i) (outs i) cap)).map fun j => ways (lensK ks cap (ks i)) ((outs i).length + 1 + j))[j]? = some m ∧ y = iV m) ?_ (fun _ z => z.elim) (fun H' f' => .of (Sm.at f' q1)) (fun i y N H H' h f => h) ?_ ?_⟩
    · simp only [lacks, lackN, List.length_map, List.length_range]
      rw [sizeLine_eq]; omega
    · rintro j y Hc Hd' Qy hj fc ⟨rfl, hy⟩ kq
      obtain ⟨t, ht, rfl⟩ := nsV_get hy
      have hjl : j < lackN (ks i) (outs i) cap := by
        simpa [lacks] using hj
      have et : t = (outs i).length + 1 + j := by
        unfold lacks at ht
        rw [List.getElem?_map, List.getElem?_range hjl] at ht
        exact (Option.some.inj ht).symm
      have fc1 : Sm H Hd' := s1.trans fc
      refine ⟨rfl, _, rfl, _, _, _, rfl, fc1.at h1, rfl, _, rfl, φ, pa, n, ks, outs, i, cap, rfl, hk.sm fc1, ok, hi, fun D H2 nD s2 q2 => ?_⟩
      refine ⟨_, rfl, D, _, t, rfl, q2, ?_, fun H3 s3 => kq _ H3 (s2.trans s3) ⟨_, ?_, rfl⟩⟩
      · unfold lackN at hjl
        omega
      · rw [List.getElem?_map, List.getElem?_range hjl, et]; rfl
    · rintro D zs Hq nD fe hD hz hh
      have e := ext_nsV (ns := (List.range (lackN (ks i) (outs i) cap)).map fun j => ways (lensK ks cap (ks i)) ((outs i).length + 1 + j)) (by rw [hz]; simp [lacks]) hh
      rw [e] at hD
      refine ⟨D, _, rfl, .of (asI hD), ?_⟩
      rw [sum_cast, sm_sum]
      exact k Hq (s1.trans fe)
end
end K59
set_option Elab.async false
set_option linter.all false
set_option maxRecDepth 100000
set_option maxHeartbeats 4000000
namespace K59
open PySem PySem.Spec PyProof.Rows L2
/-! ### a part's knots, in plain Lean -/
mutual
theorem gat_n : ∀ (p : Part) (ms : List Int) (g : KS), (p.gat ms g).1.n = g.n + p.nk
  | .one, ms, g => rfl
  | .sums ps, ms, g => by
    rw [Part.gat, Part.nk]
    show (Part.gats ps ms g).1.n + 1 = _
    rw [gats_n ps ms g]; omega
theorem gats_n : ∀ (ps : List Part) (ms : List Int) (g : KS), (Part.gats ps ms g).1.n = g.n + Part.nks ps
  | [], ms, g => rfl
  | p :: ps, ms, g => by
    rw [Part.gats, Part.nks]
    show (Part.gats ps _ (p.gat _ g).1).1.n = _
    rw [gats_n ps, gat_n p]; omega
end
mutual
theorem gat_keep : ∀ (p : Part) (ms : List Int) (g : KS) (j : Nat), j < g.n → (p.gat ms g).1.ks j = g.ks j
  | .one, ms, g, j, h => rfl
  | .sums ps, ms, g, j, h => by
    rw [Part.gat]
    show updN (Part.gats ps ms g).1.ks (Part.gats ps ms g).1.n _ j = _
    have := gats_n ps ms g
    rw [updN_ne (by omega), gats_keep ps ms g j h]
theorem gats_keep : ∀ (ps : List Part) (ms : List Int) (g : KS) (j : Nat), j < g.n → (Part.gats ps ms g).1.ks j = g.ks j
  | [], ms, g, j, h => rfl
  | p :: ps, ms, g, j, h => by
    rw [Part.gats]
    show (Part.gats ps _ (p.gat _ g).1).1.ks j = _
    rw [gats_keep ps _ _ j (by rw [gat_n p]; omega), gat_keep p _ _ j h]
end
/-- a source made from here on -/
def SrcIn (a n : Nat) (s : Src) : Prop := ∀ j, s = .kn j → a ≤ j ∧ j < n
theorem SrcIn.mono {a n m : Nat} {s : Src} (h : SrcIn a n s) (l : n ≤ m) : SrcIn a m s := fun j e => ⟨(h j e).1, Nat.lt_of_lt_of_le (h j e).2 l⟩
mutual
theorem gat_src : ∀ (p : Part) (ms : List Int) (g : KS), SrcIn g.n (p.gat ms g).1.n (p.gat ms g).2
  | .one, ms, g => fun j e => nomatch e
  | .sums ps, ms, g => fun j e => by
    rw [Part.gat] at e ⊢
    have e : Src.kn (Part.gats ps ms g).1.n = Src.kn j := e
    cases e
    show g.n ≤ (Part.gats ps ms g).1.n ∧ (Part.gats ps ms g).1.n < (Part.gats ps ms g).1.n + 1
    have := gats_n ps ms g
    omega
theorem gats_src : ∀ (ps : List Part) (ms : List Int) (g : KS), ∀ s ∈ (Part.gats ps ms g).2, SrcIn g.n (Part.gats ps ms g).1.n s
  | [], ms, g, s, h => absurd h List.not_mem_nil
  | p :: ps, ms, g, s, h => by
    rw [Part.gats] at h ⊢
    have h : s ∈ (p.gat (ms.take p.sz) g).2 :: (Part.gats ps (ms.drop p.sz) (p.gat (ms.take p.sz) g).1).2 := h
    show SrcIn g.n (Part.gats ps (ms.drop p.sz) (p.gat (ms.take p.sz) g).1).1.n s
    have e1 := gat_n p (ms.take p.sz) g
    have e2 := gats_n ps (ms.drop p.sz) (p.gat (ms.take p.sz) g).1
    rcases List.mem_cons.mp h with rfl | h
    · exact (gat_src p _ g).mono (by omega)
    · intro j e
      have := gats_src ps _ _ s h j e
      omega
end
mutual
theorem gat_low : ∀ (p : Part) (ms : List Int) (g : KS) (j : Nat), g.n ≤ j → j < (p.gat ms g).1.n → ∀ s ∈ ((p.gat ms g).1.ks j).src, SrcIn g.n j s
  | .one, ms, g, j, h1, h2 => by
    have h2 : j < g.n := h2
    omega
  | .sums ps, ms, g, j, h1, h2 => by
    rw [Part.gat] at h2 ⊢
    have h2 : j < (Part.gats ps ms g).1.n + 1 := h2
    show ∀ s ∈ (updN (Part.gats ps ms g).1.ks (Part.gats ps ms g).1.n _ j).src, _
    by_cases c : j = (Part.gats ps ms g).1.n
    · subst c
      rw [updN_same]
      exact gats_src ps ms g
    · rw [updN_ne c]
      exact gats_low ps ms g j h1 (by omega)
theorem gats_low : ∀ (ps : List Part) (ms : List Int) (g : KS) (j : Nat), g.n ≤ j → j < (Part.gats ps ms g).1.n → ∀ s ∈ ((Part.gats ps ms g).1.ks j).src, SrcIn g.n j s
  | [], ms, g, j, h1, h2 => by
    have h2 : j < g.n := h2
    omega
  | p :: ps, ms, g, j, h1, h2 => by
    rw [Part.gats] at h2 ⊢
    have h2 : j < (Part.gats ps (ms.drop p.sz) (p.gat (ms.take p.sz) g).1).1.n := h2
    show ∀ s ∈ ((Part.gats ps (ms.drop p.sz) (p.gat (ms.take p.sz) g).1).1.ks j).src, _
    have e1 := gat_n p (ms.take p.sz) g
    by_cases c : j < (p.gat (ms.take p.sz) g).1.n
    · rw [gats_keep ps _ _ j c]
      exact gat_low p _ g j h1 c
    · intro s hs j' e
      have := gats_low ps _ _ j (by omega) h2 s hs j' e
      omega
end
theorem gats_snoc : ∀ (ps : List Part) (p : Part) (ms : List Int) (g : KS), Part.gats (ps ++ [p]) ms g =
    ((p.gat ((ms.drop (Part.szs ps)).take p.sz) (Part.gats ps ms g).1).1, (Part.gats ps ms g).2 ++ [(p.gat ((ms.drop (Part.szs ps)).take p.sz) (Part.gats ps ms g).1).2])
  | [], p, ms, g => rfl
  | q :: ps, p, ms, g => by
    rw [List.cons_append, Part.gats]
    show ((Part.gats (ps ++ [p]) (ms.drop q.sz) (q.gat (ms.take q.sz) g).1).1, (q.gat (ms.take q.sz) g).2 :: (Part.gats (ps ++ [p]) (ms.drop q.sz) (q.gat (ms.take q.sz) g).1).2) = _
    rw [gats_snoc ps p, List.drop_drop]
    show _ = ((p.gat ((ms.drop (q.sz + Part.szs ps)).take p.sz) (Part.gats ps (ms.drop q.sz) (q.gat (ms.take q.sz) g).1).1).1, ((q.gat (ms.take q.sz) g).2 :: (Part.gats ps (ms.drop q.sz) (q.gat (ms.take q.sz) g).1).2) ++ [_])
    rfl
theorem gats_len (ps : List Part) : ∀ (ms : List Int) (g : KS), (Part.gats ps ms g).2.length = ps.length := by
  induction ps with
  | nil => intro ms g; rfl
  | cons p ps ih => intro ms g; rw [Part.gats]; show _ + 1 = _; rw [ih]; rfl
theorem szs_snoc (ps : List Part) (p : Part) : Part.szs (ps ++ [p]) = Part.szs ps + p.sz := by rw [szs_eq, szs_eq]; simp
theorem szs_take_le (ps : List Part) (i : Nat) : Part.szs (ps.take i) ≤ Part.szs ps := by
  rw [szs_eq, szs_eq, List.map_take]; exact sum_take_le _ i
theorem nks_eq (ps : List Part) : Part.nks ps = (ps.map Part.nk).sum := by
  induction ps with
  | nil => rfl
  | cons p ps ih => rw [Part.nks, ih, List.map_cons, List.sum_cons]
theorem nks_take_le (ps : List Part) (i : Nat) : Part.nks (ps.take i) ≤ Part.nks ps := by
  rw [nks_eq, nks_eq, List.map_take]; exact sum_take_le _ i
theorem gat_sz : ∀ (p : Part) (ms : List Int) (g : KS), (p.gat ms g).2.sz (p.gat ms g).1.ks = p.sz
  | .one, ms, g => rfl
  | .sums ps, ms, g => by
    rw [Part.gat]
    show Kn.size (updN (Part.gats ps ms g).1.ks (Part.gats ps ms g).1.n _ (Part.gats ps ms g).1.n) = _
    rw [updN_same]; rfl
theorem sz_eq {ks ks' : Nat → Kn} {s : Src} (h : ∀ j, s = .kn j → ks' j = ks j) : s.sz ks' = s.sz ks := by
  cases s with
  | mk m => rfl
  | kn j => show (ks' j).size = (ks j).size; rw [h j rfl]
theorem gats_sz : ∀ (ps : List Part) (ms : List Int) (g : KS), (Part.gats ps ms g).2.map (Src.sz (Part.gats ps ms g).1.ks) = ps.map Part.sz
  | [], ms, g => rfl
  | p :: ps, ms, g => by
    rw [Part.gats]
    show (p.gat (ms.take p.sz) g).2.sz (Part.gats ps (ms.drop p.sz) (p.gat (ms.take p.sz) g).1).1.ks :: (Part.gats ps (ms.drop p.sz) (p.gat (ms.take p.sz) g).1).2.map (Src.sz (Part.gats ps (ms.drop p.sz) (p.gat (ms.take p.sz) g).1).1.ks) = p.sz :: ps.map Part.sz
    rw [gats_sz ps, sz_eq fun j e => gats_keep ps _ _ j (gat_src p _ g j e).2, gat_sz]
/-! ### lens -/
theorem map_sum_le {α : Type} {f g : α → Nat} : ∀ {l : List α}, (∀ a ∈ l, f a ≤ g a) → (l.map f).sum ≤ (l.map g).sum
  | [], _ => Nat.le_refl _
  | a :: l, h => by
    rw [List.map_cons, List.map_cons, List.sum_cons, List.sum_cons]
    have h1 := h a (List.mem_cons_self ..)
    have h2 := map_sum_le (l := l) fun b hb => h b (List.mem_cons_of_mem _ hb)
    omega
theorem map_prod_le {α : Type} {f g : α → Nat} : ∀ {l : List α} {p q : Nat}, p ≤ q → (∀ a ∈ l, f a ≤ g a) → (l.map f).foldl (fun p m => p * (m + 1)) p ≤ (l.map g).foldl (fun p m => p * (m + 1)) q
  | [], _, _, hpq, _ => hpq
  | a :: l, p, q, hpq, h => map_prod_le (l := l) (Nat.mul_le_mul hpq (Nat.succ_le_succ (h a (List.mem_cons_self ..)))) fun b hb => h b (List.mem_cons_of_mem _ hb)
theorem lens_sum_le (ks : Nat → Kn) (cap : Nat) (k : Kn) : (lensK ks cap k).sum ≤ (szsK ks k).sum := map_sum_le fun s _ => Nat.min_le_right _ _
theorem lens_prod_le (ks : Nat → Kn) (cap : Nat) (k : Kn) : prod1 (lensK ks cap k) ≤ prod1 (szsK ks k) := map_prod_le (Nat.le_refl _) fun s _ => Nat.min_le_right _ _
theorem lens_sum_ge (ks : Nat → Kn) (cap : Nat) (k : Kn) : min cap (szsK ks k).sum ≤ (lensK ks cap k).sum := by
  unfold lensK szsK
  induction k.src with
  | nil => simp
  | cons s l ih =>
    rw [List.map_cons, List.map_cons, List.sum_cons, List.sum_cons]
    omega
theorem ways_le_prod (l : List Nat) (t : Nat) : ways l t ≤ prod1 l := by
  have h := ways_sum_le l (t + 1)
  have e : sm (ways l) (t + 1) = sm (ways l) t + ways l t := rfl
  omega
theorem sm_shift (f : Nat → Nat) (a : Nat) : ∀ n, sm (fun i => f (a + i)) n + sm f a = sm f (a + n)
  | 0 => by show 0 + _ = _; rw [Nat.zero_add, Nat.add_zero]
  | n + 1 => by
    have ih := sm_shift f a n
    show sm (fun i => f (a + i)) n + f (a + n) + sm f a = sm f (a + n) + f (a + n)
    omega
theorem sm_ways_le (l : List Nat) (a n : Nat) : sm (fun i => ways l (a + i)) n ≤ prod1 l := by
  have h1 := sm_shift (ways l) a n
  have h2 := ways_sum_le l (a + n)
  omega
theorem cat_length {α : Type} (F : Nat → List α) (n : Nat) : (cat F n).length = sm (fun i => (F i).length) n := by
  induction n with
  | zero => rfl
  | succ n ih => show (cat F n ++ F n).length = sm _ n + _; rw [List.length_append, ih]
theorem newCl_length (rows : List (List Int)) (lens : List Nat) (a : Nat) (first : Int) (n : Nat) : (newCl rows lens a first n).length = sm (fun i => ways lens (a + 1 + i)) n := by
  unfold newCl
  rw [cat_length]
  exact sm_congr fun i _ => by rw [List.length_map, chM_length]
theorem aheadN_le {n : Nat} {ks : Nat → Kn} (o : KsOk n ks) {i : Nat} (hi : i < n) (l : List Int) (cap : Nat) : aheadN ks (ks i) l cap ≤ 64 :=
  Nat.le_trans (sm_ways_le _ _ _) (Nat.le_trans (lens_prod_le ks cap (ks i)) (o.prod i hi))
theorem newNm_length (first : Int) (n : Nat) : (newNm first n).length = n := by simp [newNm]
theorem newNm_succ (first : Int) (n : Nat) : newNm first (n + 1) = newNm first n ++ [first + (n : Int)] := by
  unfold newNm
  rw [List.range_succ, List.map_append]; rfl
/-! ### ghosts -/
/-- only what stands has a tag -/
def Live (φ : Addr → Nat) (H : Hp) : Prop := ∀ b, φ b ≠ 0 → H b ≠ none
/-- the tags go on -/
def Ext (φ φ' : Addr → Nat) (H : Hp) : Prop := ∀ b, H b ≠ none → φ' b = φ b
section
variable {φ φ' φ2 : Addr → Nat} {H H' : Hp} {M : Addr → Prop} {b p : Addr} {t : Nat}
theorem Live.fm (l : Live φ H) (f : Fm M H H') : Live φ H' := fun b h => f.live b (l b h)
theorem Live.zero (l : Live φ H) (h : H b = none) : φ b = 0 := Classical.byContradiction fun z => l b z h
theorem Ext.refl : Ext φ φ H := fun _ _ => rfl
theorem Ext.trans (e : Ext φ φ' H) (e2 : Ext φ' φ2 H') (f : Fm M H H') : Ext φ φ2 H := fun b h => (e2 b (f.live b h)).trans (e b h)
/-- one tag more -/
def updA (φ : Addr → Nat) (p : Addr) (t : Nat) : Addr → Nat := fun b => if b = p then t else φ b
theorem updA_same : updA φ p t p = t := if_pos rfl
theorem updA_ne (h : b ≠ p) : updA φ p t b = φ b := if_neg h
theorem Ext.one (n : H p = none) : Ext φ (updA φ p t) H := fun b h => updA_ne fun z => h (by rw [z]; exact n)
theorem Live.one (l : Live φ H) (h : H p ≠ none) : Live (updA φ p t) H := fun b z => by
  by_cases c : b = p
  · rw [c]; exact h
  · rw [updA_ne c] at z; exact l b z
end
end K59
set_option Elab.async false
set_option linter.all false
set_option maxRecDepth 100000
set_option maxHeartbeats 4000000
namespace K59
open PySem PySem.Spec PyProof.Rows L2
section
variable {P : Program} {w : World} {K : PySem.W.Frag} {mg : Str → Option Value} {base : Heap}
theorem sc_Growing_init : FnScope ["self", "sources", "source"] ["self", "sources"] (defScope s_Growing_init) := ⟨rfl, rfl, rfl, by decide +kernel, rfl, by decide +kernel, by decide +kernel⟩
def spGInit : Sp := fun vs H Q _ => ∃ (H0 : Hp) (x dx s : Addr) (φ : Addr → Nat) (pa : Nat → Addr × Addr) (ks : Nat → Kn) (outs : Nat → List Int) (src : List Src), vs = [.ref x, .ref s] ∧ H x = some (.ins (He.ga K "Growing") dx []) ∧ H0 x = none ∧ Sm H0 H ∧ H0 s = some (.lst (src.map (srcV pa))) ∧
  (∀ j, .kn j ∈ src → PKn K φ H0 pa j (ks j) (outs j)) ∧ src.length ≤ 1000 ∧
  ∀ o H', H0 o = none → o ≠ x → Sm H0 H' → H' x = some (.ins (He.ga K "Growing") dx [("sources", .ref s), ("size", iV (src.map (Src.sz ks)).sum), ("outs", .ref o)]) → H' o = some (.lst []) → Q .non H'
theorem cal_Growing (hd : Hd K mg) : C8.Mak P w K mg base 2 "Growing" (He.ga K "Growing") (spGInit (K := K)) [] := by
  obtain ⟨fd, F⟩ := hd.d_Growing_init
  refine mk_mak F hd.k_Growing hd.g_Growing (F.bindsN fun _ _ _ _ _ _ us hl => match us, hl with | [_, _], _ => rfl) sc_Growing_init (fun vs H Q E h => ?_) (fun cdv A outer s H vs Q E hr h => ?_)
  · obtain ⟨_, _, _, _, _, _, _, _, _, rfl, _⟩ := h; rfl
  · obtain ⟨H0, x, dx, sa, φ, pa, ks, outs, src, rfl, hx, nx, f0, hs, hk, hl, k⟩ := h
    refine ⟨_, (pss_cons (ps_fld (pv 0) (pv 1) rfl)
    (pss_cons (ps_fld (pv 0) (pe_callB (cr_sum rfl) (by rfl) hd.f_sum (by decide +kernel) (pa_cons (pe_lc (own := [("source", 2)]) (g := (gName 2)) (tt := tYes) (te := (tCall _ _ C8.E0 (tCons (tVar 2) tNil))) rfl sc_Growing_init.nd (pi_list (pv 1)) (blkOk_by (N := ["self", "sources", "source"]) (sc := defScope s_Growing_init) (by decide +kernel)) (fun _ _ _ _ _ => (pg_name (i := 2) sc_Growing_init.nd rfl (Or.inl rfl))) (fun _ _ _ _ _ => pts_nil) (fun _ _ _ _ _ => (C8.pe_c (cal_size_under hd) hr (by first | decide | omega) rfl (pa_cons (pv 2) pa_nil)))) pa_nil)) rfl)
    (pss_one (ps_fld (pv 0) (pe_lst pa_nil) rfl)))), ?_⟩
    refine ⟨_, rfl, _, rfl, _, _, _, _, rfl, hx, hd.c_Growing, hd.n_Growing_sources, fewF, upd_put hx no_ins fun H1 f1 q1 => ?_⟩
    have g1 : Sm H0 H1 := f0.over1 nx f1
    refine ⟨_, rfl, sa, rfl, ⟨_, .of (g1.at hs)⟩, lc_all walk_list (M := No) (fun j y H' => ∃ m, (src.map (Src.sz ks))[j]? = some m ∧ y = iV m) ?_ (fun _ z => z.elim) (fun H' f' => .of (Sm.at (Fm.trans g1 f') hs)) (fun i y N H H' h f => h) ?_ ?_⟩
    · rw [List.length_map, sizeLine_eq]; omega
    · rintro j y Hc Hd' Qy hj fc ⟨rfl, hy⟩ kq
      obtain ⟨sj, hsj, rfl⟩ := src_get hy
      refine ⟨rfl, _, rfl, φ, pa, ks, outs, sj, rfl, (fun j' e => (hk j' (e ▸ List.mem_of_getElem? hsj)).fm (g1.trans fc) fun _ z => z.elim), ?_⟩
      exact kq _ _ .refl ⟨sj.sz ks, by rw [List.getElem?_map, hsj]; rfl, rfl⟩
    · rintro D zs Hq nD fe hD hz hh
      have e := ext_nsV (ns := src.map (Src.sz ks)) (by rw [hz]; simp) hh
      rw [e] at hD
      have qx : Hq x = _ := Sm.at fe q1
      refine ⟨D, _, rfl, .of (asI hD), ?_⟩
      rw [sum_cast]
      refine ⟨_, rfl, _, _, _, _, rfl, qx, hd.c_Growing, hd.n_Growing_size, fewF, upd_put qx no_ins fun H2 f2 q2 => ?_⟩
      refine ⟨szN, fun o no => upd_new no fun H3 s3 q3 => ?_⟩
      have qx3 := s3.at q2
      refine ⟨_, rfl, _, _, _, _, rfl, qx3, hd.c_Growing, hd.n_Growing_outs, fewF, upd_put qx3 no_ins fun H4 f4 q4 => ?_⟩
      have g2 : Sm H0 H2 := (g1.trans fe).over1 nx f2
      have g3 : Sm H0 H3 := g2.trans s3
      have nox : o ≠ x := fun z => by rw [z, q2] at no; cases no
      exact k o H4 (g2.free no) nox (g3.over1 nx f4) q4 (f4.at q3 nox)
/-- a name with its meaning -/
def NmAt (H : Hp) (v : V) (nm : Int) : Prop := ∃ t m, v = .ref t ∧ H t = some (.tup [.int nm, .ref m])
theorem NmAt.fm {M : Addr → Prop} {H H' : Hp} {v : V} {nm : Int} (h : NmAt H v nm) (f : Fm M H H') : NmAt H' v nm := by
  obtain ⟨t, m, e, h⟩ := h; exact ⟨t, m, e, f.tups _ _ h⟩
/-- a source whose outs are there -/
def Full (ks : Nat → Kn) (outs : Nat → List Int) (cap : Nat) (s : Src) : Prop := ∀ j, s = .kn j → min cap (ks j).size ≤ (outs j).length
theorem row_len {ks : Nat → Kn} {outs : Nat → List Int} {cap : Nat} (hc : 1 ≤ cap) {s : Src} (h : Full ks outs cap s) : (s.row ks outs cap).length = min cap (s.sz ks) := by
  cases s with
  | mk m => show 1 = min cap 1; omega
  | kn j =>
    have := h j rfl
    show ((outs j).take _).length = min cap (ks j).size
    rw [List.length_take]; omega
theorem pks_after {φ : Addr → Nat} {H H' : Hp} {pa : Nat → Addr × Addr} {n i : Nat} {ks : Nat → Kn} {outs : Nat → List Int} {l : List Int} (hk : PKs K φ H pa n ks outs) (hi : i < n) (f : Fm (· = (pa i).2) H H') (h : H' (pa i).2 = some (.lst (isV l))) : PKs K φ H' pa n ks (updN outs i l) := by
  have ht := (hk i hi).tag
  intro j hj
  by_cases c : j = i
  · subst c
    rw [updN_same]
    obtain ⟨⟨o, s, h1, h2, h3, h4⟩, h5, h6, h7⟩ := hk j hj
    refine ⟨⟨o, s, f.at h1 fun z => ?_, h2, f.at h3 fun z => ?_, h4⟩, h5, h, h7⟩
    · rw [z, ht] at h5; unfold tgP at h5; omega
    · rw [z, ht] at h4; unfold tgP at h4; omega
  · rw [updN_ne c]
    refine (hk j hj).fm f fun b hb => ?_
    subst hb
    rw [ht]
    unfold tgP
    omega
theorem sc_Growing_grow : FnScope ["self", "cap", "first", "rows", "total", "meanings", "clauses", "name", "meaning", "source", "choice", "some", "mark"] ["self", "cap", "first"] (defScope s_Growing_grow) := ⟨rfl, rfl, rfl, by decide +kernel, rfl, by decide +kernel, by decide +kernel⟩
def spGrow : Sp := fun vs H Q _ => ∃ (φ : Addr → Nat) (pa : Nat → Addr × Addr) (n : Nat) (ks : Nat → Kn) (outs : Nat → List Int) (i cap : Nat) (first : Int), vs = [.ref (pa i).1, iV cap, .int first] ∧ PKs K φ H pa n ks outs ∧ KsOk n ks ∧ i < n ∧ (outs i).length ≤ 12 ∧ 1 ≤ cap ∧
  (∀ s ∈ (ks i).src, Full ks outs cap s) ∧
  ∀ t (a b : Addr) mv cv H', H a = none → H b = none → a ≠ b → Fm (· = (pa i).2) H H' → H' (pa i).2 = some (.lst (isV (outs i ++ newNm first (lackN (ks i) (outs i) cap)))) → H' t = some (.tup [.ref a, .ref b]) →
    H' a = some (.lst mv) → Rel (NmAt H') mv (newNm first (lackN (ks i) (outs i) cap)) → H' b = some (.lst cv) → Rel (TI H') cv (newCl (rowsK ks outs cap (ks i)) (lensK ks cap (ks i)) (outs i).length first (lackN (ks i) (outs i) cap)) → Q (.ref t) H'
theorem cal_Growing_grow (hd : Hd K mg) : C8.Met P w K mg base 4 (He.ga K "Growing") "grow" (spGrow (K := K)) [] := by
  obtain ⟨fd, F⟩ := hd.d_Growing_grow
  refine mk_met F hd.c_Growing hd.m_Growing_grow (F.bindsN fun _ _ _ _ _ _ us hl => match us, hl with | [_, _, _], _ => rfl) sc_Growing_grow (fun vs H Q E h => ?_) (fun cdv A outer s H vs Q E hr h => ?_)
  · obtain ⟨_, _, _, _, _, _, _, _, rfl, _⟩ := h; rfl
  · obtain ⟨φ, pa, n, ks, outs, i, cap, first, rfl, hk, ok, hi, hl, hc, hfull, k⟩ := h
    have hki := hk i hi
    obtain ⟨⟨h, sa, h1, ⟨dx, rfl⟩, h3, h4⟩, h5, h6, h7⟩ := hki
    refine ⟨_, (pss_cons (ps_set (i := 3) sc_Growing_grow.nd rfl (Or.inr rfl) (pe_lc (own := [("source", 9)]) (g := (gName 9)) (tt := tYes) (te := (tCall _ _ C8.E0 (tCons (tVar 9) (tCons (tVar 1) tNil)))) rfl sc_Growing_grow.nd (pi_list (pe_fld (pv 0) rfl)) (blkOk_by (N := ["self", "cap", "first", "rows", "total", "meanings", "clauses", "name", "meaning", "source", "choice", "some", "mark"]) (sc := defScope s_Growing_grow) (by decide +kernel)) (fun _ _ _ _ _ => (pg_name (i := 9) sc_Growing_grow.nd rfl (Or.inl rfl))) (fun _ _ _ _ _ => pts_nil) (fun _ _ _ _ _ => (C8.pe_c (cal_row_of hd) hr (by first | decide | omega) rfl (pa_cons (pv 9) (pa_cons (pv 1) pa_nil))))))
    (pss_cons (ps_par (i := 5) (j := 6) rfl sc_Growing_grow.nd rfl rfl (by decide) rfl rfl (pa_cons (pe_lst pa_nil) (pa_cons (pe_lst pa_nil) pa_nil)) rfl)
    (pss_cons (ps_for PassesOwn.never rfl (pi_list (C8.pe_mt (cal_Growing_lacks hd) hr (by first | decide | omega) (pv 0) (pa_cons (pv 1) pa_nil))) (pg_name (i := 4) sc_Growing_grow.nd rfl (Or.inl rfl))
    (pss_cons (ps_set (i := 7) sc_Growing_grow.nd rfl (Or.inr rfl) (pe_op op_add (pv 2) (pe_callB call_len_seq (by rfl) hd.f_len PySem.boot_len (pa_cons (pv 5) pa_nil))))
    (pss_cons (ps_set (i := 8) sc_Growing_grow.nd rfl (Or.inl rfl) (pe_callTy call_tuple_of (by rfl) hd.f_tuple (by decide +kernel) (pa_cons (pe_lc (own := [("choice", 10)]) (g := (gName 10)) (tt := tYes) (te := (tCall _ _ C8.E0 (tCons (tVar 3) (tCons (tVar 10) tNil)))) rfl sc_Growing_grow.nd (pi_list (C8.pe_c (cal_choices hd) hr (by first | decide | omega) rfl (pa_cons (C8.pe_mt (cal_Growing_lens_to hd) hr (by first | decide | omega) (pv 0) (pa_cons (pv 1) pa_nil)) (pa_cons (pv 4) pa_nil)))) (blkOk_by (N := ["self", "cap", "first", "rows", "total", "meanings", "clauses", "name", "meaning", "source", "choice", "some", "mark"]) (sc := defScope s_Growing_grow) (by decide +kernel)) (fun _ _ _ _ _ => (pg_name (i := 10) sc_Growing_grow.nd rfl (Or.inl rfl))) (fun _ _ _ _ _ => pts_nil) (fun _ _ _ _ _ => (C8.pe_c (cal_marks_at hd) hr (by first | decide | omega) rfl (pa_cons (pv 3) (pa_cons (pv 10) pa_nil))))) pa_nil)))
    (pss_cons (ps_expr (pe_bm PySem.F.plainAttrs_list PySem.F.slot_list_extend PySem.F.type_list_extend mt_extend (pv 6) (pa_cons (pe_lc (own := [("some", 11)]) (g := (gName 11)) (tt := tYes) (te := (tCB (bTuple K) (tCons (tOp rCat (tLc (iTup K (tVar 11)) (gName 12) tYes (tOp (rI0 fun i j => V.int (i - j)) (tC (V.int 0)) (tVar 12)) [12]) (tLst (tCons (tVar 7) tNil))) tNil))) rfl sc_Growing_grow.nd (pi_tup (pv 8)) (blkOk_by (N := ["self", "cap", "first", "rows", "total", "meanings", "clauses", "name", "meaning", "source", "choice", "some", "mark"]) (sc := defScope s_Growing_grow) (by decide +kernel)) (fun _ _ _ _ _ => (pg_name (i := 11) sc_Growing_grow.nd rfl (Or.inl rfl))) (fun _ _ _ _ _ => pts_nil) (fun _ _ _ _ _ => (pe_callTy call_tuple_of (by rfl) hd.f_tuple (by decide +kernel) (pa_cons (pe_op op_cat (pe_lc (own := [("mark", 12)]) (g := (gName 12)) (tt := tYes) (te := (tOp (rI0 fun i j => V.int (i - j)) (tC (V.int 0)) (tVar 12))) rfl sc_Growing_grow.nd (pi_tup (pv 11)) (blkOk_by (by first | decide +kernel | rfl)) (fun _ _ _ _ _ => (pg_name (i := 12) sc_Growing_grow.nd rfl (Or.inl rfl))) (fun _ _ _ _ _ => pts_nil) (fun _ _ _ _ _ => (pe_op op_sub pe_int (pv 12)))) (pe_lst (pa_cons (pv 7) pa_nil))) pa_nil)))) pa_nil)))
    (pss_cons (ps_expr (pe_bm PySem.F.plainAttrs_list PySem.F.slot_list_append PySem.F.type_list_append mt_append (pv 5) (pa_cons (pe_tup (pa_cons (pv 7) (pa_cons (pv 8) pa_nil))) pa_nil)))
    (pss_one (ps_expr (pe_bm PySem.F.plainAttrs_list PySem.F.slot_list_append PySem.F.type_list_append mt_append (pe_fld (pv 0) rfl) (pa_cons (pv 7) pa_nil)))))))))
    (pss_one (ps_ret (pe_tup (pa_cons (pv 5) (pa_cons (pv 6) pa_nil)))))))), ?_⟩
    refine ⟨_, rfl, _, _, _, _, _, rfl, h1, hd.c_Growing, hd.n_Growing_sources, rfl, sa, rfl, ⟨_, .of h3⟩, lc_all walk_list (M := No) (fun j y H' => ∃ r, (rowsK ks outs cap (ks i))[j]? = some r ∧ TI H' y r) ?_ (fun _ z => z.elim) (fun H' f' => .of (Sm.at f' h3)) (fun i y N H H' ⟨r, e, h⟩ f => ⟨r, e, h.fm f⟩) ?_ ?_⟩
    · have := ok.few i hi
      rw [List.length_map, sizeLine_eq]; omega
    · rintro j y Hc Hd' Qy hj fc ⟨rfl, hy⟩ kq
      obtain ⟨sj, hsj, rfl⟩ := src_get hy
      refine ⟨rfl, _, rfl, _, rfl, φ, pa, n, ks, outs, sj, cap, rfl, hk.sm fc, ok.src hi (List.mem_of_getElem? hsj), fun v H' s' t' => kq v H' s' ⟨sj.row ks outs cap, ?_, t'⟩⟩
      show ((ks i).src.map _)[j]? = _
      rw [List.getElem?_map, hsj]; rfl
    · rintro pr rv H1 npr g1 hpr hrl hrh
      have hrv : Rel (TI H1) rv (rowsK ks outs cap (ks i)) := by
        refine ⟨by rw [hrl]; simp [rowsK], fun j v x hv hx => ?_⟩
        obtain ⟨r, e, h⟩ := hrh j v hv
        rw [hx] at e
        cases e
        exact h
      refine ⟨szN, fun pm nm => upd_new nm fun H2 s2 q2 => ?_⟩
      refine ⟨szN, fun pc nc => upd_new nc fun H3 s3 q3 => ?_⟩
      have f3 : Sm H H3 := (g1.trans s2).trans s3
      refine ⟨_, _, rfl, _, rfl, _, _, _, rfl, f3.at h1, rfl, _, rfl, φ, pa, i, ks i, outs i, cap, rfl, (hk.sm f3) i hi, by omega, by have := ok.le i hi; omega, fun pl H4 nl s4 q4 => ?_⟩
      have f4 : Sm H H4 := f3.trans s4
      have hpcm : pc ≠ pm := (ne_live q2 nc).symm
      have npm := g1.free nm
      have npc := (g1.trans s2).free nc
      have npl := f3.free nl
      have hne : (pa i).1 ≠ (pa i).2 := fun z => by rw [z, h7] at h5; unfold tgP at h5; omega
      have ol : (pa i).2 ≠ pl := ne_live h6 npl
      have or : (pa i).2 ≠ pr := ne_live h6 npr
      have om : (pa i).2 ≠ pm := ne_live h6 npm
      have oc : (pa i).2 ≠ pc := ne_live h6 npc
      have rm : pr ≠ pm := ne_live hpr nm
      have rc : pr ≠ pc := ne_live (s2.at hpr) nc
      have lm : pm ≠ pl := ne_live (s3.at q2) nl
      have lc : pc ≠ pl := ne_live q3 nl
      have lensum := lens_sum_le ks cap (ks i)
      rw [ok.sum i hi] at lensum
      have lensge := lens_sum_ge ks cap (ks i)
      rw [ok.sum i hi] at lensge
      have lenprod := Nat.le_trans (lens_prod_le ks cap (ks i)) (ok.prod i hi)
      have sle := ok.le i hi
      have few := ok.few i hi
      have elr : (rowsK ks outs cap (ks i)).length = (lensK ks cap (ks i)).length := by simp [rowsK, lensK]
      have ell : (lensK ks cap (ks i)).length = (ks i).src.length := by simp [lensK]
      have rowlen : ∀ (q : Nat) r c, (rowsK ks outs cap (ks i))[q]? = some r → (lensK ks cap (ks i))[q]? = some c → r.length = c := by
        intro q r c hr hc'
        unfold rowsK at hr
        unfold lensK at hc'
        rw [List.getElem?_map] at hr hc'
        cases e : (ks i).src[q]? with
        | none => rw [e] at hr; cases hr
        | some s =>
          rw [e] at hr hc'
          cases hr
          cases hc'
          exact row_len hc (hfull s (List.mem_of_getElem? e))
      refine ⟨pl, rfl, ⟨_, .of q4⟩, for_it walk_list (fun j σ H' => ∃ (o4 o7 o8 o9 o10 o11 o12 : Option V) (mv cv : List V), σ = [some (.ref (pa i).1), some (iV cap), some (.int first), some (.ref pr), o4, some (.ref pm), some (.ref pc), o7, o8, o9, o10, o11, o12] ∧
        Fm (· = (pa i).2) H H' ∧ H' pl = some (.lst (nsV (lacks (ks i) (outs i) cap))) ∧ H' pr = some (.lst rv) ∧ Rel (TI H') rv (rowsK ks outs cap (ks i)) ∧ H' (pa i).2 = some (.lst (isV (outs i ++ newNm first j))) ∧
        H' pm = some (.lst mv) ∧ Rel (NmAt H') mv (newNm first j) ∧ H' pc = some (.lst cv) ∧ Rel (TI H') cv (newCl (rowsK ks outs cap (ks i)) (lensK ks cap (ks i)) (outs i).length first j)) ?_ (fun j σ H' _ ⟨_, _, _, _, _, _, _, _, _, _, _, h, _⟩ => .of h) ?_ ?_⟩
      · refine ⟨_, _, _, _, _, _, _, [], [], rfl, f4.to, q4, s4.at (s3.at (s2.at hpr)), hrv.mono fun v x h => ((h.fm s2).fm s3).fm s4, ?_, s4.at (s3.at q2), .nil, s4.at q3, .nil⟩
        rw [f4.at h6]
        show _ = some (HO.lst (isV (outs i ++ [])))
        rw [List.append_nil]
      · rintro j y σ Ha Hb hj ⟨o4, o7, o8, o9, o10, o11, o12, mv, cv, rfl, fa, al, ar, arv, ao, am, amr, ac, acr⟩ ⟨rfl, hy⟩
        obtain ⟨t, ht, rfl⟩ := nsV_get hy
        have hjl : j < lackN (ks i) (outs i) cap := by simpa [lacks] using hj
        have et : t = (outs i).length + 1 + j := by
          unfold lacks at ht
          rw [List.getElem?_map, List.getElem?_range hjl] at ht
          exact (Option.some.inj ht).symm
        have emv : mv.length = j := by rw [amr.1, newNm_length]
        have hself := fa.at h1 hne
        have hkb := pks_after hk hi fa ao
        have htm : t ≤ min cap (ks i).size := by unfold lackN at hjl; omega
        have wle := Nat.le_trans (ways_le_prod (lensK ks cap (ks i)) t) lenprod
        refine ⟨_, rfl, _, rfl, _, _, rfl, .inl (.of am), first, (j : Int), rfl, by rw [emv], ?_⟩
        refine ⟨_, rfl, _, _, _, rfl, hself, rfl, _, rfl, φ, pa, n, ks, _, i, cap, rfl, hkb, ok, hi, fun p5 H5 n5 s5 q5 => ?_⟩
        refine ⟨_, rfl, p5, _, t, rfl, q5, by omega, by omega, by omega, by omega, by omega, fun p6 H6 ys s6 q6 r6 => ?_⟩
        have hyl : ys.length = ways (lensK ks cap (ks i)) t := by rw [r6.1, chM_length]
        have g6 := s5.trans s6
        refine ⟨p6, rfl, ⟨_, .of q6⟩, lc_all walk_list (M := No) (fun q y H' => ∃ m, ((chM (lensK ks cap (ks i)) t).map (mAt (rowsK ks outs cap (ks i))))[q]? = some m ∧ TI H' y m) ?_ (fun _ z => z.elim) (fun H' f' => .of (Sm.at f' q6)) (fun i y N H H' ⟨m, e, h⟩ f => ⟨m, e, h.fm f⟩) ?_ ?_⟩
        · rw [hyl, sizeLine_eq]; omega
        · rintro q y Hc Hd' Qy hq fc ⟨rfl, hy⟩ kq
          obtain ⟨c, hcc, b1, rfl, h1b⟩ := r6.get hy
          have hcm := chM_mem (List.mem_of_getElem? hcc)
          have g7 := g6.trans fc
          refine ⟨rfl, _, rfl, _, rfl, pr, b1, rv, rowsK ks outs cap (ks i), c, rfl, Sm.at g7 ar, arv.mono fun v x h => h.fm g7, Sm.at fc h1b, by rw [hcm.1, elr], by omega, fun q' r k' hr hk' => ?_, fun p7 H7 s7 q7 => kq _ H7 s7 ⟨mAt (rowsK ks outs cap (ks i)) c, ?_, p7, rfl, q7⟩⟩
          · have hq' : q' < (lensK ks cap (ks i)).length := by rw [← elr]; exact (List.getElem?_eq_some_iff.mp hr).1
            have e := List.getElem?_eq_getElem hq'
            have h1 := rowlen q' r _ hr e
            have h2 := hcm.2.2 q' _ _ hk' e
            omega
          · rw [List.getElem?_map, hcc]; rfl
        rintro p7 zs H7 n7 f7 q7 hz7 hh7
        refine ⟨p7, _, rfl, .inl ⟨.of q7, fun p8 n8 => upd_new n8 fun H8 s8 q8 => ?_⟩⟩
        have g8 : Sm Hb H8 := (g6.trans f7).trans s8
        -- the clauses
        have hzs : Rel (TI H8) zs ((chM (lensK ks cap (ks i)) t).map (mAt (rowsK ks outs cap (ks i)))) := by
          refine ⟨by rw [hz7, hyl, List.length_map, chM_length], fun q v x hv hx => ?_⟩
          obtain ⟨m, e, h⟩ := hh7 q v hv
          rw [hx] at e
          cases e
          exact h.fm s8
        refine ⟨_, rfl, .inl ⟨rfl, _, .of (g8.at ac)⟩, _, rfl, p8, rfl, ⟨_, .of q8⟩, lc_all walk_tup (M := No) (fun q y H' => ∃ m, ((chM (lensK ks cap (ks i)) t).map (clK (rowsK ks outs cap (ks i)) (first + (j : Int))))[q]? = some m ∧ TI H' y m) ?_ (fun _ z => z.elim) (fun H' f' => .of (Sm.at f' q8)) (fun i y N H H' ⟨m, e, h⟩ f => ⟨m, e, h.fm f⟩) ?_ ?_⟩
        · rw [hz7, hyl, sizeLine_eq]; omega
        · rintro q y Hc Hd' Qy hq fc ⟨rfl, hy⟩ kq
          obtain ⟨m, hm, a1, rfl, ha1⟩ := hzs.get hy
          have hcl : ∃ c, (chM (lensK ks cap (ks i)) t)[q]? = some c ∧ mAt (rowsK ks outs cap (ks i)) c = m := by
            rw [List.getElem?_map] at hm
            exact Option.map_eq_some_iff.mp hm
          obtain ⟨c, hcc, rfl⟩ := hcl
          have hml : (mAt (rowsK ks outs cap (ks i)) c).length ≤ 12 := by
            have := List.length_filterMap_le (mF (rowsK ks outs cap (ks i)) c) (List.range (rowsK ks outs cap (ks i)).length)
            rw [List.length_range] at this
            unfold mAt
            omega
          refine ⟨rfl, _, rfl, a1, rfl, ⟨_, .of (Sm.at fc ha1)⟩, lc_all walk_tup (M := No) (fun r y H' => ∃ x, ((mAt (rowsK ks outs cap (ks i)) c).map fun m => 0 - m)[r]? = some x ∧ y = .int x) ?_ (fun _ z => z.elim) (fun H' f' => .of (Sm.at f' (Sm.at fc ha1))) (fun i y N H H' h f => h) ?_ ?_⟩
          · rw [List.length_map, sizeLine_eq]; omega
          · rintro r y He Hf Qy hr fe ⟨rfl, hy⟩ kr
            obtain ⟨m, hm, rfl⟩ := isV_get hy
            exact ⟨rfl, _, rfl, _, _, rfl, rfl, kr _ _ .refl ⟨0 - m, by rw [List.getElem?_map, hm]; rfl, rfl⟩⟩
          · rintro p9 zs9 H9 n9 f9 q9 hz9 hh9
            have e9 := ext_isV (ns := (mAt (rowsK ks outs cap (ks i)) c).map fun m => 0 - m) (by rw [hz9]; simp) hh9
            rw [e9] at q9
            refine ⟨_, rfl, szN, fun p10 n10 => upd_new n10 fun H10 s10 q10 => ?_⟩
            refine ⟨p9, p10, _, _, rfl, rfl, s10.at q9, q10, ?_, fun p11 n11 => upd_new n11 fun H11 s11 q11 => ?_⟩
            · rw [List.length_map, List.length_map, sizeLine_eq]
              show _ + 1 ≤ _
              omega
            refine ⟨p11, _, rfl, .inl ⟨.of q11, fun p12 n12 => upd_new n12 fun H12 s12 q12 => ?_⟩⟩
            refine kq _ H12 (((Fm.trans f9 s10).trans s11).trans s12) ⟨clK (rowsK ks outs cap (ks i)) (first + (j : Int)) c, ?_, p12, rfl, ?_⟩
            · rw [List.getElem?_map, hcc]; rfl
            · rw [q12]
              show some (HO.tup (isV _ ++ [V.int (first + (j : Int))])) = some (HO.tup (isV (clK _ _ _)))
              unfold clK
              rw [isV, isV, List.map_append]; rfl
        rintro p13 zs13 H13 n13 f13 q13 hz13 hh13
        have g13 : Sm Hb H13 := g8.trans f13
        have hzs13 : Rel (TI H13) zs13 ((chM (lensK ks cap (ks i)) t).map (clK (rowsK ks outs cap (ks i)) (first + (j : Int)))) := by
          refine ⟨by rw [hz13, hz7, hyl, List.length_map, chM_length], fun q v x hv hx => ?_⟩
          obtain ⟨m, e, h⟩ := hh13 q v hv
          rw [hx] at e
          cases e
          exact h
        have lcv : cv.length ≤ 64 := by
          rw [acr.1, newCl_length]
          exact Nat.le_trans (sm_ways_le _ _ _) lenprod
        refine ⟨pc, p13, _, _, rfl, rfl, g13.at ac, q13, ?_, upd_put (g13.at ac) no_lst fun H14 f14 q14 => ?_⟩
        · rw [hz13, hz7, hyl, sizeLine_eq]; omega
        -- the name with its meaning
        have am14 := f14.at (g13.at am) hpcm.symm
        refine ⟨_, rfl, .inl ⟨rfl, _, .of am14⟩, _, rfl, _, rfl, szN, fun p15 n15 => upd_new n15 fun H15 s15 q15 => ?_⟩
        have am15 := s15.at am14
        refine ⟨pm, _, _, rfl, rfl, am15, by rw [emv, sizeLine_eq]; omega, upd_put am15 no_lst fun H16 f16 q16 => ?_⟩
        -- the out
        have ao16 := f16.at (s15.at (f14.at (g13.at ao) oc)) om
        have hs16 : H16 (pa i).1 = _ := f16.at (s15.at (f14.at (g13.at hself) fun z => ne_live h1 npc z)) fun z => ne_live h1 npm z
        refine ⟨_, rfl, _, _, _, _, _, rfl, hs16, hd.c_Growing, hd.n_Growing_outs, rfl, .inl ⟨rfl, _, .of ao16⟩, _, rfl, (pa i).2, _, _, rfl, rfl, ao16, ?_, upd_put ao16 no_lst fun H17 f17 q17 => ?_⟩
        · rw [isV_len, List.length_append, newNm_length, sizeLine_eq]; omega
        have ff : Fm (· = (pa i).2) H H16 := ((((fa.trans g13.to).over1 npc f14).trans s15.to).over1 npm f16)
        have tail : Fm (fun b => b = pc ∨ b = pm ∨ b = (pa i).2) Hb H17 :=
          (((g13.to.trans (f14.mono fun b _ h => .inl h)).trans s15.to).trans (f16.mono fun b _ h => .inr (.inl h))).trans (f17.mono fun b _ h => .inr (.inr h))
        refine ⟨_, _, _, _, _, _, _, _, cv ++ zs13, rfl, ff.trans f17, tail.at al fun z => ?_, tail.at ar fun z => ?_, arv.mono fun v x h => h.fm tail, ?_, f17.at q16 om.symm, ?_, ?_, ?_⟩
        · rcases z with z | z | z
          · exact lc z.symm
          · exact lm z.symm
          · exact ol z.symm
        · rcases z with z | z | z
          · exact rc z
          · exact rm z
          · exact or z.symm
        · rw [q17, newNm_succ, ← List.append_assoc]
          show some (HO.lst (isV _ ++ [V.int (first + (j : Int))])) = some (HO.lst (isV _))
          simp [isV]
        · rw [newNm_succ]
          exact (amr.mono fun v x h => h.fm tail).snoc ⟨p15, p8, rfl, f17.tups _ _ (f16.tups _ _ q15)⟩
        · exact f17.at (f16.at (s15.at q14) hpcm) oc.symm
        · show Rel _ _ (newCl _ _ _ _ j ++ (chM _ ((outs i).length + 1 + j)).map _)
          rw [← et]
          refine (acr.mono fun v x h => h.fm tail).app (hzs13.mono fun v x h => ?_)
          exact (((h.fm f14).fm s15).fm f16).fm f17
      · rintro σ Ha ⟨o4, o7, o8, o9, o10, o11, o12, mv, cv, rfl, fa, al, ar, arv, ao, am, amr, ac, acr⟩
        have e : (nsV (lacks (ks i) (outs i) cap)).length = lackN (ks i) (outs i) cap := by simp [lacks]
        rw [e] at ao amr acr
        refine ⟨_, rfl, _, rfl, szN, fun pt nt => upd_new nt fun Hz sz qz => ?_⟩
        exact k pt pm pc mv cv Hz npm npc hpcm.symm (fa.trans sz.to) (sz.at ao) qz (sz.at am) (amr.mono fun v x h => h.fm sz) (sz.at ac) (acr.mono fun v x h => h.fm sz)
end
end K59
set_option Elab.async false
set_option linter.all false
set_option maxRecDepth 100000
set_option maxHeartbeats 4000000
namespace K59
open PySem PySem.Spec PyProof.Rows L2
/-- the refs of knots one behind another -/
def knV (pa : Nat → Addr × Addr) (a n : Nat) : List V := (List.range n).map fun j => V.ref (pa (a + j)).1
theorem knV_app (pa : Nat → Addr × Addr) (a n m : Nat) : knV pa a n ++ knV pa (a + n) m = knV pa a (n + m) := by
  unfold knV
  rw [List.range_add, List.map_append, List.map_map]
  congr 1
  refine List.map_congr_left fun j _ => ?_
  show _ = V.ref (pa (a + (n + j))).1
  rw [Nat.add_assoc]
theorem knV_eq {pa pa' : Nat → Addr × Addr} {a n : Nat} (h : ∀ j, j < a + n → pa' j = pa j) : knV pa' a n = knV pa a n :=
  List.map_congr_left fun j hj => by rw [h _ (by have := List.mem_range.mp hj; omega)]
/-- what gathering leaves -/
structure Gat (Ob : ObT) (tg : Nat → Nat) (φ : Addr → Nat) (H : Hp) (pa : Nat → Addr × Addr) (af : Addr) (fv : List V) (a : Nat) (φ' : Addr → Nat) (H' : Hp) (pa' : Nat → Addr × Addr) (g : KS) : Prop where
  fm : Fm (· = af) H H'
  ext : Ext φ φ' H
  live : Live φ' H'
  same : ∀ j, j < a → pa' j = pa j
  new : ∀ j, a ≤ j → j < g.n → KnAt Ob tg φ' H' pa' j (g.ks j) []
  found : H' af = some (.lst (fv ++ knV pa' a (g.n - a)))
section
variable {P : Program} {w : World} {K : PySem.W.Frag} {mg : Str → Option Value} {base : Heap}
theorem sc_gather : FnScope ["part", "marks", "found", "one", "sources", "at", "many"] ["part", "marks", "found"] (defScope s_gather) := ⟨rfl, rfl, rfl, by decide +kernel, rfl, by decide +kernel, by decide +kernel⟩
def spGather (d : Nat) : Sp := fun vs H Q _ => ∃ (v : V) (p : Part) (am af : Addr) (ms : List Int) (fv : List V) (φ : Addr → Nat) (pa : Nat → Addr × Addr) (g : KS), vs = [v, .ref am, .ref af] ∧ okD d p ∧ d ≤ DP ∧ PartAt H v p ∧ H am = some (.lst (isV ms)) ∧ p.sz ≤ ms.length ∧ ms.length ≤ 1000 ∧ H af = some (.lst fv) ∧ fv.length + p.nk ≤ 1000 ∧
  φ af = 9 ∧ am ≠ af ∧ Live φ H ∧
  ∀ φ' pa' H', Gat (GOb K) tgP φ H pa af fv g.n φ' H' pa' (p.gat ms g).1 → Q (srcV pa' (p.gat ms g).2) H'
theorem cal_gather' (hd : Hd K mg) : ∀ d, C8.Cal P w K mg base (d + 14) "gather" (spGather (K := K) d) [] := by
  intro d
  induction d with
  | zero =>
    obtain ⟨fd, F⟩ := hd.d_gather
    exact mk_cal F hd.g_gather (F.bindsN fun _ _ _ _ _ _ us hl => match us, hl with | [_, _, _], _ => rfl) sc_gather (fun vs H Q E h => by obtain ⟨_, _, _, _, _, _, _, _, _, _, h, _⟩ := h; exact h.elim) (fun cdv A outer s H vs Q E hr h => by obtain ⟨_, _, _, _, _, _, _, _, _, _, h, _⟩ := h; exact h.elim)
  | succ d ih_gather =>
    obtain ⟨fd, F⟩ := hd.d_gather
    refine mk_cal F hd.g_gather (F.bindsN fun _ _ _ _ _ _ us hl => match us, hl with | [_, _, _], _ => rfl) sc_gather (fun vs H Q E h => ?_) (fun cdv A outer s H vs Q E hr h => ?_)
    · obtain ⟨_, _, _, _, _, _, _, _, _, rfl, _⟩ := h; rfl
    · obtain ⟨v, p, am, af, ms, fv, φ, pa, g, rfl, ok, hdl, hp, ham, hsz, hml, haf, hfl, hφ, hne, lv, k⟩ := h
      refine ⟨_, (pss_cons (ps_if (pt_val (pe_callB call_isi (by rfl) hd.f_isinstance (by decide +kernel) (pa_cons (pv 0) (pa_cons (pe_bltn (v := .ty "int") rfl hd.f_int (by decide +kernel) rfl) pa_nil)))) (pss_one (ps_ret (pe_ix ix_list (pv 1) pe_int (fun _ _ => rfl)))) pss_nil)
    (pss_cons (ps_par (i := 4) (j := 5) rfl sc_gather.nd rfl rfl (by decide) rfl rfl (pa_cons (pe_lst pa_nil) (pa_cons pe_int pa_nil)) rfl)
    (pss_cons (ps_for PassesOwn.never rfl (pi_tup (pe_slice sl_tup (pv 0) (po_some pe_int) po_none)) (pg_name (i := 3) sc_gather.nd rfl (Or.inl rfl))
    (pss_cons (ps_set (i := 6) sc_gather.nd rfl (Or.inl rfl) (C8.pe_c (cal_size_of hd) hr (by first | decide | omega) rfl (pa_cons (pv 3) pa_nil)))
    (pss_cons (ps_expr (pe_bm PySem.F.plainAttrs_list PySem.F.slot_list_append PySem.F.type_list_append mt_append (pv 4) (pa_cons (C8.pe_c ih_gather hr (by first | decide | omega) rfl (pa_cons (pv 3) (pa_cons (pe_slice sl_list (pv 1) (po_some (pv 5)) (po_some (pe_op op_add (pv 5) (pv 6)))) (pa_cons (pv 2) pa_nil)))) pa_nil)))
    (pss_one (ps_aug (i := 5) sc_gather.nd rfl (Or.inl rfl) (pv 6) ip_add)))))
    (pss_cons (ps_expr (pe_bm PySem.F.plainAttrs_list PySem.F.slot_list_append PySem.F.type_list_append mt_append (pv 2) (pa_cons (C8.pe_mk (cal_Growing hd) hr (by first | decide | omega) rfl (pa_cons (pv 4) pa_nil)) pa_nil)))
    (pss_one (ps_ret (pe_ix ix_list (pv 2) (pe_un un_neg pe_int) (fun _ _ => rfl)))))))), ?_⟩
      cases p with
      | one =>
        rw [PartAt] at hp
        subst hp
        refine ⟨_, rfl, _, _, _, _, _, rfl, .ty _, .base (.int _), kit_ty (r := true) (by decide +kernel), _, rfl, ifT rfl ?_⟩
        have h0 : 0 < ms.length := hsz
        refine ⟨_, rfl, am, _, _, V.int (ms.headD 0), rfl, rfl, .of ham, atI_nat (j := 0) ?_, k φ pa H ⟨.refl, .refl, lv, fun _ _ => rfl, fun j h1 h2 => ?_, ?_⟩⟩
        · rw [List.getElem?_map]
          cases ms with
          | nil => exact absurd h0 (by decide)
          | cons m ms => rfl
        · have h2 : j < g.n := h2
          omega
        · show _ = some (HO.lst (fv ++ knV pa g.n (g.n - g.n)))
          rw [Nat.sub_self, haf]
          show _ = some (HO.lst (fv ++ []))
          rw [List.append_nil]
      | sums ps =>
        have hp0 := hp
        rw [PartAt] at hp
        obtain ⟨a, vs, rfl, ha, hps⟩ := hp
        have hlen := hps.len
        refine ⟨_, rfl, _, _, _, _, _, rfl, .ty _, .base (.tup ha), kit_ty (r := false) (by decide +kernel), _, rfl, ifF rfl ?_⟩
        refine ⟨szN, fun p1 n1 => upd_new n1 fun H1 s1 q1 => ?_⟩
        refine ⟨_, _, rfl, ?_⟩
        refine ⟨_, rfl, _, rfl, a, _, rfl, .of (s1.at ha), cut_tail_ne _ _, fun q nq => upd_new nq fun H2 s2 q2 => ?_⟩
        rw [cut_tail] at q2
        have f2 : Sm H H2 := s1.trans s2
        have hpf : p1 ≠ af := (ne_live haf n1).symm
        have nq0 := s1.free nq
        have o60 := ok.2.1
        refine ⟨q, rfl, ⟨_, .of q2⟩, for_it walk_tup (fun i σ H' => ∃ (o3 o6 : Option V) (φi : Addr → Nat) (pai : Nat → Addr × Addr), σ = [some (.ref a), some (.ref am), some (.ref af), o3, some (.ref p1), some (iV (Part.szs (ps.take i))), o6] ∧
          Gat (GOb K) tgP φ H pa af fv g.n φi H' pai (Part.gats (ps.take i) ms g).1 ∧ H' p1 = some (.lst ((Part.gats (ps.take i) ms g).2.map (srcV pai))) ∧ φi p1 = 8 ∧ H' q = some (.tup vs)) ?_ (fun i σ H' _ ⟨_, _, _, _, _, _, _, _, h⟩ => .of h) ?_ ?_⟩
        · refine ⟨none, none, updA φ p1 8, pa, rfl, ⟨f2.to, .one n1, (lv.fm f2).one (live_of (s2.at q1)), fun _ _ => rfl, fun j h1 h2 => ?_, ?_⟩, s2.at q1, updA_same, q2⟩
          · have h2 : j < g.n := h2
            omega
          · show _ = some (HO.lst (fv ++ knV pa g.n (g.n - g.n)))
            rw [Nat.sub_self, f2.at haf]
            show _ = some (HO.lst (fv ++ []))
            rw [List.append_nil]
        · rintro i y σ Ha Hb hi ⟨o3, o6, φi, pai, rfl, G, hp1, hφ1, hq⟩ ⟨rfl, hy⟩
          obtain ⟨pt, hpt, hpa⟩ := hps.get hy
          have hpa' := hpa.fm G.fm
          have okp := ok.2.2 pt (List.mem_of_getElem? hpt)
          refine ⟨_, rfl, y, pt, rfl, okp.le (by omega), by decide, hpa', fun H3 s3 => ?_⟩
          have gn := gats_n (ps.take i) ms g
          have gn2 := nks_take_le ps (i + 1)
          rw [take_snoc hpt, nks_eq, List.map_append, List.sum_append, ← nks_eq] at gn2
          have gn3 : ((List.map Part.nk [pt]).sum) = pt.nk := by simp
          rw [gn3] at gn2
          have gz := szs_take_le ps (i + 1)
          rw [take_snoc hpt, szs_snoc] at gz
          have hsz' : Part.szs ps ≤ ms.length := hsz
          have hfl' : fv.length + (Part.nks ps + 1) ≤ 1000 := hfl
          have am3 := s3.at (G.fm.at ham hne)
          refine ⟨_, rfl, .inl ⟨rfl, _, .of (s3.at hp1)⟩, _, rfl, _, rfl, _, rfl, _, rfl, _, rfl, _, rfl, _, _, rfl, rfl, _, rfl, am, _, rfl, .of am3, fun p4 n4 => upd_new n4 fun H4 s4 q4 => ?_⟩
          have q4' : H4 p4 = some (.lst (isV ((ms.drop (Part.szs (ps.take i))).take pt.sz))) := by
            rw [q4]
            show some (HO.lst (cutV (isV ms) (some ((Part.szs (ps.take i) : Nat) : Int)) (some ((Part.szs (ps.take i) + pt.sz : Nat) : Int)))) = _
            rw [cut_nat, show Part.szs (ps.take i) + pt.sz - Part.szs (ps.take i) = pt.sz by omega]
            simp [isV, List.map_take, List.map_drop]
          have s34 : Sm Hb H4 := s3.trans s4
          have hφf : φi af = 9 := by rw [G.ext af (live_of haf)]; exact hφ
          have haf4 := s34.at G.found
          refine ⟨_, rfl, y, pt, p4, af, _, _, φi, pai, (Part.gats (ps.take i) ms g).1, rfl, okp, by omega, (hpa'.fm s34), q4', ?_, ?_, haf4, ?_, hφf, ?_, G.live.fm s34, fun φ2 pa2 H5 G2 => ?_⟩
          · rw [List.length_take, List.length_drop]; omega
          · rw [List.length_take, List.length_drop]; omega
          · rw [List.length_append]
            simp only [knV, List.length_map, List.length_range]
            omega
          · exact (ne_live (s3.at G.found) n4).symm
          have hp5 := G2.fm.at (s34.at hp1) hpf
          refine ⟨p1, _, _, rfl, rfl, hp5, ?_, upd_put hp5 no_lst fun H6 f6 q6 => ?_⟩
          · rw [List.length_map, gats_len, sizeLine_eq, List.length_take]; omega
          refine ⟨_, rfl, _, rfl, _, _, rfl, rfl, ?_⟩
          have esn := gats_snoc (ps.take i) pt ms g
          have fa5 : Fm (· = af) Hb H5 := s34.to.trans G2.fm
          have hφ18 : φ2 p1 = 8 := by rw [G2.ext p1 (live_of (s34.at hp1))]; exact hφ1
          have gn4 := gat_n pt ((ms.drop (Part.szs (ps.take i))).take pt.sz) (Part.gats (ps.take i) ms g).1
          refine ⟨some y, some (iV pt.sz), φ2, pa2, ?_, ?_, ?_, hφ18, ?_⟩
          · show _ = [some (V.ref a), some (V.ref am), some (V.ref af), _, some (V.ref p1), some (iV (Part.szs (ps.take (i + 1)))), _]
            rw [take_snoc hpt, szs_snoc]; rfl
          · rw [take_snoc hpt, esn]
            refine ⟨((G.fm.trans fa5).over1 n1 f6), G.ext.trans G2.ext (G.fm.trans s34.to), G2.live.fm f6, fun j hj => ?_, fun j h1 h2 => ?_, ?_⟩
            · rw [G2.same j (by omega)]; exact G.same j hj
            · have h2 : j < (pt.gat ((ms.drop (Part.szs (ps.take i))).take pt.sz) (Part.gats (ps.take i) ms g).1).1.n := h2
              show KnAt _ _ _ _ _ _ ((pt.gat ((ms.drop (Part.szs (ps.take i))).take pt.sz) (Part.gats (ps.take i) ms g).1).1.ks j) _
              by_cases c : j < (Part.gats (ps.take i) ms g).1.n
              · rw [gat_keep pt _ _ j c]
                have h := (G.new j h1 c).mv fa5 (fun b hb => by rw [hb, hφf]; unfold tgP; omega) (fun b hb => G2.ext b (s34.live b hb)) (G2.same j c) fun j' hj' => G2.same j' (by
                  have := gats_low (ps.take i) ms g j h1 c _ hj' j' rfl
                  omega)
                exact h.fm f6 fun b hb => by rw [hb, hφ18]; unfold tgP; omega
              · exact (G2.new j (by omega) h2).fm f6 fun b hb => by rw [hb, hφ18]; unfold tgP; omega
            · rw [f6.at G2.found fun z => hpf z.symm]
              show some (HO.lst (fv ++ knV pai g.n ((Part.gats (ps.take i) ms g).1.n - g.n) ++ knV pa2 (Part.gats (ps.take i) ms g).1.n ((pt.gat _ (Part.gats (ps.take i) ms g).1).1.n - (Part.gats (ps.take i) ms g).1.n))) = some (HO.lst (fv ++ knV pa2 g.n ((pt.gat _ (Part.gats (ps.take i) ms g).1).1.n - g.n)))
              rw [← knV_eq (pa' := pa2) fun j hj => G2.same j (by omega), List.append_assoc]
              have e1 : (Part.gats (ps.take i) ms g).1.n = g.n + ((Part.gats (ps.take i) ms g).1.n - g.n) := by omega
              have e2 : knV pa2 (Part.gats (ps.take i) ms g).1.n = knV pa2 (g.n + ((Part.gats (ps.take i) ms g).1.n - g.n)) := congrArg (knV pa2) e1
              rw [e2, knV_app]
              refine congrArg (fun z => some (HO.lst (fv ++ knV pa2 g.n z))) ?_
              omega
          · rw [take_snoc hpt, esn, q6]
            show some (HO.lst (List.map (srcV pai) (Part.gats (ps.take i) ms g).2 ++ [srcV pa2 _])) = some (HO.lst (List.map (srcV pa2) ((Part.gats (ps.take i) ms g).2 ++ [_])))
            rw [List.map_append]
            have e : List.map (srcV pa2) (Part.gats (ps.take i) ms g).2 = List.map (srcV pai) (Part.gats (ps.take i) ms g).2 := srcV_eq (k := ⟨(Part.gats (ps.take i) ms g).2, 0⟩) fun j hj => G2.same j (gats_src (ps.take i) ms g _ hj j rfl).2
            rw [e]; rfl
          · exact f6.tups _ _ (fa5.tups _ _ hq)
        · rintro σ Ha ⟨o3, o6, φi, pai, rfl, G, hp1, hφ1, hq⟩
          rw [List.take_of_length_le (by omega)] at G hp1
          have gn := gats_n ps ms g
          have hfl' : fv.length + (Part.nks ps + 1) ≤ 1000 := hfl
          have hφf : φi af = 9 := by rw [G.ext af (live_of haf)]; exact hφ
          refine ⟨_, rfl, .inl ⟨rfl, _, .of G.found⟩, _, rfl, fun x dx nx ndx hdx => ?_⟩
          have nx' : upd Ha dx (.own x) x = none := by rw [upd_ne (Ne.symm hdx)]; exact nx
          have g0 : Sm Ha (upd (upd Ha dx (.own x)) x (.ins (He.ga K "Growing") dx [])) := (Fm.new ndx).trans (.new nx')
          refine ⟨Ha, x, dx, p1, φi, pai, (Part.gats ps ms g).1.ks, fun _ => [], (Part.gats ps ms g).2, rfl, upd_same, nx, g0, hp1, fun j hj => ?_, by rw [gats_len]; omega, fun o H1 no hox f1 qx qo => ⟨rfl, ?_⟩⟩
          · have h := gats_src ps ms g _ hj j rfl
            exact G.new j h.1 h.2
          have hf1 := f1.at G.found
          refine ⟨af, _, _, rfl, rfl, hf1, ?_, upd_put hf1 no_lst fun H2 f2 q2 => ?_⟩
          · rw [List.length_append, sizeLine_eq]
            simp only [knV, List.length_map, List.length_range]
            omega
          have hxf : x ≠ af := fun z => by rw [z, G.found] at nx; cases nx
          have hof : o ≠ af := fun z => by rw [z, G.found] at no; cases no
          have h1f : p1 ≠ af := hpf
          refine ⟨_, rfl, _, rfl, af, _, _, _, rfl, rfl, .of q2, atI_last _ _, ?_⟩
          have key := k (updA (updA φi p1 0) o (tgP (Part.gats ps ms g).1.n)) (updN pai (Part.gats ps ms g).1.n (x, o)) H2
          rw [Part.gat] at key
          have e3 : srcV (updN pai (Part.gats ps ms g).1.n (x, o)) (.kn (Part.gats ps ms g).1.n) = .ref x := by
            show V.ref (updN pai _ _ _).1 = _
            rw [updN_same]
          dsimp only at key
          rw [e3] at key
          refine key ⟨(G.fm.trans f1.to).trans f2, fun b hb => ?_, fun b hb => ?_, fun j hj => ?_, fun j h1 h2 => ?_, ?_⟩
          · have hbo : b ≠ o := fun z => G.fm.live b hb (by rw [z]; exact no)
            have hb1 : b ≠ p1 := fun z => hb (by rw [z]; exact n1)
            rw [updA_ne hbo, updA_ne hb1]
            exact G.ext b hb
          · refine f2.live b ?_
            by_cases c : b = o
            · rw [c]; exact live_of qo
            · rw [updA_ne c] at hb
              by_cases c1 : b = p1
              · rw [c1]; exact live_of (f1.at hp1)
              · rw [updA_ne c1] at hb
                exact f1.live b (G.live b hb)
          · rw [updN_ne (by omega)]; exact G.same j hj
          · have h2 : j < (Part.gats ps ms g).1.n + 1 := h2
            have hop : o ≠ p1 := fun z => by rw [z, hp1] at no; cases no
            have hxo : x ≠ o := hox.symm
            have zx : φi x = 0 := G.live.zero nx
            have zo : φi o = 0 := G.live.zero no
            have hxp : x ≠ p1 := fun z => by rw [z, hφ1] at zx; cases zx
            by_cases c : j = (Part.gats ps ms g).1.n
            · subst c
              show KnAt _ _ _ _ _ _ (updN _ _ _ _) _
              rw [updN_same]
              refine ⟨⟨_, p1, ?_, ⟨dx, rfl⟩, ?_, ?_⟩, ?_, ?_, ?_⟩
              · rw [updN_same]
                show H2 x = _
                rw [f2.at qx hxf, gats_sz, ← szs_eq]
                rfl
              · rw [f2.at (f1.at hp1) h1f]
                refine congrArg (fun z => some (HO.lst z)) (srcV_eq (k := ⟨(Part.gats ps ms g).2, 0⟩) fun j hj => ?_).symm
                exact updN_ne (Nat.ne_of_lt (gats_src ps ms g _ hj j rfl).2)
              · rw [updA_ne (Ne.symm hop), updA_same]
              · rw [updN_same]
                show updA (updA φi p1 0) o _ x = 0
                rw [updA_ne hxo, updA_ne hxp]
                exact zx
              · rw [updN_same]
                exact f2.at qo hof
              · rw [updN_same]
                exact updA_same
            · have hj2 : j < (Part.gats ps ms g).1.n := by omega
              show KnAt _ _ _ _ _ _ (updN _ _ _ _) _
              rw [updN_ne c]
              have h : KnAt (GOb K) tgP (updA φi p1 0) Ha pai j ((Part.gats ps ms g).1.ks j) [] := (G.new j h1 hj2).retag fun b hb => by
                by_cases c1 : b = p1
                · rw [c1, hφ1] at hb
                  unfold tgP at hb
                  omega
                · exact updA_ne c1
              have h' := h.mv (M := No) .refl (fun _ z => z.elim) (fun b hb => updA_ne (t := tgP (Part.gats ps ms g).1.n) fun z => hb (by rw [z]; exact no)) (updN_ne (x := (x, o)) c) fun j' hj' => updN_ne (by
                have := gats_low ps ms g j h1 hj2 _ hj' j' rfl
                omega)
              refine h'.fm (M := (· = af)) (f1.to.trans f2) fun b hb => ?_
              rw [hb, updA_ne hof.symm, updA_ne h1f.symm, hφf]
              unfold tgP; omega
          · show H2 af = some (HO.lst (fv ++ knV _ g.n ((Part.gats ps ms g).1.n + 1 - g.n)))
            rw [q2, show (Part.gats ps ms g).1.n + 1 - g.n = ((Part.gats ps ms g).1.n - g.n) + 1 by omega, ← knV_app]
            have e1 : g.n + ((Part.gats ps ms g).1.n - g.n) = (Part.gats ps ms g).1.n := by omega
            rw [e1, knV_eq (pa := pai) fun j hj => updN_ne (by omega), ← List.append_assoc]
            show _ = some (HO.lst (_ ++ [V.ref (updN pai (Part.gats ps ms g).1.n (x, o) ((Part.gats ps ms g).1.n + 0)).1]))
            rw [Nat.add_zero, updN_same]
theorem cal_gather (hd : Hd K mg) : C8.Cal P w K mg base 26 "gather" (spGather (K := K) DP) [] := cal_gather' hd DP
end
end K59
set_option Elab.async false
set_option linter.all false
set_option maxRecDepth 100000
set_option maxHeartbeats 4000000
namespace K59
open PySem PySem.Spec PyProof.Rows L2
/-! ### the state of a keeper, in plain Lean -/
structure Core where
  g : KS
  outs : Nat → List Int
  names : List Int
  clauses : List (List Int)
  coming : Int
/-- what a deed may take back -/
structure Dyn where
  top : Option Int
  cap : Nat
  marks : List Int
  cur : List Nat
def growK (cap : Nat) (c : Core) (i : Nat) : Core :=
  let k := c.g.ks i
  let m := lackN k (c.outs i) cap
  { g := c.g, outs := updN c.outs i (c.outs i ++ newNm c.coming m), names := c.names ++ newNm c.coming m,
    clauses := c.clauses ++ newCl (rowsK c.g.ks c.outs cap k) (lensK c.g.ks cap k) (c.outs i).length c.coming m, coming := c.coming + m }
def growAll (cap : Nat) (c : Core) (is : List Nat) : Core := is.foldl (growK cap) c
theorem growAll_snoc (cap : Nat) (c : Core) (is : List Nat) (i : Nat) : growAll cap c (is ++ [i]) = growK cap (growAll cap c is) i := by
  unfold growAll; rw [List.foldl_append]; rfl
theorem growAll_g (cap : Nat) (is : List Nat) : ∀ c : Core, (growAll cap c is).g = c.g := by
  induction is with
  | nil => intro c; rfl
  | cons i is ih => intro c; exact ih _
/-- knots may be grown one behind another -/
def Ready (cap : Nat) : Core → List Nat → Prop
  | _, [] => True
  | c, i :: is => i < c.g.n ∧ (∀ s ∈ (c.g.ks i).src, Full c.g.ks c.outs cap s) ∧ Ready cap (growK cap c i) is
theorem Ready.at {cap : Nat} : ∀ {is : List Nat} {c : Core}, Ready cap c is → ∀ {j i : Nat}, is[j]? = some i → i < c.g.n ∧ ∀ s ∈ (c.g.ks i).src, Full c.g.ks (growAll cap c (is.take j)).outs cap s
  | [], c, _, j, i, h => by simp at h
  | a :: is, c, r, j, i, h => by
    cases j with
    | zero => cases h; exact ⟨r.1, r.2.1⟩
    | succ j => exact Ready.at (is := is) (c := growK cap c a) r.2.2 (by simpa using h)
/-- no knot has more outs than marks -/
def OutsLe (c : Core) : Prop := ∀ i, i < c.g.n → (c.outs i).length ≤ (c.g.ks i).size
theorem OutsLe.grow {cap i : Nat} {c : Core} (h : OutsLe c) : OutsLe (growK cap c i) := by
  intro j hj
  have hj' := h j hj
  show (updN c.outs i _ j).length ≤ (c.g.ks j).size
  by_cases e : j = i
  · subst e
    rw [updN_same, List.length_append, newNm_length]
    unfold lackN
    omega
  · rw [updN_ne e]; exact hj'
theorem OutsLe.all {cap : Nat} : ∀ {is : List Nat} {c : Core}, OutsLe c → OutsLe (growAll cap c is)
  | [], c, h => h
  | i :: is, c, h => OutsLe.all (is := is) (c := growK cap c i) h.grow
/-- few clauses, few names -/
theorem growK_clauses {n cap i : Nat} {c : Core} (o : KsOk c.g.n c.g.ks) (hi : i < c.g.n) : (growK cap c i).clauses.length = c.clauses.length + aheadN c.g.ks (c.g.ks i) (c.outs i) cap := by
  show (c.clauses ++ newCl _ _ _ _ _).length = _
  rw [List.length_append, newCl_length]; rfl
theorem growK_names {cap i : Nat} {c : Core} : (growK cap c i).names.length = c.names.length + lackN (c.g.ks i) (c.outs i) cap := by
  show (c.names ++ newNm _ _).length = _
  rw [List.length_append, newNm_length]
theorem growAll_few {cap : Nat} : ∀ (is : List Nat) (c : Core), KsOk c.g.n c.g.ks → (∀ i ∈ is, i < c.g.n) → (growAll cap c is).clauses.length ≤ c.clauses.length + 64 * is.length ∧ (growAll cap c is).names.length ≤ c.names.length + 12 * is.length
  | [], c, _, _ => ⟨Nat.le_refl _, Nat.le_refl _⟩
  | i :: is, c, o, h => by
    have hi := h i (List.mem_cons_self ..)
    obtain ⟨h1, h2⟩ := growAll_few (cap := cap) is (growK cap c i) o fun j hj => h j (List.mem_cons_of_mem _ hj)
    rw [growK_clauses (n := 0) o hi] at h1
    rw [growK_names] at h2
    have h3 := aheadN_le o hi (c.outs i) cap
    have h4 := o.le i hi
    have h5 : lackN (c.g.ks i) (c.outs i) cap ≤ 12 := by unfold lackN; omega
    rw [List.length_cons]
    exact ⟨by show (growAll cap (growK cap c i) is).clauses.length ≤ _; omega, by show (growAll cap (growK cap c i) is).names.length ≤ _; omega⟩
/-! ### the keeper in the heap -/
def curV (pa : Nat → Addr × Addr) (l : List Nat) : List V := l.map fun i => V.ref (pa i).1
theorem curV_eq {pa pa' : Nat → Addr × Addr} {l : List Nat} {n : Nat} (hl : ∀ i ∈ l, i < n) (h : ∀ i, i < n → pa' i = pa i) : curV pa' l = curV pa l :=
  List.map_congr_left fun i hi => by rw [h i (hl i hi)]
def DyAt (φ : Addr → Nat) (H : Hp) (pa : Nat → Addr × Addr) (v : V) (d : Dyn) : Prop :=
  ∃ t hm gl, v = .ref t ∧ H t = some (.tup [oV d.top, iV d.cap, .ref hm, .ref gl]) ∧ H hm = some (.lst (isV d.marks)) ∧ φ hm = 0 ∧ H gl = some (.lst (curV pa d.cur)) ∧ φ gl = 0
section
variable {φ φ' : Addr → Nat} {H H' : Hp} {pa pa' : Nat → Addr × Addr} {v : V} {d : Dyn} {M : Addr → Prop} {n : Nat}
theorem DyAt.mv (h : DyAt φ H pa v d) (f : Fm M H H') (hM : ∀ b, M b → φ b ≠ 0) (hφ : ∀ b, H b ≠ none → φ b = 0 → φ' b = 0) (hd : ∀ i ∈ d.cur, i < n) (hp : ∀ i, i < n → pa' i = pa i) : DyAt φ' H' pa' v d := by
  obtain ⟨t, hm, gl, e, h1, h2, h3, h4, h5⟩ := h
  refine ⟨t, hm, gl, e, f.tups _ _ h1, f.at h2 fun m => hM _ m h3, hφ _ (live_of h2) h3, ?_, hφ _ (live_of h4) h5⟩
  rw [curV_eq hd hp]
  exact f.at h4 fun m => hM _ m h5
theorem DyAt.fm (h : DyAt φ H pa v d) (f : Fm M H H') (hM : ∀ b, M b → φ b ≠ 0) : DyAt φ H' pa v d := by
  obtain ⟨t, hm, gl, e, h1, h2, h3, h4, h5⟩ := h
  exact ⟨t, hm, gl, e, f.tups _ _ h1, f.at h2 fun m => hM _ m h3, h3, f.at h4 fun m => hM _ m h5, h5⟩
end
/-- the addresses of a keeper -/
structure KA where
  kp : Addr
  dx : Addr
  hm : Addr
  gl : Addr
  me : Addr
  tc : Addr
  aa : Addr
  mv : List V
  cv : List V
  av : List V
def kpO (K : PySem.W.Frag) (a : KA) (c : Core) (d : Dyn) : HO := .ins (He.ga K "Keeper") a.dx [("coming", .int c.coming), ("held_marks", .ref a.hm), ("cap", iV d.cap), ("top", oV d.top), ("growers", .ref a.gl), ("meanings", .ref a.me), ("told_clauses", .ref a.tc), ("ahead", .ref a.aa)]
structure KpAt (K : PySem.W.Frag) (φ : Addr → Nat) (H : Hp) (pa : Nat → Addr × Addr) (a : KA) (c : Core) (d : Dyn) (ah : List Dyn) : Prop where
  obj : H a.kp = some (kpO K a c d)
  t1 : φ a.kp = 1
  t2 : φ a.me = 2
  t3 : φ a.tc = 3
  t4 : φ a.aa = 4
  t5 : φ a.hm = 0
  t6 : φ a.gl = 0
  hm : H a.hm = some (.lst (isV d.marks))
  gl : H a.gl = some (.lst (curV pa d.cur))
  me : H a.me = some (.lst a.mv)
  nm : Rel (NmAt H) a.mv c.names
  tc : H a.tc = some (.lst a.cv)
  cl : Rel (TI H) a.cv c.clauses
  aa : H a.aa = some (.lst a.av)
  dy : Rel (DyAt φ H pa) a.av ah
  ks : PKs K φ H pa c.g.n c.g.ks c.outs
/-- the tags of the program's own things -/
def PT (t : Nat) : Prop := t = 1 ∨ t = 2 ∨ t = 3 ∨ t = 4 ∨ ∃ i, t = tgP i
theorem PT.ne {t : Nat} (h : PT t) : t ≠ 0 := by
  rcases h with h | h | h | h | ⟨i, h⟩ <;> rw [h]
  · decide
  · decide
  · decide
  · decide
  · unfold tgP; omega
section
variable {K : PySem.W.Frag} {φ φ' : Addr → Nat} {H H' : Hp} {pa pa' : Nat → Addr × Addr} {a : KA} {c : Core} {d : Dyn} {ah : List Dyn} {M : Addr → Prop}
/-- a keeper in a later heap, where nothing of its own was changed -/
theorem KpAt.mv (k : KpAt K φ H pa a c d ah) (lo : Low c.g.ks c.g.n) (hd : ∀ i ∈ d.cur, i < c.g.n) (hah : ∀ e ∈ ah, ∀ i ∈ e.cur, i < c.g.n) (f : Fm M H H') (hM : ∀ b, M b → φ b ≠ 0 ∧ ¬ PT (φ b)) (hφ : Ext φ φ' H) (hp : ∀ i, i < c.g.n → pa' i = pa i) : KpAt K φ' H' pa' a c d ah := by
  obtain ⟨h1, t1, t2, t3, t4, t5, t6, h2, h3, h4, h5, h6, h7, h8, h9, h10⟩ := k
  have e : ∀ {b : Addr} {o : HO} {t : Nat}, H b = some o → φ b = t → φ' b = t := fun hb ht => by rw [hφ _ (live_of hb)]; exact ht
  refine ⟨f.at h1 fun m => (hM _ m).2 (.inl t1), e h1 t1, e h4 t2, e h6 t3, e h8 t4, e h2 t5, e h3 t6, f.at h2 fun m => (hM _ m).1 t5, ?_, f.at h4 fun m => (hM _ m).2 (.inr (.inl t2)), h5.mono fun v x h => h.fm f,
    f.at h6 fun m => (hM _ m).2 (.inr (.inr (.inl t3))), h7.mono fun v x h => h.fm f, f.at h8 fun m => (hM _ m).2 (.inr (.inr (.inr (.inl t4)))), ?_, ?_⟩
  · rw [curV_eq hd hp]; exact f.at h3 fun m => (hM _ m).1 t6
  · refine ⟨h9.1, fun i v x hv hx => ?_⟩
    exact (h9.2 i v x hv hx).mv f (fun b m => (hM b m).1) (fun b hb hz => e (t := 0) (o := (H b).get (Option.isSome_iff_ne_none.mpr hb)) (Option.some_get _).symm hz) (hah x (List.mem_of_getElem? hx)) hp
  · exact h10.mv lo f (fun b m => ⟨(hM b m).1, fun i _ z => (hM b m).2 (.inr (.inr (.inr (.inr ⟨i, z⟩))))⟩) hφ hp (fun _ _ => rfl) fun _ _ => rfl
theorem KpAt.sm (k : KpAt K φ H pa a c d ah) (f : Sm H H') : KpAt K φ H' pa a c d ah := by
  obtain ⟨h1, t1, t2, t3, t4, t5, t6, h2, h3, h4, h5, h6, h7, h8, h9, h10⟩ := k
  exact ⟨f.at h1, t1, t2, t3, t4, t5, t6, f.at h2, f.at h3, f.at h4, h5.mono fun v x h => h.fm f, f.at h6, h7.mono fun v x h => h.fm f, f.at h8, h9.mono fun v x h => h.fm f fun _ z => z.elim, h10.sm f⟩
end
end K59
set_option Elab.async false
set_option linter.all false
set_option maxRecDepth 100000
set_option maxHeartbeats 4000000
namespace K59
open PySem PySem.Spec PyProof.Rows L2
theorem cut_drop (xs : List V) (n : Nat) : cutV xs (some (n : Int)) none = xs.drop n := by
  unfold cutV
  rw [HT.sIx_nat, HT.sIx_none]
  by_cases c : n ≤ xs.length
  · rw [Nat.min_eq_left c, List.take_of_length_le (by rw [List.length_drop]; omega)]
  · rw [Nat.min_eq_right (by omega), List.drop_eq_nil_of_le (Nat.le_refl _), List.drop_eq_nil_of_le (i := n) (by omega)]; simp
theorem curV_get {pa : Nat → Addr × Addr} {l : List Nat} {j : Nat} {v : V} (h : (curV pa l)[j]? = some v) : ∃ i, l[j]? = some i ∧ v = .ref (pa i).1 := by
  unfold curV at h
  rw [List.getElem?_map] at h
  obtain ⟨i, e, q⟩ := Option.map_eq_some_iff.mp h
  exact ⟨i, e, q.symm⟩
section
variable {P : Program} {w : World} {K : PySem.W.Frag} {mg : Str → Option Value} {base : Heap}
theorem sc_Keeper_grow_all : FnScope ["self", "growers", "begun", "one", "meanings", "clauses"] ["self", "growers"] (defScope s_Keeper_grow_all) := ⟨rfl, rfl, rfl, by decide +kernel, rfl, by decide +kernel, by decide +kernel⟩
def spGrowAll : Sp := fun vs H Q _ => ∃ (gl : Addr) (φ : Addr → Nat) (pa : Nat → Addr × Addr) (a : KA) (c : Core) (d : Dyn) (ah : List Dyn) (is : List Nat), vs = [.ref a.kp, .ref gl] ∧ KpAt K φ H pa a c d ah ∧ H gl = some (.lst (curV pa is)) ∧ φ gl = 0 ∧
  KsOk c.g.n c.g.ks ∧ OutsLe c ∧ Ready d.cap c is ∧ 1 ≤ d.cap ∧ is.length ≤ 100 ∧ c.clauses.length ≤ 5000 ∧ c.names.length ≤ 5000 ∧
  ∀ p ncv nmv H', H p = none → Fm (fun b => PT (φ b)) H H' → KpAt K φ H' pa { a with cv := a.cv ++ ncv, mv := a.mv ++ nmv } (growAll d.cap c is) d ah → H' p = some (.lst ncv) → Q (.ref p) H'
theorem cal_Keeper_grow_all (hd : Hd K mg) : C8.Met P w K mg base 5 (He.ga K "Keeper") "grow_all" (spGrowAll (K := K)) [] := by
  obtain ⟨fd, F⟩ := hd.d_Keeper_grow_all
  refine mk_met F hd.c_Keeper hd.m_Keeper_grow_all (F.bindsN fun _ _ _ _ _ _ us hl => match us, hl with | [_, _], _ => rfl) sc_Keeper_grow_all (fun vs H Q E h => ?_) (fun cdv A outer s H vs Q E hr h => ?_)
  · obtain ⟨_, _, _, _, _, _, _, _, rfl, _⟩ := h; rfl
  · obtain ⟨gl, φ, pa, a, c, d, ah, is, rfl, kp, hgl, hφg, ok, ol, rd, hc, hil, hcl, hnl, k⟩ := h
    refine ⟨_, (pss_cons (ps_set (i := 2) sc_Keeper_grow_all.nd rfl (Or.inl rfl) (pe_callB call_len_seq (by rfl) hd.f_len PySem.boot_len (pa_cons (pe_fld (pv 0) rfl) pa_nil)))
    (pss_cons (ps_for PassesOwn.never rfl (pi_list (pv 1)) (pg_name (i := 3) sc_Keeper_grow_all.nd rfl (Or.inl rfl))
    (pss_cons (ps_asg (C8.pe_mt (cal_Growing_grow hd) hr (by first | decide | omega) (pv 3) (pa_cons (pe_fld (pv 0) rfl) (pa_cons (pe_fld (pv 0) rfl) pa_nil))) (pg_tup rfl (pgs_cons (pg_name (i := 4) sc_Keeper_grow_all.nd rfl (Or.inl rfl)) (pgs_cons (pg_name (i := 5) sc_Keeper_grow_all.nd rfl (Or.inl rfl)) pgs_nil))))
    (pss_cons (ps_expr (pe_bm PySem.F.plainAttrs_list PySem.F.slot_list_extend PySem.F.type_list_extend mt_extend (pe_fld (pv 0) rfl) (pa_cons (pv 4) pa_nil)))
    (pss_cons (ps_expr (pe_bm PySem.F.plainAttrs_list PySem.F.slot_list_extend PySem.F.type_list_extend mt_extend (pe_fld (pv 0) rfl) (pa_cons (pv 5) pa_nil)))
    (pss_one (ps_fldaug (pv 0) (pe_callB call_len_seq (by rfl) hd.f_len PySem.boot_len (pa_cons (pv 4) pa_nil)) in_add))))))
    (pss_one (ps_ret (pe_slice sl_list (pe_fld (pv 0) rfl) (po_some (pv 2)) po_none))))), ?_⟩
    have hcv := kp.cl.1
    have hmv := kp.nm.1
    refine ⟨_, rfl, _, _, _, _, _, rfl, kp.obj, hd.c_Keeper, hd.n_Keeper_told_clauses, rfl, _, _, rfl, .inl (.of kp.tc), ?_⟩
    refine ⟨_, rfl, gl, rfl, ⟨_, .of hgl⟩, for_it walk_list (fun j σ H' => ∃ (o3 o4 o5 : Option V) (ncv nmv : List V), σ = [some (.ref a.kp), some (.ref gl), some (iV a.cv.length), o3, o4, o5] ∧
      Fm (fun b => PT (φ b)) H H' ∧ KpAt K φ H' pa { a with cv := a.cv ++ ncv, mv := a.mv ++ nmv } (growAll d.cap c (is.take j)) d ah ∧ H' gl = some (.lst (curV pa is))) ?_ (fun j σ H' _ ⟨_, _, _, _, _, _, _, _, h⟩ => .of h) ?_ ?_⟩
    · refine ⟨none, none, none, [], [], rfl, .refl, ?_, hgl⟩
      rw [List.append_nil, List.append_nil]
      exact kp
    · rintro j y σ Ha Hb hj ⟨o3, o4, o5, ncv, nmv, rfl, fa, kj, hglj⟩ ⟨rfl, hy⟩
      obtain ⟨i, hi, rfl⟩ := curV_get hy
      obtain ⟨hin, hfull⟩ := rd.at hi
      have eg := growAll_g d.cap (is.take j) c
      have few := growAll_few (cap := d.cap) (is.take j) c ok fun i' hi' => by
        obtain ⟨q, hq⟩ := List.getElem?_of_mem hi'
        rw [List.getElem?_take] at hq
        split at hq
        · exact (rd.at hq).1
        · cases hq
      have hjl : (is.take j).length ≤ is.length := by rw [List.length_take]; omega
      have olj := OutsLe.all (cap := d.cap) (is := is.take j) ol
      have enext : growAll d.cap c (is.take (j + 1)) = growK d.cap (growAll d.cap c (is.take j)) i := by rw [take_snoc hi, growAll_snoc]
      rw [← eg] at ok hin hfull
      obtain ⟨cj, hcj⟩ : ∃ cj, cj = growAll d.cap c (is.take j) := ⟨_, rfl⟩
      rw [← hcj] at kj few olj ok hin hfull enext
      have oli := olj i hin
      have hile := ok.le i hin
      have kks := kj.ks
      obtain ⟨⟨h, sa, h1, ⟨dx, rfl⟩, h3, h4⟩, h5, h6, h7⟩ := kks i hin
      refine ⟨_, rfl, _, _, _, rfl, h1, rfl, _, rfl, _, _, _, _, _, rfl, kj.obj, hd.c_Keeper, hd.n_Keeper_cap, rfl, _, rfl, _, _, _, _, _, rfl, kj.obj, hd.c_Keeper, hd.n_Keeper_coming, rfl,
        φ, pa, cj.g.n, cj.g.ks, cj.outs, i, d.cap, cj.coming, rfl, kks, ok, hin, by omega, hc, hfull, fun t am ac mv cv H1 nam nac hne f1 ho ht ha hm hb hcc => ?_⟩
      refine ⟨t, _, rfl, .of ht, rfl, _, _, rfl, _, _, rfl, rfl, ?_⟩
      have kpi : a.kp ≠ (pa i).2 := fun z => by have := kp.t1; rw [z, h7] at this; unfold tgP at this; omega
      have mei : a.me ≠ (pa i).2 := fun z => by have := kp.t2; rw [z, h7] at this; unfold tgP at this; omega
      have tci : a.tc ≠ (pa i).2 := fun z => by have := kp.t3; rw [z, h7] at this; unfold tgP at this; omega
      have aai : a.aa ≠ (pa i).2 := fun z => by have := kp.t4; rw [z, h7] at this; unfold tgP at this; omega
      have mtc : a.me ≠ a.tc := fun z => by have h2 := kp.t2; have h3 := kp.t3; rw [z, h3] at h2; omega
      have kme : a.kp ≠ a.me := fun z => by have h2 := kp.t1; have h3 := kp.t2; rw [z, h3] at h2; omega
      have ktc : a.kp ≠ a.tc := fun z => by have h2 := kp.t1; have h3 := kp.t3; rw [z, h3] at h2; omega
      have ame : a.aa ≠ a.me := fun z => by have h2 := kp.t4; have h3 := kp.t2; rw [z, h3] at h2; omega
      have atc : a.aa ≠ a.tc := fun z => by have h2 := kp.t4; have h3 := kp.t3; rw [z, h3] at h2; omega
      have akp : a.aa ≠ a.kp := fun z => by have h2 := kp.t4; have h3 := kp.t1; rw [z, h3] at h2; omega
      have kj1 := f1.at kj.obj kpi
      have lcv : (a.cv ++ ncv).length ≤ 12000 := by rw [kj.cl.1]; omega
      have lmv : (a.mv ++ nmv).length ≤ 12000 := by rw [kj.nm.1]; omega
      have eml : mv.length = lackN (cj.g.ks i) (cj.outs i) d.cap := by rw [hm.1, newNm_length]
      have hml : mv.length ≤ 12 := by
        rw [eml]
        unfold lackN; omega
      have hcl2 : cv.length ≤ 64 := by
        rw [hcc.1, newCl_length]
        exact Nat.le_trans (sm_ways_le _ _ _) (Nat.le_trans (lens_prod_le _ _ _) (ok.prod i hin))
      have me1 := f1.at kj.me mei
      have tc1 := f1.at kj.tc tci
      have acme : ac ≠ a.me := (ne_live kj.me nac).symm
      have amme : am ≠ a.me := (ne_live kj.me nam).symm
      have amtc : am ≠ a.tc := (ne_live kj.tc nam).symm
      refine ⟨_, rfl, _, _, _, _, _, rfl, kj1, hd.c_Keeper, hd.n_Keeper_meanings, rfl, .inl ⟨rfl, _, .of me1⟩, _, rfl, a.me, am, _, _, rfl, rfl, me1, ha, by rw [sizeLine_eq]; show (a.mv ++ nmv).length + _ ≤ _; omega, upd_put me1 no_lst fun H2 f2 q2 => ?_⟩
      have kj2 := f2.at kj1 kme
      have tc2 := f2.at tc1 mtc.symm
      have ac2 := f2.at hb acme
      refine ⟨_, rfl, _, _, _, _, _, rfl, kj2, hd.c_Keeper, hd.n_Keeper_told_clauses, rfl, .inl ⟨rfl, _, .of tc2⟩, _, rfl, a.tc, ac, _, _, rfl, rfl, tc2, ac2, by rw [sizeLine_eq]; show (a.cv ++ ncv).length + _ ≤ _; omega, upd_put tc2 no_lst fun H3 f3 q3 => ?_⟩
      have kj3 := f3.at kj2 ktc
      have am3 := f3.at (f2.at ha amme) amtc
      refine ⟨_, rfl, _, _, _, _, _, rfl, kj3, hd.c_Keeper, hd.n_Keeper_coming, rfl, _, rfl, _, _, rfl, .inl (.of am3), _, _, rfl, rfl, _, _, kj3, fewF, upd_put kj3 no_ins fun H4 f4 q4 => ?_⟩
      have f14 : Fm (fun b => b = a.me ∨ b = a.tc ∨ b = a.kp) H1 H4 := ((f2.mono fun b _ h => .inl h).trans (f3.mono fun b _ h => .inr (.inl h))).trans (f4.mono fun b _ h => .inr (.inr h))
      have m14 : ∀ b, (b = a.me ∨ b = a.tc ∨ b = a.kp) → φ b = 2 ∨ φ b = 3 ∨ φ b = 1 := by
        rintro b (rfl | rfl | rfl)
        · exact .inl kp.t2
        · exact .inr (.inl kp.t3)
        · exact .inr (.inr kp.t1)
      have f04 : Fm (fun b => PT (φ b)) Hb H4 := by
        refine (f1.mono fun b _ h => ?_).trans (f14.mono fun b _ h => ?_)
        · rw [h, h7]; exact .inr (.inr (.inr (.inr ⟨i, rfl⟩)))
        · rcases m14 b h with h | h | h
          · exact .inr (.inl h)
          · exact .inr (.inr (.inl h))
          · exact .inl h
      have z0 : ∀ b, φ b = 0 → ¬ PT (φ b) := fun b h p => p.ne h
      have pp := pks_after kks hin f1 ho
      refine ⟨_, _, _, ncv ++ cv, nmv ++ mv, rfl, fa.trans f04, ?_, f04.at hglj (z0 _ hφg)⟩
      rw [enext]
      refine ⟨?_, kp.t1, kp.t2, kp.t3, kp.t4, kp.t5, kp.t6, f04.at kj.hm (z0 _ kp.t5), f04.at kj.gl (z0 _ kp.t6), ?_, ?_, ?_, ?_, ?_, ?_, ?_⟩
      · refine q4.trans ?_
        show some (HO.ins _ _ [("coming", V.int (cj.coming + ((mv.length : Nat) : Int))), _, _, _, _, _, _, _]) = some (HO.ins _ _ [("coming", V.int (cj.coming + ((lackN (cj.g.ks i) (cj.outs i) d.cap : Nat) : Int))), _, _, _, _, _, _, _])
        rw [eml]
      · show H4 a.me = some (HO.lst (a.mv ++ (nmv ++ mv)))
        rw [← List.append_assoc]
        exact f4.at (f3.at q2 mtc) kme.symm
      · show Rel (NmAt H4) (a.mv ++ (nmv ++ mv)) (cj.names ++ _)
        rw [← List.append_assoc]
        exact (kj.nm.mono fun v x h => h.fm f04).app (hm.mono fun v x h => h.fm f14)
      · show H4 a.tc = some (HO.lst (a.cv ++ (ncv ++ cv)))
        rw [← List.append_assoc]
        exact f4.at q3 ktc.symm
      · show Rel (TI H4) (a.cv ++ (ncv ++ cv)) (cj.clauses ++ _)
        rw [← List.append_assoc]
        exact (kj.cl.mono fun v x h => h.fm f04).app (hcc.mono fun v x h => h.fm f14)
      · exact f14.at (f1.at kj.aa aai) fun z => by rcases z with z | z | z <;> contradiction
      · exact kj.dy.mono fun v x h => h.fm f04 fun b p => p.ne
      · exact KsAt.fm pp f14 fun b hb => by
          unfold tgP
          rcases m14 b hb with h | h | h <;> rw [h]
          · exact ⟨by decide, fun i _ => by omega⟩
          · exact ⟨by decide, fun i _ => by omega⟩
          · exact ⟨by decide, fun i _ => by omega⟩
    · rintro σ Ha ⟨o3, o4, o5, ncv, nmv, rfl, fa, kj, hglj⟩
      have el : (curV pa is).length = is.length := by simp [curV]
      rw [el, List.take_length] at kj
      refine ⟨_, rfl, _, _, _, _, _, rfl, kj.obj, hd.c_Keeper, hd.n_Keeper_told_clauses, rfl, _, rfl, _, rfl, a.tc, _, rfl, .of kj.tc, fun p np => upd_new np fun H1 s1 q1 => ?_⟩
      rw [cut_drop] at q1
      have e : (a.cv ++ ncv).drop a.cv.length = ncv := by simp
      have q1 : H1 p = some (.lst ((a.cv ++ ncv).drop a.cv.length)) := q1
      rw [e] at q1
      exact k p ncv nmv H1 (fa.free np) (fa.trans s1.to) (kj.sm s1) q1
theorem sc_Keeper_check_room : FnScope ["self", "growers", "cap", "many", "one"] ["self", "growers", "cap"] (defScope s_Keeper_check_room) := ⟨rfl, rfl, rfl, by decide +kernel, rfl, by decide +kernel, by decide +kernel⟩
def spRoom : Sp := fun vs H Q _ => ∃ (gl : Addr) (φ : Addr → Nat) (pa : Nat → Addr × Addr) (a : KA) (c : Core) (n cap : Nat) (ks : Nat → Kn) (outs : Nat → List Int) (o : HO) (is : List Nat), vs = [.ref a.kp, .ref gl, iV cap] ∧ H a.kp = some o ∧ (∃ fs, o = .ins (He.ga K "Keeper") a.dx fs ∧ fs.lookup ("told_clauses" : Str) = some (.ref a.tc) ∧ fs.lookup ("check_room" : Str) = none) ∧ H a.tc = some (.lst a.cv) ∧
  PKs K φ H pa n ks outs ∧ H gl = some (.lst (curV pa is)) ∧ KsOk n ks ∧ (∀ i, i < n → (outs i).length ≤ 12) ∧ (∀ i ∈ is, i < n) ∧ is.length ≤ 100 ∧
  a.cv.length + (is.map fun i => aheadN ks (ks i) (outs i) cap).sum ≤ 3003 ∧ ∀ H', Sm H H' → Q .non H'
theorem cal_Keeper_check_room (hd : Hd K mg) : C8.Met P w K mg base 4 (He.ga K "Keeper") "check_room" (spRoom (K := K)) [] := by
  obtain ⟨fd, F⟩ := hd.d_Keeper_check_room
  refine mk_met F hd.c_Keeper hd.m_Keeper_check_room (F.bindsN fun _ _ _ _ _ _ us hl => match us, hl with | [_, _, _], _ => rfl) sc_Keeper_check_room (fun vs H Q E h => ?_) (fun cdv A outer s H vs Q E hr h => ?_)
  · obtain ⟨_, _, _, _, _, _, _, _, _, _, _, rfl, _⟩ := h; rfl
  · obtain ⟨gl, φ, pa, a, c, n, cap, ks, outs, o, is, rfl, ho, ⟨fs, rfl, hf, _⟩, htc, hk, hgl, ok, hl, hlt, hil, hle, k⟩ := h
    refine ⟨_, PSs.nox (pss_cons (ps_set (i := 3) sc_Keeper_check_room.nd rfl (Or.inl rfl) (pe_op op_add (pe_callB call_len_seq (by rfl) hd.f_len PySem.boot_len (pa_cons (pe_fld (pv 0) rfl) pa_nil)) (pe_callB (cr_sum rfl) (by rfl) hd.f_sum (by decide +kernel) (pa_cons (pe_lc (own := [("one", 4)]) (g := (gName 4)) (tt := tYes) (te := (tMeth (He.ga K "Growing") "many_ahead" _ _ C8.E0 (tVar 4) (tCons (tVar 2) tNil))) rfl sc_Keeper_check_room.nd (pi_list (pv 1)) (blkOk_by (N := ["self", "growers", "cap", "many", "one"]) (sc := defScope s_Keeper_check_room) (by decide +kernel)) (fun _ _ _ _ _ => (pg_name (i := 4) sc_Keeper_check_room.nd rfl (Or.inl rfl))) (fun _ _ _ _ _ => pts_nil) (fun _ _ _ _ _ => (C8.pe_mt (cal_Growing_many_ahead hd) hr (by first | decide | omega) (pv 4) (pa_cons (pv 2) pa_nil)))) pa_nil))))
    (pss_one (ps_if (pt_cmpR op_gt (pv 3) (C8.pe_gc rfl hd.i_MOST_CLAUSES) (nomark _)) (pss_one ps_never) pss_nil))), ?_⟩
    refine ⟨_, rfl, _, _, _, _, _, rfl, ho, hd.c_Keeper, hd.n_Keeper_told_clauses, hf, _, _, rfl, .inl (.of htc), ?_⟩
    refine ⟨_, rfl, gl, rfl, ⟨_, .of hgl⟩, lc_all walk_list (M := No) (fun j y H' => ∃ m, (is.map fun i => aheadN ks (ks i) (outs i) cap)[j]? = some m ∧ y = iV m) ?_ (fun _ z => z.elim) (fun H' f' => .of (Sm.at f' hgl)) (fun i y N H H' h f => h) ?_ ?_⟩
    · simp only [curV, List.length_map]
      rw [sizeLine_eq]; omega
    · rintro j y Hc Hd' Qy hj fc ⟨rfl, hy⟩ kq
      obtain ⟨i, hi, rfl⟩ := curV_get hy
      have hin := hlt i (List.mem_of_getElem? hi)
      have hks := hk.sm fc
      obtain ⟨⟨h, sa, h1, ⟨dx, rfl⟩, h3, h4⟩, h5, h6, h7⟩ := hks i hin
      refine ⟨rfl, _, rfl, _, _, _, rfl, h1, rfl, _, rfl, φ, pa, n, ks, outs, i, cap, rfl, hks, ok, hin, by have := hl i hin; omega, fun H2 s2 => kq _ H2 s2 ⟨_, ?_, rfl⟩⟩
      rw [List.getElem?_map, hi]; rfl
    · rintro D zs Hq nD fe hD hz hh
      have e := ext_nsV (ns := is.map fun i => aheadN ks (ks i) (outs i) cap) (by rw [hz]; simp [curV]) hh
      rw [e] at hD
      refine ⟨D, _, rfl, .of (asI hD), ?_⟩
      rw [sum_cast]
      refine ⟨_, _, rfl, rfl, _, rfl, _, _, rfl, rfl, _, rfl, ifF (decide_eq_false (by omega)) ?_⟩
      exact k Hq fe
theorem sc_Keeper_is_far : FnScope ["self", "most", "many"] ["self", "most", "many"] (defScope s_Keeper_is_far) := ⟨rfl, rfl, rfl, by decide +kernel, rfl, by decide +kernel, by decide +kernel⟩
def spFar : Sp := fun vs H Q _ => ∃ (kp dx : Addr) (fs : List (Str × V)) (most : Option Int) (cap many : Nat), vs = [.ref kp, oV most, iV many] ∧ H kp = some (.ins (He.ga K "Keeper") dx fs) ∧ fs.lookup ("cap" : Str) = some (iV cap) ∧ (∀ t, most = some t → t < cap ∨ (many : Int) ≤ t) ∧ Q (.bl false) H
theorem cal_Keeper_is_far (hd : Hd K mg) : C8.Met P w K mg base 1 (He.ga K "Keeper") "is_far" (spFar (K := K)) [] := by
  obtain ⟨fd, F⟩ := hd.d_Keeper_is_far
  refine mk_met F hd.c_Keeper hd.m_Keeper_is_far (F.bindsN fun _ _ _ _ _ _ us hl => match us, hl with | [_, _, _], _ => rfl) sc_Keeper_is_far (fun vs H Q E h => ?_) (fun cdv A outer s H vs Q E hr h => ?_)
  · obtain ⟨_, _, _, _, _, _, rfl, _⟩ := h; rfl
  · obtain ⟨kp, dx, fs, most, cap, many, rfl, hkp, hcap, ht, k⟩ := h
    refine ⟨_, (pss_one (ps_ret (pe_and (pe_cmpR op_notN (pv 1) pe_non (nomark _)) (pe_one (pe_chain op_le op_lt (pe_fld (pv 0) rfl) (pv 1) (pv 2)))))), ?_⟩
    cases most with
    | none => exact ⟨_, rfl, rfl, _, rfl, ifF rfl k⟩
    | some t =>
      refine ⟨_, rfl, rfl, _, rfl, ifT rfl ⟨_, rfl, _, _, _, _, _, rfl, hkp, hd.c_Keeper, hd.n_Keeper_cap, hcap, _, rfl, _, _, rfl, rfl, _, rfl, ?_⟩⟩
      by_cases c : (cap : Int) ≤ t
      · refine ifT (decide_eq_true c) ⟨_, rfl, _, _, rfl, rfl, ?_⟩
        have h2 := ht t rfl
        show Q (.bl (decide (t < (many : Int)))) H
        rw [decide_eq_false (by omega)]
        exact k
      · exact ifF (decide_eq_false c) k
end
end K59
set_option Elab.async false
set_option linter.all false
set_option maxRecDepth 100000
set_option maxHeartbeats 4000000
namespace K59
open PySem PySem.Spec PyProof.Rows L2
/-! ### xs == [], xs != [], of whatever items -/
section
variable {X : Cx}
def rEqE (K : PySem.W.Frag) : R2 := fun x y H Q => ∃ a b xs, x = .ref a ∧ y = .ref b ∧ SqL K H a xs ∧ SqL K H b [] ∧ Q (.bl xs.isEmpty) H
def rNeE (K : PySem.W.Frag) : R2 := fun x y H Q => ∃ a b xs, x = .ref a ∧ y = .ref b ∧ SqL K H a xs ∧ SqL K H b [] ∧ Q (.bl (!xs.isEmpty)) H
theorem op_eqE (hu : X.A.units + 64 < cLine) : OpR X (compareOp .Eq) (rEqE X.K) := by
  intro pins s σ H x y v u Q I rx ry h
  obtain ⟨a, b, xs, rfl, rfl, ha, hb, q⟩ := h
  cases xs with
  | nil => exact op_eqD hu pins s σ H _ _ v u Q I rx ry ⟨.list [], .list [], .lst ha .nil, .lst hb .nil, rfl, rfl, q⟩
  | cons z zs =>
    cases (show v = Value.ref a from rx)
    cases (show u = Value.ref b from ry)
    obtain ⟨us, r1, p1, _⟩ := I.list ha
    obtain ⟨ws, r2, p2, _⟩ := I.list hb
    have h1 := r1.length
    have h2 := r2.length
    rw [List.length_cons] at h1
    refine SeqAt.RcAt.lists_lengths p1.isList p2.isList (by rw [List.size_toArray, List.size_toArray, ← h1, ← h2]; exact bne_iff_ne.mpr (by simp)) (by omega) _ _ _ _ ?_
    exact ⟨.bl false, H, I, rfl, q⟩
theorem op_neE (hu : X.A.units + 64 < cLine) : OpR X (compareOp .NotEq) (rNeE X.K) := by
  intro pins s σ H x y v u Q I rx ry h
  obtain ⟨a, b, xs, rfl, rfl, ha, hb, q⟩ := h
  cases xs with
  | nil => exact op_neD hu pins s σ H _ _ v u Q I rx ry ⟨.list [], .list [], .lst ha .nil, .lst hb .nil, rfl, rfl, q⟩
  | cons z zs =>
    cases (show v = Value.ref a from rx)
    cases (show u = Value.ref b from ry)
    obtain ⟨us, r1, p1, _⟩ := I.list ha
    obtain ⟨ws, r2, p2, _⟩ := I.list hb
    have h1 := r1.length
    have h2 := r2.length
    rw [List.length_cons] at h1
    refine SeqAt.RcNeAt.lists_lengths p1.isList p2.isList (by rw [List.size_toArray, List.size_toArray, ← h1, ← h2]; exact bne_iff_ne.mpr (by simp)) (by omega) _ _ _ _ ?_
    exact ⟨.bl true, H, I, rfl, q⟩
end
section
variable {P : Program} {w : World} {K : PySem.W.Frag} {mg : Str → Option Value} {base : Heap}
theorem sc_Keeper_note : FnScope ["self"] ["self"] (defScope s_Keeper_note) := ⟨rfl, rfl, rfl, by decide +kernel, rfl, by decide +kernel, by decide +kernel⟩
def spNote : Sp := fun vs H Q _ => ∃ (φ : Addr → Nat) (pa : Nat → Addr × Addr) (a : KA) (c : Core) (d : Dyn) (ah : List Dyn), vs = [.ref a.kp] ∧ KpAt K φ H pa a c d ah ∧ ah.length ≤ 1000 ∧
  ∀ t H', Fm (fun b => PT (φ b)) H H' → KpAt K φ H' pa { a with av := a.av ++ [t] } c d (ah ++ [d]) → Q .non H'
theorem cal_Keeper_note (hd : Hd K mg) : C8.Met P w K mg base 1 (He.ga K "Keeper") "note" (spNote (K := K)) [] := by
  obtain ⟨fd, F⟩ := hd.d_Keeper_note
  refine mk_met F hd.c_Keeper hd.m_Keeper_note (F.bindsN fun _ _ _ _ _ _ us hl => match us, hl with | [_], _ => rfl) sc_Keeper_note (fun vs H Q E h => ?_) (fun cdv A outer s H vs Q E hr h => ?_)
  · obtain ⟨_, _, _, _, _, _, rfl, _⟩ := h; rfl
  · obtain ⟨φ, pa, a, c, d, ah, rfl, kp, hl, k⟩ := h
    refine ⟨_, (pss_one (ps_expr (pe_bm PySem.F.plainAttrs_list PySem.F.slot_list_append PySem.F.type_list_append mt_append (pe_fld (pv 0) rfl) (pa_cons (pe_tup (pa_cons (pe_fld (pv 0) rfl) (pa_cons (pe_fld (pv 0) rfl) (pa_cons (pe_fld (pv 0) rfl) (pa_cons (pe_fld (pv 0) rfl) pa_nil))))) pa_nil)))), ?_⟩
    have hav := kp.dy.1
    refine ⟨_, rfl, _, _, _, _, _, rfl, kp.obj, hd.c_Keeper, hd.n_Keeper_ahead, rfl, .inl ⟨rfl, _, .of kp.aa⟩, ?_⟩
    refine ⟨_, rfl, _, _, _, _, _, rfl, kp.obj, hd.c_Keeper, hd.n_Keeper_top, rfl, ?_⟩
    refine ⟨_, rfl, _, _, _, _, _, rfl, kp.obj, hd.c_Keeper, hd.n_Keeper_cap, rfl, ?_⟩
    refine ⟨_, rfl, _, _, _, _, _, rfl, kp.obj, hd.c_Keeper, hd.n_Keeper_held_marks, rfl, ?_⟩
    refine ⟨_, rfl, _, _, _, _, _, rfl, kp.obj, hd.c_Keeper, hd.n_Keeper_growers, rfl, szN, fun p np => upd_new np fun H1 s1 q1 => ?_⟩
    have kp1 := kp.sm s1
    refine ⟨a.aa, _, _, rfl, rfl, kp1.aa, by rw [hav, sizeLine_eq]; omega, upd_put kp1.aa no_lst fun H2 f2 q2 => ?_⟩
    have f12 : Fm (fun b => PT (φ b)) H1 H2 := f2.mono fun b _ h => by rw [h, kp.t4]; exact .inr (.inr (.inr (.inl rfl)))
    have z0 : ∀ b, φ b = 0 → ¬ PT (φ b) := fun b h p => p.ne h
    have nt : ∀ {b t}, φ b = t → t ≠ 4 → b ≠ a.aa := fun hb ht z => ht (by rw [← hb, z, kp.t4])
    refine k (.ref p) H2 (s1.to.trans f12) ⟨f2.at kp1.obj (nt kp.t1 (by decide)), kp.t1, kp.t2, kp.t3, kp.t4, kp.t5, kp.t6, f12.at kp1.hm (z0 _ kp.t5), f12.at kp1.gl (z0 _ kp.t6), f2.at kp1.me (nt kp.t2 (by decide)), kp1.nm.mono fun v x h => h.fm f2,
      f2.at kp1.tc (nt kp.t3 (by decide)), kp1.cl.mono fun v x h => h.fm f2, q2, (kp1.dy.mono fun v x h => h.fm f12 fun b p => p.ne).snoc ⟨p, a.hm, a.gl, rfl, f2.tups _ _ q1, f12.at kp1.hm (z0 _ kp.t5), kp.t5, f12.at kp1.gl (z0 _ kp.t6), kp.t6⟩, ?_⟩
    exact kp1.ks.fm f2 fun b hb => by rw [hb, kp.t4]; exact ⟨by decide, fun i _ => by unfold tgP; omega⟩
theorem sc_Keeper_puts : FnScope ["self"] ["self"] (defScope s_Keeper_puts) := ⟨rfl, rfl, rfl, by decide +kernel, rfl, by decide +kernel, by decide +kernel⟩
/-- the last knot is over all marks -/
structure LastOk (c : Core) (d : Dyn) : Prop where
  ex : ∃ l L, d.cur = l ++ [L] ∧ L < c.g.n ∧ (c.g.ks L).size = d.marks.length ∧ min d.cap (c.g.ks L).size ≤ (c.outs L).length
/-- a bound that may stand -/
def TopOk (d : Dyn) : Prop := ∀ t, d.top = some t → 0 ≤ t ∧ (t < d.cap ∨ (d.marks.length : Int) ≤ t)
def spPuts : Sp := fun vs H Q _ => ∃ (φ : Addr → Nat) (pa : Nat → Addr × Addr) (a : KA) (c : Core) (d : Dyn) (ah : List Dyn), vs = [.ref a.kp] ∧ KpAt K φ H pa a c d ah ∧ LastOk c d ∧ TopOk d ∧ ∀ p H', Sm H H' → Q (.ref p) H'
theorem cal_Keeper_puts (hd : Hd K mg) : C8.Met P w K mg base 2 (He.ga K "Keeper") "puts" (spPuts (K := K)) [] := by
  obtain ⟨fd, F⟩ := hd.d_Keeper_puts
  refine mk_met F hd.c_Keeper hd.m_Keeper_puts (F.bindsN fun _ _ _ _ _ _ us hl => match us, hl with | [_], _ => rfl) sc_Keeper_puts (fun vs H Q E h => ?_) (fun cdv A outer s H vs Q E hr h => ?_)
  · obtain ⟨_, _, _, _, _, _, rfl, _⟩ := h; rfl
  · obtain ⟨φ, pa, a, c, d, ah, rfl, kp, ⟨l, L, hcur, hL, hsz, hfull⟩, top, k⟩ := h
    refine ⟨_, (pss_cons (ps_if (PW.pt (pw_or (pt_cmpR op_isN (pe_fld (pv 0) rfl) pe_non (nomark _)) (pw_or1 (pt_cmpR op_ge (pe_fld (pv 0) rfl) (pe_callB call_len_seq (by rfl) hd.f_len PySem.boot_len (pa_cons (pe_fld (pv 0) rfl) pa_nil)) (nomark _))))) (pss_one (ps_ret (pe_lst pa_nil))) pss_nil)
    (pss_one (ps_ret (pe_lst (pa_cons (pe_op op_sub pe_int (pe_ix ix_tup (C8.pe_mt (cal_Growing_row_to hd) hr (by first | decide | omega) (pe_ix ix_list (pe_fld (pv 0) rfl) (pe_un un_neg pe_int) (fun _ _ => rfl)) (pa_cons (pe_fld (pv 0) rfl) pa_nil)) (pe_fld (pv 0) rfl) (fun _ _ => rfl))) pa_nil))))), ?_⟩
    refine ⟨_, rfl, _, _, _, _, _, rfl, kp.obj, hd.c_Keeper, hd.n_Keeper_top, rfl, rfl, ?_⟩
    cases ht : d.top with
    | none => exact ⟨_, rfl, ifT rfl ⟨szN, fun p np => upd_new np fun H1 s1 q1 => k p H1 s1⟩⟩
    | some t =>
      obtain ⟨h0, h1⟩ := top t ht
      have etop : oV d.top = .int t := by rw [ht]; rfl
      refine ⟨_, rfl, ifF rfl ?_⟩
      refine ⟨_, rfl, _, _, _, _, _, rfl, kp.obj, hd.c_Keeper, hd.n_Keeper_top, rfl, _, rfl, _, _, _, _, _, rfl, kp.obj, hd.c_Keeper, hd.n_Keeper_held_marks, rfl, _, _, rfl, .inl (.of kp.hm), t, _, etop, rfl, _, rfl, ?_⟩
      rw [isV_len]
      refine ite2 (fun c => ⟨szN, fun p np => upd_new np fun H1 s1 q1 => k p H1 s1⟩) fun c' => ?_
      have hlt : t < (d.marks.length : Int) := by
        have := of_decide_eq_false (Bool.eq_false_iff.mpr c')
        omega
      have hgl := kp.gl
      rw [hcur] at hgl
      have hgl : H a.gl = some (.lst (curV pa l ++ [.ref (pa L).1])) := by rw [hgl]; simp [curV]
      have hkL := kp.ks L hL
      have hkL' := hkL
      obtain ⟨⟨h, sa, h1', ⟨dx, rfl⟩, h3, h4⟩, h5, h6, h7⟩ := hkL'
      refine ⟨_, rfl, _, _, _, _, _, rfl, kp.obj, hd.c_Keeper, hd.n_Keeper_growers, rfl, _, rfl, a.gl, _, _, _, rfl, rfl, .of hgl, atI_last _ _, ?_⟩
      refine ⟨_, _, _, rfl, h1', rfl, _, rfl, _, _, _, _, _, rfl, kp.obj, hd.c_Keeper, hd.n_Keeper_cap, rfl, φ, pa, L, _, _, d.cap, rfl, hkL, fun p H1 s1 q1 => ?_⟩
      refine ⟨_, rfl, _, _, _, _, _, rfl, s1.at kp.obj, hd.c_Keeper, hd.n_Keeper_top, rfl, ?_⟩
      have hlen : t.toNat < ((c.outs L).take (min d.cap (c.g.ks L).size)).length := by rw [List.length_take]; omega
      refine ⟨p, _, _, V.int (((c.outs L).take (min d.cap (c.g.ks L).size))[t.toNat]), rfl, etop, .of q1, at_of (j := t.toNat) (by omega) ?_, _, _, rfl, rfl, szN, fun p2 n2 => upd_new n2 fun H2 s2 q2 => k p2 H2 (s1.trans s2)⟩
      rw [List.getElem?_map, List.getElem?_eq_getElem hlen]; rfl
theorem sc_Keeper_bound : FnScope ["self", "most"] ["self", "most"] (defScope s_Keeper_bound) := ⟨rfl, rfl, rfl, by decide +kernel, rfl, by decide +kernel, by decide +kernel⟩
/-- the object with another bound -/
def spBound : Sp := fun vs H Q _ => ∃ (φ : Addr → Nat) (pa : Nat → Addr × Addr) (a : KA) (c : Core) (d : Dyn) (ah : List Dyn) (most : Option Int), vs = [.ref a.kp, oV most] ∧ KpAt K φ H pa a c d ah ∧ ah.length ≤ 1000 ∧ LastOk c d ∧ TopOk { d with top := most } ∧
  ∀ p t H', Fm (fun b => PT (φ b)) H H' → KpAt K φ H' pa { a with av := a.av ++ [t] } c { d with top := most } (ah ++ [d]) → Q (.ref p) H'
theorem KpAt.setTop {φ : Addr → Nat} {H H' : Hp} {pa : Nat → Addr × Addr} {a : KA} {c : Core} {d d' : Dyn} {ah : List Dyn} (kp : KpAt K φ H pa a c d ah) (f : Fm (· = a.kp) H H') (q : H' a.kp = some (kpO K a c d')) (hm : d'.marks = d.marks) (hc : d'.cur = d.cur) : KpAt K φ H' pa a c d' ah := by
  have nt : ∀ {b t}, φ b = t → t ≠ 1 → b ≠ a.kp := fun hb ht z => ht (by rw [← hb, z, kp.t1])
  refine ⟨q, kp.t1, kp.t2, kp.t3, kp.t4, kp.t5, kp.t6, ?_, ?_, f.at kp.me (nt kp.t2 (by decide)), kp.nm.mono fun v x h => h.fm f, f.at kp.tc (nt kp.t3 (by decide)), kp.cl.mono fun v x h => h.fm f, f.at kp.aa (nt kp.t4 (by decide)), kp.dy.mono fun v x h => h.fm f fun b hb => by rw [hb, kp.t1]; decide, ?_⟩
  · rw [hm]; exact f.at kp.hm (nt kp.t5 (by decide))
  · rw [hc]; exact f.at kp.gl (nt kp.t6 (by decide))
  · exact kp.ks.fm f fun b hb => by rw [hb, kp.t1]; exact ⟨by decide, fun i _ => by unfold tgP; omega⟩
theorem cal_Keeper_bound (hd : Hd K mg) : C8.Met P w K mg base 3 (He.ga K "Keeper") "bound" (spBound (K := K)) [] := by
  obtain ⟨fd, F⟩ := hd.d_Keeper_bound
  refine mk_met F hd.c_Keeper hd.m_Keeper_bound (F.bindsN fun _ _ _ _ _ _ us hl => match us, hl with | [_, _], _ => rfl) sc_Keeper_bound (fun vs H Q E h => ?_) (fun cdv A outer s H vs Q E hr h => ?_)
  · obtain ⟨_, _, _, _, _, _, _, rfl, _⟩ := h; rfl
  · obtain ⟨φ, pa, a, c, d, ah, most, rfl, kp, hl, last, top, k⟩ := h
    refine ⟨_, PSs.nox (pss_cons (ps_if (pt_val (C8.pe_mt (cal_Keeper_is_far hd) hr (by first | decide | omega) (pv 0) (pa_cons (pv 1) (pa_cons (pe_callB call_len_seq (by rfl) hd.f_len PySem.boot_len (pa_cons (pe_fld (pv 0) rfl) pa_nil)) pa_nil)))) (pss_one ps_never) pss_nil)
    (pss_cons (ps_expr (C8.pe_mt0 (cal_Keeper_note hd) hr (by first | decide | omega) (pv 0)))
    (pss_cons (ps_fld (pv 0) (pv 1) rfl)
    (pss_one (ps_ret (C8.pe_mt0 (cal_Keeper_puts hd) hr (by first | decide | omega) (pv 0))))))), ?_⟩
    refine ⟨_, rfl, _, _, _, rfl, kp.obj, rfl, _, rfl, _, rfl, _, _, _, _, _, rfl, kp.obj, hd.c_Keeper, hd.n_Keeper_held_marks, rfl, _, _, rfl, .inl (.of kp.hm), ?_⟩
    rw [isV_len]
    refine ⟨a.kp, _, _, most, d.cap, d.marks.length, rfl, kp.obj, rfl, fun t ht => (top t ht).2, ?_⟩
    refine ⟨_, rfl, ifF rfl ?_⟩
    refine ⟨_, rfl, _, _, _, rfl, kp.obj, rfl, φ, pa, a, c, d, ah, rfl, kp, hl, fun t H1 f1 kp1 => ?_⟩
    refine ⟨_, rfl, _, rfl, _, _, _, _, rfl, kp1.obj, hd.c_Keeper, hd.n_Keeper_top, fewF, upd_put kp1.obj no_ins fun H2 f2 q2 => ?_⟩
    have kp2 : KpAt K φ H2 pa { a with av := a.av ++ [t] } c { d with top := most } (ah ++ [d]) := kp1.setTop f2 q2 rfl rfl
    refine ⟨_, rfl, _, _, _, rfl, kp2.obj, rfl, φ, pa, { a with av := a.av ++ [t] }, c, { d with top := most }, _, rfl, kp2, ⟨last.ex⟩, top, fun p H3 s3 => ?_⟩
    exact k p t H3 ((f1.trans (f2.mono fun b _ h => by rw [h]; show PT (φ a.kp); rw [kp.t1]; exact .inl rfl)).trans s3.to) (kp2.sm s3)
theorem sc_Keeper_wider : FnScope ["self", "cap"] ["self", "cap"] (defScope s_Keeper_wider) := ⟨rfl, rfl, rfl, by decide +kernel, rfl, by decide +kernel, by decide +kernel⟩
def spWider : Sp := fun vs H Q _ => ∃ (φ : Addr → Nat) (pa : Nat → Addr × Addr) (a : KA) (c : Core) (d : Dyn) (ah : List Dyn) (cap : Nat), vs = [.ref a.kp, iV cap] ∧ KpAt K φ H pa a c d ah ∧ ah.length ≤ 1000 ∧ d.cap < cap ∧
  KsOk c.g.n c.g.ks ∧ OutsLe c ∧ Ready cap c d.cur ∧ (∀ i ∈ d.cur, i < c.g.n) ∧ d.cur.length ≤ 100 ∧ c.names.length ≤ 5000 ∧ c.clauses.length + (d.cur.map fun i => aheadN c.g.ks (c.g.ks i) (c.outs i) cap).sum ≤ 3003 ∧
  ∀ p t ncv nmv H', H p = none → Fm (fun b => PT (φ b)) H H' → KpAt K φ H' pa { a with av := a.av ++ [t], cv := a.cv ++ ncv, mv := a.mv ++ nmv } (growAll cap c d.cur) { d with cap := cap } (ah ++ [d]) → H' p = some (.lst ncv) → Q (.ref p) H'
theorem cal_Keeper_wider (hd : Hd K mg) : C8.Met P w K mg base 6 (He.ga K "Keeper") "wider" (spWider (K := K)) [] := by
  obtain ⟨fd, F⟩ := hd.d_Keeper_wider
  refine mk_met F hd.c_Keeper hd.m_Keeper_wider (F.bindsN fun _ _ _ _ _ _ us hl => match us, hl with | [_, _], _ => rfl) sc_Keeper_wider (fun vs H Q E h => ?_) (fun cdv A outer s H vs Q E hr h => ?_)
  · obtain ⟨_, _, _, _, _, _, _, rfl, _⟩ := h; rfl
  · obtain ⟨φ, pa, a, c, d, ah, cap, rfl, kp, hl, hcap, ok, ol, rd, hcur, hcl, hnl, hroom, k⟩ := h
    refine ⟨_, PSs.nox (pss_cons (ps_if (pt_cmpR op_le (pv 1) (pe_fld (pv 0) rfl) (nomark _)) (pss_one ps_never) pss_nil)
    (pss_cons (ps_expr (C8.pe_mt (cal_Keeper_check_room hd) hr (by first | decide | omega) (pv 0) (pa_cons (pe_fld (pv 0) rfl) (pa_cons (pv 1) pa_nil))))
    (pss_cons (ps_expr (C8.pe_mt0 (cal_Keeper_note hd) hr (by first | decide | omega) (pv 0)))
    (pss_cons (ps_fld (pv 0) (pv 1) rfl)
    (pss_one (ps_ret (C8.pe_mt (cal_Keeper_grow_all hd) hr (by first | decide | omega) (pv 0) (pa_cons (pe_fld (pv 0) rfl) pa_nil)))))))), ?_⟩
    refine ⟨_, rfl, _, rfl, _, _, _, _, _, rfl, kp.obj, hd.c_Keeper, hd.n_Keeper_cap, rfl, _, _, rfl, rfl, _, rfl, ifF (decide_eq_false (by omega)) ?_⟩
    refine ⟨_, rfl, _, _, _, rfl, kp.obj, rfl, _, rfl, _, _, _, _, _, rfl, kp.obj, hd.c_Keeper, hd.n_Keeper_growers, rfl, _, rfl, ?_⟩
    refine ⟨a.gl, φ, pa, a, c, c.g.n, cap, c.g.ks, c.outs, _, d.cur, rfl, kp.obj, ⟨_, rfl, rfl, rfl⟩, kp.tc, kp.ks, kp.gl, ok, fun i hi => Nat.le_trans (ol i hi) (ok.le i hi), hcur, hcl, by rw [kp.cl.1]; exact hroom, fun H1 s1 => ?_⟩
    have kp1 := kp.sm s1
    refine ⟨_, rfl, _, _, _, rfl, kp1.obj, rfl, φ, pa, a, c, d, ah, rfl, kp1, hl, fun t H2 f2 kp2 => ?_⟩
    refine ⟨_, rfl, _, rfl, _, _, _, _, rfl, kp2.obj, hd.c_Keeper, hd.n_Keeper_cap, fewF, upd_put kp2.obj no_ins fun H3 f3 q3 => ?_⟩
    have kp3 : KpAt K φ H3 pa { a with av := a.av ++ [t] } c { d with cap := cap } (ah ++ [d]) := kp2.setTop f3 q3 rfl rfl
    refine ⟨_, rfl, _, _, _, rfl, kp3.obj, rfl, _, rfl, _, _, _, _, _, rfl, kp3.obj, hd.c_Keeper, hd.n_Keeper_growers, rfl, ?_⟩
    have f03 : Fm (fun b => PT (φ b)) H H3 := (s1.to.trans f2).trans (f3.mono fun b _ h => by rw [h]; show PT (φ a.kp); rw [kp.t1]; exact .inl rfl)
    refine ⟨a.gl, φ, pa, { a with av := a.av ++ [t] }, c, { d with cap := cap }, _, d.cur, rfl, kp3, kp3.gl, kp.t6, ok, ol, rd, by show 1 ≤ cap; omega, hcl, by omega, hnl, fun p ncv nmv H4 np f4 kp4 hp => ?_⟩
    exact k p t ncv nmv H4 (f03.free np) (f03.trans f4) kp4 hp
theorem sc_Keeper_back : FnScope ["self"] ["self"] (defScope s_Keeper_back) := ⟨rfl, rfl, rfl, by decide +kernel, rfl, by decide +kernel, by decide +kernel⟩
def spBack : Sp := fun vs H Q _ => ∃ (φ : Addr → Nat) (pa : Nat → Addr × Addr) (a : KA) (c : Core) (d e : Dyn) (ah : List Dyn), vs = [.ref a.kp] ∧ KpAt K φ H pa a c d (ah ++ [e]) ∧ ah.length ≤ 1000 ∧
  ∀ hm gl av H', Fm (fun b => PT (φ b)) H H' → KpAt K φ H' pa { a with hm := hm, gl := gl, av := av } c e ah → Q .non H'
theorem cal_Keeper_back (hd : Hd K mg) : C8.Met P w K mg base 1 (He.ga K "Keeper") "back" (spBack (K := K)) [] := by
  obtain ⟨fd, F⟩ := hd.d_Keeper_back
  refine mk_met F hd.c_Keeper hd.m_Keeper_back (F.bindsN fun _ _ _ _ _ _ us hl => match us, hl with | [_], _ => rfl) sc_Keeper_back (fun vs H Q E h => ?_) (fun cdv A outer s H vs Q E hr h => ?_)
  · obtain ⟨_, _, _, _, _, _, _, rfl, _⟩ := h; rfl
  · obtain ⟨φ, pa, a, c, d, e, ah, rfl, kp, hl, k⟩ := h
    refine ⟨_, PSs.nox (pss_cons (ps_if (pt_cmpR (op_eqE hr.units) (pe_fld (pv 0) rfl) (pe_lst pa_nil) (nomark _)) (pss_one ps_never) pss_nil)
    (pss_one (ps_asg (pe_bm0 PySem.F.plainAttrs_list PySem.F.slot_list_pop PySem.F.type_list_pop mt_pop (pe_fld (pv 0) rfl)) (pg_tup rfl (pgs_cons (pg_fld (pv 0)) (pgs_cons (pg_fld (pv 0)) (pgs_cons (pg_fld (pv 0)) (pgs_cons (pg_fld (pv 0)) pgs_nil)))))))), ?_⟩
    have hav := kp.dy.1
    rw [List.length_append] at hav
    have hav : a.av.length = ah.length + 1 := hav
    have hlast : (ah ++ [e])[a.av.length - 1]? = some e := by rw [hav]; simp
    obtain ⟨v, hv, hde⟩ := kp.dy.get2 hlast
    obtain ⟨t, hm, gl, rfl, ht, hhm, zhm, hgl, zgl⟩ := hde
    refine ⟨_, rfl, _, _, _, _, _, rfl, kp.obj, hd.c_Keeper, hd.n_Keeper_ahead, rfl, szN, fun p np => upd_new np fun H1 s1 q1 => ?_⟩
    have kp1 := kp.sm s1
    refine ⟨a.aa, p, _, rfl, rfl, .of kp1.aa, .of q1, _, rfl, ifF ?_ ?_⟩
    · cases h : a.av with
      | nil => rw [h] at hav; simp at hav
      | cons x xs => rfl
    refine ⟨_, rfl, _, _, _, _, _, rfl, kp1.obj, hd.c_Keeper, hd.n_Keeper_ahead, rfl, .inl ⟨rfl, _, .of kp1.aa⟩, a.aa, _, _, rfl, rfl, kp1.aa, hv, upd_put kp1.aa no_lst fun H2 f2 q2 => ?_⟩
    have nt4 : ∀ {b t}, φ b = t → t ≠ 4 → b ≠ a.aa := fun hb ht z => ht (by rw [← hb, z, kp.t4])
    have ht2 := f2.tups _ _ (s1.at ht)
    have o2 := f2.at kp1.obj (nt4 kp.t1 (by decide))
    refine ⟨t, _, rfl, .of ht2, rfl, _, _, rfl, ?_⟩
    refine ⟨_, rfl, _, _, _, _, rfl, o2, hd.c_Keeper, hd.n_Keeper_top, fewF, upd_put o2 no_ins fun H3 f3 q3 => ?_⟩
    refine ⟨_, _, rfl, _, rfl, _, _, _, _, rfl, q3, hd.c_Keeper, hd.n_Keeper_cap, fewF, upd_put q3 no_ins fun H4 f4 q4 => ?_⟩
    refine ⟨_, _, rfl, _, rfl, _, _, _, _, rfl, q4, hd.c_Keeper, hd.n_Keeper_held_marks, fewF, upd_put q4 no_ins fun H5 f5 q5 => ?_⟩
    refine ⟨_, _, rfl, _, rfl, _, _, _, _, rfl, q5, hd.c_Keeper, hd.n_Keeper_growers, fewF, upd_put q5 no_ins fun H6 f6 q6 => ?_⟩
    refine ⟨rfl, ?_⟩
    have f26 : Fm (· = a.kp) H2 H6 := ((f3.trans f4).trans f5).trans f6
    have f12 : Fm (fun b => PT (φ b)) H1 H6 := (f2.mono fun b _ h => by rw [h, kp.t4]; exact .inr (.inr (.inr (.inl rfl)))).trans (f26.mono fun b _ h => by rw [h, kp.t1]; exact .inl rfl)
    have z0 : ∀ b, φ b = 0 → ¬ PT (φ b) := fun b h p => p.ne h
    have nt1 : ∀ {b t}, φ b = t → t ≠ 1 → b ≠ a.kp := fun hb ht z => ht (by rw [← hb, z, kp.t1])
    refine k hm gl a.av.dropLast H6 (s1.to.trans f12) ⟨q6, kp.t1, kp.t2, kp.t3, kp.t4, zhm, zgl, f12.at (s1.at hhm) (z0 _ zhm), f12.at (s1.at hgl) (z0 _ zgl), f26.at (f2.at kp1.me (nt4 kp.t2 (by decide))) (nt1 kp.t2 (by decide)), kp1.nm.mono fun v x h => h.fm f12,
      f26.at (f2.at kp1.tc (nt4 kp.t3 (by decide))) (nt1 kp.t3 (by decide)), kp1.cl.mono fun v x h => h.fm f12, f26.at q2 (nt1 kp.t4 (by decide)), ⟨by show a.av.dropLast.length = _; rw [List.length_dropLast, hav]; rfl, fun i v x hv hx => ?_⟩, ?_⟩
    · have hi := (List.getElem?_eq_some_iff.mp hx).1
      have hv : a.av.dropLast[i]? = some v := hv
      rw [List.getElem?_dropLast, if_pos (by omega)] at hv
      exact (kp1.dy.2 i v x hv (by rw [List.getElem?_append_left hi]; exact hx)).fm f12 fun b p => p.ne
    · exact (kp1.ks.fm f2 fun b hb => by rw [hb, kp.t4]; exact ⟨by decide, fun i _ => by unfold tgP; omega⟩).fm f26 fun b hb => by rw [hb, kp.t1]; exact ⟨by decide, fun i _ => by unfold tgP; omega⟩
theorem sc_Keeper_marks : FnScope ["self"] ["self"] (defScope s_Keeper_marks) := ⟨rfl, rfl, rfl, by decide +kernel, rfl, by decide +kernel, by decide +kernel⟩
theorem sc_Keeper_clauses : FnScope ["self"] ["self"] (defScope s_Keeper_clauses) := ⟨rfl, rfl, rfl, by decide +kernel, rfl, by decide +kernel, by decide +kernel⟩
theorem sc_Keeper_names : FnScope ["self"] ["self"] (defScope s_Keeper_names) := ⟨rfl, rfl, rfl, by decide +kernel, rfl, by decide +kernel, by decide +kernel⟩
def spCopy (f : KA → List V) (g : Dyn → List V) : Sp := fun vs H Q _ => ∃ (φ : Addr → Nat) (pa : Nat → Addr × Addr) (a : KA) (c : Core) (d : Dyn) (ah : List Dyn), vs = [.ref a.kp] ∧ KpAt K φ H pa a c d ah ∧ ∀ p H', H p = none → Sm H H' → H' p = some (.lst (f a ++ g d)) → Q (.ref p) H'
theorem cal_Keeper_marks (hd : Hd K mg) : C8.Met P w K mg base 1 (He.ga K "Keeper") "marks" (spCopy (K := K) (fun _ => []) (fun d => isV d.marks)) [] := by
  obtain ⟨fd, F⟩ := hd.d_Keeper_marks
  refine mk_met F hd.c_Keeper hd.m_Keeper_marks (F.bindsN fun _ _ _ _ _ _ us hl => match us, hl with | [_], _ => rfl) sc_Keeper_marks (fun vs H Q E h => ?_) (fun cdv A outer s H vs Q E hr h => ?_)
  · obtain ⟨_, _, _, _, _, _, rfl, _⟩ := h; rfl
  · obtain ⟨φ, pa, a, c, d, ah, rfl, kp, k⟩ := h
    exact ⟨_, (pss_one (ps_ret (pe_callTy call_list_of (by rfl) hd.f_list (by decide +kernel) (pa_cons (pe_fld (pv 0) rfl) pa_nil)))), _, rfl, _, _, _, _, _, rfl, kp.obj, hd.c_Keeper, hd.n_Keeper_held_marks, rfl, a.hm, _, rfl, .inl (.of kp.hm), fun p np => upd_new np fun H1 s1 q1 => k p H1 np s1 q1⟩
theorem cal_Keeper_clauses (hd : Hd K mg) : C8.Met P w K mg base 1 (He.ga K "Keeper") "clauses" (spCopy (K := K) (fun a => a.cv) (fun _ => [])) [] := by
  obtain ⟨fd, F⟩ := hd.d_Keeper_clauses
  refine mk_met F hd.c_Keeper hd.m_Keeper_clauses (F.bindsN fun _ _ _ _ _ _ us hl => match us, hl with | [_], _ => rfl) sc_Keeper_clauses (fun vs H Q E h => ?_) (fun cdv A outer s H vs Q E hr h => ?_)
  · obtain ⟨_, _, _, _, _, _, rfl, _⟩ := h; rfl
  · obtain ⟨φ, pa, a, c, d, ah, rfl, kp, k⟩ := h
    exact ⟨_, (pss_one (ps_ret (pe_callTy call_list_of (by rfl) hd.f_list (by decide +kernel) (pa_cons (pe_fld (pv 0) rfl) pa_nil)))), _, rfl, _, _, _, _, _, rfl, kp.obj, hd.c_Keeper, hd.n_Keeper_told_clauses, rfl, a.tc, _, rfl, .inl (.of kp.tc), fun p np => upd_new np fun H1 s1 q1 => k p H1 np s1 (by rw [List.append_nil]; exact q1)⟩
theorem cal_Keeper_names (hd : Hd K mg) : C8.Met P w K mg base 1 (He.ga K "Keeper") "names" (spCopy (K := K) (fun a => a.mv) (fun _ => [])) [] := by
  obtain ⟨fd, F⟩ := hd.d_Keeper_names
  refine mk_met F hd.c_Keeper hd.m_Keeper_names (F.bindsN fun _ _ _ _ _ _ us hl => match us, hl with | [_], _ => rfl) sc_Keeper_names (fun vs H Q E h => ?_) (fun cdv A outer s H vs Q E hr h => ?_)
  · obtain ⟨_, _, _, _, _, _, rfl, _⟩ := h; rfl
  · obtain ⟨φ, pa, a, c, d, ah, rfl, kp, k⟩ := h
    exact ⟨_, (pss_one (ps_ret (pe_callTy call_list_of (by rfl) hd.f_list (by decide +kernel) (pa_cons (pe_fld (pv 0) rfl) pa_nil)))), _, rfl, _, _, _, _, _, rfl, kp.obj, hd.c_Keeper, hd.n_Keeper_meanings, rfl, a.me, _, rfl, .inl (.of kp.me), fun p np => upd_new np fun H1 s1 q1 => k p H1 np s1 (by rw [List.append_nil]; exact q1)⟩
end
end K59
set_option Elab.async false
set_option linter.all false
set_option maxRecDepth 100000
set_option maxHeartbeats 4000000
namespace K59
open PySem PySem.Spec PyProof.Rows L2
/-! ### dicts that tell which numbers are there -/
/-- just these numbers are keys -/
structure DS (kvs : List (Key × V)) (ns : List Int) : Prop where
  is : ∀ n : Int, (valV kvs (Sum.inl n : Key)).isSome = decide (n ∈ ns)
  le : kvs.length ≤ ns.length
theorem putK_len (kvs : List (Key × V)) (k : Key) (v : V) : (putK kvs k v).length ≤ kvs.length + 1 := by
  unfold putK
  split
  · rw [List.length_map]; omega
  · rw [List.length_append]; exact Nat.le_refl _
theorem DS.nil : DS [] [] := ⟨fun n => by rw [valV_nil]; simp, Nat.le_refl _⟩
theorem DS.put {kvs : List (Key × V)} {ns : List Int} (d : DS kvs ns) (n : Int) (v : V) : DS (putK kvs (Sum.inl n) v) (ns ++ [n]) := by
  refine ⟨fun m => ?_, ?_⟩
  · rw [valV_put]
    by_cases e : m = n
    · subst e; simp
    · have e' : ¬ (Sum.inl m : Key) = Sum.inl n := fun z => e (Sum.inl.inj z)
      rw [if_neg e', d.is]
      simp [e]
  · have := putK_len kvs (Sum.inl n) v
    have := d.le
    rw [List.length_append, List.length_singleton]; omega
theorem merge_some (k : Key) : ∀ (more kvs : List (Key × V)), (valV (mergeK kvs more) k).isSome = ((valV kvs k).isSome || (valV more k).isSome)
  | [], kvs => by show (valV kvs k).isSome = _; rw [valV_nil]; simp
  | p :: r, kvs => by
    show (valV (mergeK (putK kvs p.1 p.2) r) k).isSome = _
    rw [merge_some k r, valV_put]
    by_cases e : k = p.1
    · rw [if_pos e, valV_pos e.symm]; simp
    · rw [if_neg e, valV_neg fun z => e z.symm]
theorem DS.merge {kvs more : List (Key × V)} {ns ms : List Int} (d : DS kvs ns) (e : DS more ms) : DS (mergeK kvs more) (ns ++ ms) := by
  refine ⟨fun n => ?_, ?_⟩
  · rw [merge_some, d.is, e.is]
    by_cases h1 : n ∈ ns <;> by_cases h2 : n ∈ ms <;> simp [h1, h2]
  · have := length_mergeK more kvs
    have := d.le
    have := e.le
    rw [List.length_append]; omega
section
variable {J : It} {n : Nat} {G : Hp → Prop} {Y : Nat → Hp → V → Hp → Prop}
/-- {key: value for ..}, the i-th key is f i -/
theorem dc_all (w : Walk J n G Y) {g : TG} {tk tv : TE} {vs : List Nat} {σ : L2.St} {H1 : Hp} {M : Addr → Prop} {Qd : Addr → Hp → Prop} (f : Nat → Int)
    (hn : n < sizeLine) (hM : ∀ b, M b → H1 b ≠ none) (hG : ∀ H, Fm M H1 H → G H)
    (hs : ∀ i x H H' (Qk : V → V → Hp → Prop), i < n → Fm M H1 H → Y i H x H' → (∀ z H5, Fm M H H5 → Qk (.int (f i)) z H5) → g x (wipe σ vs) H' fun σ2 H2 => wipe σ2 vs = wipe σ vs ∧ tk σ2 H2 fun y H4 => tv σ2 H4 fun z H5 => Qk y z H5)
    (hd : ∀ D kvs H', H1 D = none → Fm M H1 H' → H' D = some (.dK kvs) → DS kvs ((List.range n).map f) → Qd D H') :
    ∀ D, H1 D = none → ∃ W : Nat → Nat → Hp → Prop, (∃ m, W 0 m (upd H1 D (.dK []))) ∧ ∀ i m H, W i m H →
      (J.stop i H ∧ Qd D H) ∨ (J.go i H ∧ ∃ Nx : Hp → Prop, (∀ H', Nx H' → ∃ m', m' < m ∧ W (i + 1) m' H') ∧ ∀ x H', J.yld i H x H' → g x (wipe σ vs) H' fun σ2 H2 => wipe σ2 vs = wipe σ vs ∧ tYes σ2 H2 fun b H3 =>
        if b = true then tk σ2 H3 fun y H4 => tv σ2 H4 fun z H5 => ∃ kvs k, y = kV k ∧ H5 D = some (.dK kvs) ∧ kvs.length < sizeLine ∧ Nx (upd H5 D (.dK (putK kvs k z))) else Nx H3) := by
  intro D nD
  have mD : ¬ M D := fun z => hM D z nD
  refine ⟨fun i m H => m = n - i ∧ i ≤ n ∧ Fm M H1 H ∧ ∃ kvs, H D = some (.dK kvs) ∧ DS kvs ((List.range i).map f), ⟨n, by simp, Nat.zero_le _, .new nD, [], upd_same, .nil⟩, ?_⟩
  rintro i m H ⟨rfl, hi, fm, kvs, hD, ds⟩
  have q := hG H fm
  by_cases hlt : i < n
  · refine .inr ⟨w.goes i H hlt q, fun H => Fm M H1 H ∧ ∃ kvs, H D = some (.dK kvs) ∧ DS kvs ((List.range (i + 1)).map f), fun H' p => ⟨n - (i + 1), by omega, rfl, hlt, p⟩, fun x H' y => ?_⟩
    have h := hs i x H H' (fun y z H5 => ∃ kvs k, y = kV k ∧ H5 D = some (.dK kvs) ∧ kvs.length < sizeLine ∧ (Fm M H1 (upd H5 D (.dK (putK kvs k z))) ∧ ∃ kvs', (upd H5 D (.dK (putK kvs k z))) D = some (.dK kvs') ∧ DS kvs' ((List.range (i + 1)).map f))) hlt fm (w.yields i H x H' hlt q y) fun z H5 f5 => ?_
    · exact h
    · have hD5 := f5.keep _ _ hD mD
      have hl := ds.le
      rw [List.length_map, List.length_range] at hl
      refine ⟨kvs, Sum.inl (f i), rfl, hD5, by omega, (fm.trans f5).over nD, _, upd_same, ?_⟩
      rw [List.range_succ, List.map_append]
      exact ds.put (f i) z
  · have e : i = n := by omega
    subst e
    exact .inl ⟨w.stops H q, hd D kvs H nD fm hD ds⟩
end
end K59
set_option Elab.async false
set_option linter.all false
set_option maxRecDepth 100000
set_option maxHeartbeats 4000000
namespace K59
open PySem PySem.Spec PyProof.Rows L2
section
variable {P : Program} {w : World} {K : PySem.W.Frag} {mg : Str → Option Value} {base : Heap}
theorem map_range_get {l : List Int} : (List.range l.length).map (fun i => l.getD i 0) = l := by
  refine List.ext_getElem? fun i => ?_
  rw [List.getElem?_map]
  by_cases h : i < l.length
  · rw [List.getElem?_range h, List.getElem?_eq_getElem h]
    simp [List.getD_eq_getElem?_getD, h]
  · rw [List.getElem?_eq_none (by simp; omega), List.getElem?_eq_none (by omega)]; rfl
theorem getD_of {l : List Int} {i : Nat} {m : Int} (h : l[i]? = some m) : l.getD i 0 = m := by
  rw [List.getD_eq_getElem?_getD, h]; rfl
theorem sc_Keeper_check_more : FnScope ["self", "marks", "part", "there", "many", "name", "meaning"] ["self", "marks", "part"] (defScope s_Keeper_check_more) := ⟨rfl, rfl, rfl, by decide +kernel, rfl, by decide +kernel, by decide +kernel⟩
def spCheckMore : Sp := fun vs H Q _ => ∃ (am : Addr) (v : V) (ms : List Int) (p : Part) (φ : Addr → Nat) (pa : Nat → Addr × Addr) (a : KA) (c : Core) (d : Dyn) (ah : List Dyn), vs = [.ref a.kp, .ref am, v] ∧ KpAt K φ H pa a c d ah ∧ H am = some (.lst (isV ms)) ∧ MarksOk ms ∧
  okD DP p ∧ p.sz = ms.length ∧ PartAt H v p ∧ d.marks.length + ms.length ≤ 60 ∧ c.names.length ≤ 5000 ∧ (∀ m ∈ ms, absI m ∉ d.marks.map absI ∧ absI m ∉ c.names) ∧ (∀ t, d.top = some t → t < d.cap ∨ ((d.marks.length + ms.length : Nat) : Int) ≤ t) ∧
  ∀ H', Sm H H' → Q .non H'
theorem cal_Keeper_check_more (hd : Hd K mg) : C8.Met P w K mg base 29 (He.ga K "Keeper") "check_more" (spCheckMore (K := K)) [] := by
  obtain ⟨fd, F⟩ := hd.d_Keeper_check_more
  refine mk_met F hd.c_Keeper hd.m_Keeper_check_more (F.bindsN fun _ _ _ _ _ _ us hl => match us, hl with | [_, _, _], _ => rfl) sc_Keeper_check_more (fun vs H Q E h => ?_) (fun cdv A outer s H vs Q E hr h => ?_)
  · obtain ⟨_, _, _, _, _, _, _, _, _, _, rfl, _⟩ := h; rfl
  · obtain ⟨am, v, ms, p, φ, pa, a, c, d, ah, rfl, kp, ham, mo, okp, hsz, hpa, hle, hnl, hdis, htop, k⟩ := h
    refine ⟨_, PSs.nox (pss_cons (ps_expr (C8.pe_c (cal_check_marks hd) hr (by first | decide | omega) rfl (pa_cons (pv 1) pa_nil)))
    (pss_cons (ps_set (i := 3) sc_Keeper_check_more.nd rfl (Or.inr rfl) (pe_dc (own := [("name", 5)]) (g := (gName 5)) (tt := tYes) (tk := (tVar 5)) (tv := (tC (V.bl true))) rfl sc_Keeper_check_more.nd (pi_list (C8.pe_c (cal_names_of hd) hr (by first | decide | omega) rfl (pa_cons (pe_fld (pv 0) rfl) pa_nil))) (blkOk_by (N := ["self", "marks", "part", "there", "many", "name", "meaning"]) (sc := defScope s_Keeper_check_more) (by decide +kernel)) (fun _ _ _ _ _ => (pg_name (i := 5) sc_Keeper_check_more.nd rfl (Or.inl rfl))) (fun _ _ _ _ _ => pts_nil) (fun _ _ _ _ _ => (pv 5)) (fun _ _ _ _ _ => pe_bl)))
    (pss_cons (ps_expr (pe_bm PySem.F.plainAttrs_dict PySem.F.slot_dict_update PySem.F.type_dict_update mt_update (pv 3) (pa_cons (pe_dc (own := [("name", 5), ("meaning", 6)]) (g := (gTup K 2 (gCons (gName 5) (gCons (gName 6) gNil)))) (tt := tYes) (tk := (tVar 5)) (tv := (tC (V.bl true))) rfl sc_Keeper_check_more.nd (pi_list (pe_fld (pv 0) rfl)) (blkOk_by (N := ["self", "marks", "part", "there", "many", "name", "meaning"]) (sc := defScope s_Keeper_check_more) (by decide +kernel)) (fun _ _ _ _ _ => (pg_tup rfl (pgs_cons (pg_name (i := 5) sc_Keeper_check_more.nd rfl (Or.inl rfl)) (pgs_cons (pg_name (i := 6) sc_Keeper_check_more.nd rfl (Or.inl rfl)) pgs_nil)))) (fun _ _ _ _ _ => pts_nil) (fun _ _ _ _ _ => (pv 5)) (fun _ _ _ _ _ => pe_bl)) pa_nil)))
    (pss_cons (ps_set (i := 4) sc_Keeper_check_more.nd rfl (Or.inl rfl) (pe_op op_add (pe_callB call_len_seq (by rfl) hd.f_len PySem.boot_len (pa_cons (pe_fld (pv 0) rfl) pa_nil)) (pe_callB call_len_seq (by rfl) hd.f_len PySem.boot_len (pa_cons (pv 1) pa_nil))))
    (pss_cons (ps_if (PW.pt (pw_or (pt_cmpR op_gt (pv 4) (C8.pe_gc rfl hd.i_MOST_MARKS) (nomark _)) (pw_or1 (pt_val (pe_callB (cr_any rfl) (by rfl) hd.f_any (by decide +kernel) (pa_cons (pe_lc (own := [("name", 5)]) (g := (gName 5)) (tt := tYes) (te := (tDIn (tVar 5) (tVar 3))) rfl sc_Keeper_check_more.nd (pi_list (C8.pe_c (cal_names_of hd) hr (by first | decide | omega) rfl (pa_cons (pv 1) pa_nil))) (blkOk_by (N := ["self", "marks", "part", "there", "many", "name", "meaning"]) (sc := defScope s_Keeper_check_more) (by decide +kernel)) (fun _ _ _ _ _ => (pg_name (i := 5) sc_Keeper_check_more.nd rfl (Or.inl rfl))) (fun _ _ _ _ _ => pts_nil) (fun _ _ _ _ _ => (pe_cmp (pc_din (hu_of hr) (pv 5) (pv 3)) rfl))) pa_nil)))))) (pss_one ps_never) pss_nil)
    (pss_cons (ps_expr (C8.pe_c (cal_check_part hd) hr (by first | decide | omega) rfl (pa_cons (pv 2) (pa_cons (pe_callB call_len_seq (by rfl) hd.f_len PySem.boot_len (pa_cons (pv 1) pa_nil)) pa_nil))))
    (pss_one (ps_if (pt_val (C8.pe_mt (cal_Keeper_is_far hd) hr (by first | decide | omega) (pv 0) (pa_cons (pe_fld (pv 0) rfl) (pa_cons (pv 4) pa_nil)))) (pss_one ps_never) pss_nil)))))))), ?_⟩
    refine ⟨_, rfl, am, ms, rfl, ham, mo, fun H1 s1 => ?_⟩
    have kp1 := kp.sm s1
    have hmv := kp.nm.1
    refine ⟨_, rfl, _, _, _, _, _, rfl, kp1.obj, hd.c_Keeper, hd.n_Keeper_held_marks, rfl, a.hm, d.marks, rfl, kp1.hm, by omega, fun p2 H2 n2 s2 q2 => ?_⟩
    refine ⟨p2, rfl, ⟨_, .of q2⟩, dc_all walk_list (M := No) (fun i => (d.marks.map absI).getD i 0) (by rw [isV_len, List.length_map, sizeLine_eq]; omega) (fun _ z => z.elim) (fun H' f' => .of (Sm.at f' q2)) ?_ ?_⟩
    · rintro i x Ha Hb Qk hi fa ⟨rfl, hx⟩ kk
      obtain ⟨m, hm, rfl⟩ := isV_get hx
      refine ⟨rfl, _, rfl, ?_⟩
      have := kk (.bl true) Hb .refl
      rw [getD_of hm] at this
      exact this
    rintro p3 kvs H3 n3 s3 q3 ds3
    rw [isV_len, map_range_get] at ds3
    have f3 : Sm H H3 := (s1.trans s2).trans s3
    have kp3 := kp.sm f3
    refine ⟨_, rfl, .inr (.inr (.inl ⟨rfl, .inl ⟨_, q3⟩⟩)), ?_⟩
    refine ⟨_, rfl, _, _, _, _, _, rfl, kp3.obj, hd.c_Keeper, hd.n_Keeper_meanings, rfl, a.me, rfl, ⟨_, .of kp3.me⟩, dc_all walk_list (M := No) (fun i => c.names.getD i 0) (by rw [hmv, sizeLine_eq]; omega) (fun _ z => z.elim) (fun H' f' => .of (Sm.at f' kp3.me)) ?_ ?_⟩
    · rintro i x Ha Hb Qk hi fa ⟨rfl, hx⟩ kk
      obtain ⟨nm, hnm, t, mt, rfl, ht⟩ := kp3.nm.get hx
      refine ⟨t, _, rfl, .of (Sm.at fa ht), rfl, _, _, rfl, _, _, rfl, rfl, rfl, _, rfl, ?_⟩
      have := kk (.bl true) Hb .refl
      rw [getD_of hnm] at this
      exact this
    rintro p4 more H4 n4 s4 q4 ds4
    rw [hmv, map_range_get] at ds4
    have q34 := Sm.at s4 q3
    have hne : p3 ≠ p4 := ne_live q3 n4
    refine ⟨p3, p4, kvs, more, rfl, rfl, hne, q34, q4, ?_, upd_put q34 no_dK fun H5 f5 q5 => ?_⟩
    · have h1 := ds3.le
      have h2 := ds4.le
      rw [List.length_map] at h1
      rw [sizeLine_eq]; omega
    have ds5 := ds3.merge ds4
    have g5 : Sm H H5 := (f3.trans s4).over1 ((s1.trans s2).free n3) f5
    have kp5 := kp.sm g5
    have am5 := g5.at ham
    refine ⟨_, rfl, _, _, _, _, _, rfl, kp5.obj, hd.c_Keeper, hd.n_Keeper_held_marks, rfl, _, _, rfl, .inl (.of kp5.hm), _, rfl, _, _, rfl, .inl (.of am5), (d.marks.length : Int), (ms.length : Int), by rw [isV_len], by rw [isV_len], ?_⟩
    refine ⟨_, rfl, _, _, rfl, rfl, _, rfl, ifF (decide_eq_false (by omega)) ?_⟩
    refine ⟨_, rfl, am, ms, rfl, am5, by have := mo.few; omega, fun p6 H6 n6 s6 q6 => ?_⟩
    refine ⟨p6, rfl, ⟨_, .of q6⟩, lc_all walk_list (M := No) (fun i y H' => y = .bl false) (by rw [isV_len, List.length_map, sizeLine_eq]; have := mo.few; omega) (fun _ z => z.elim) (fun H' f' => .of (Sm.at f' q6)) (fun i y N H H' h f => h) ?_ ?_⟩
    · rintro j y Hc Hd' Qy hj fc ⟨rfl, hy⟩ kq
      obtain ⟨m, hm, rfl⟩ := isV_get hy
      have q5' := Sm.at fc (s6.at q5)
      refine ⟨rfl, _, rfl, _, rfl, p3, _, rfl, DGet.k (k := Sum.inl m) q5', kq _ _ .refl ?_⟩
      rw [ds5.is]
      refine congrArg V.bl (decide_eq_false fun z => ?_)
      obtain ⟨m', h1, rfl⟩ := List.mem_map.mp (List.mem_of_getElem? hm)
      rcases List.mem_append.mp z with z | z
      · exact (hdis m' h1).1 z
      · exact (hdis m' h1).2 z
    rintro p7 zs H7 n7 f7 q7 hz7 hh7
    have e7 : zs = (List.replicate zs.length false).map V.bl := by
      refine List.ext_getElem? fun i => ?_
      cases e : zs[i]? with
      | none => 
        have := List.getElem?_eq_none_iff.mp e
        rw [List.getElem?_eq_none (by simp; omega)]
      | some y =>
        have h1 := (List.getElem?_eq_some_iff.mp e).1
        rw [hh7 i y e, List.getElem?_map, List.getElem?_replicate, if_pos h1]; rfl
    rw [e7] at q7
    refine ⟨p7, _, rfl, .of q7, ?_⟩
    rw [show (List.replicate zs.length false).any id = false by simp]
    have g7 : Sm H H7 := (g5.trans s6).trans f7
    have kp7 := kp.sm g7
    refine ⟨_, rfl, ifF rfl ?_⟩
    refine ⟨_, rfl, _, rfl, _, _, rfl, .inl (.of (g7.at ham)), v, p, ms.length, by rw [isV_len]; rfl, okp, by omega, hsz, hpa.fm g7, fun H8 s8 => ?_⟩
    have kp8 := kp7.sm s8
    refine ⟨_, rfl, _, _, _, rfl, kp8.obj, rfl, _, rfl, _, _, _, _, _, rfl, kp8.obj, hd.c_Keeper, hd.n_Keeper_top, rfl, _, rfl, a.kp, _, _, d.top, d.cap, d.marks.length + ms.length, rfl, kp8.obj, rfl, htop, ?_⟩
    exact ⟨_, rfl, ifF rfl (k H8 (g7.trans s8))⟩
theorem Fm.step {M M' : Addr → Prop} {H H1 H2 : Hp} (x : Fm M' H H1) (y : Fm M H1 H2) (h : ∀ b, H b ≠ none → M b → M' b) : Fm M' H H2 :=
  ⟨fun b o e n => y.keep b o (x.keep b o e n) fun m => n (h b (live_of e) m), fun b xs e => y.tups b xs (x.tups b xs e), fun b e => y.live b (x.live b e)⟩
theorem KpAt.retag {φ φ' : Addr → Nat} {H : Hp} {pa : Nat → Addr × Addr} {a : KA} {c : Core} {d : Dyn} {ah : List Dyn} (k : KpAt K φ H pa a c d ah) (h : ∀ b, φ b = 0 ∨ PT (φ b) → φ' b = φ b) : KpAt K φ' H pa a c d ah := by
  obtain ⟨h1, t1, t2, t3, t4, t5, t6, h2, h3, h4, h5, h6, h7, h8, h9, h10⟩ := k
  have e : ∀ {b t}, φ b = t → (t = 0 ∨ PT t) → φ' b = t := fun hb ht => by rw [h _ (by rw [hb]; exact ht)]; exact hb
  refine ⟨h1, e t1 (.inr (.inl rfl)), e t2 (.inr (.inr (.inl rfl))), e t3 (.inr (.inr (.inr (.inl rfl)))), e t4 (.inr (.inr (.inr (.inr (.inl rfl))))), e t5 (.inl rfl), e t6 (.inl rfl), h2, h3, h4, h5, h6, h7, h8, h9.mono fun v x q => ?_, fun i hi => (h10 i hi).retag fun b hb => h b ?_⟩
  · obtain ⟨t, hm, gl, e1, q1, q2, q3, q4, q5⟩ := q
    exact ⟨t, hm, gl, e1, q1, q2, e q3 (.inl rfl), q4, e q5 (.inl rfl)⟩
  · rcases hb with hb | hb
    · exact .inl hb
    · exact .inr (.inr (.inr (.inr (.inr ⟨i, hb⟩))))
theorem KpAt.withG {φ : Addr → Nat} {H : Hp} {pa : Nat → Addr × Addr} {a : KA} {c : Core} {d : Dyn} {ah : List Dyn} {g : KS} (k : KpAt K φ H pa a c d ah) (h : PKs K φ H pa g.n g.ks c.outs) : KpAt K φ H pa a { c with g := g } d ah :=
  ⟨k.obj, k.t1, k.t2, k.t3, k.t4, k.t5, k.t6, k.hm, k.gl, k.me, k.nm, k.tc, k.cl, k.aa, k.dy, h⟩
theorem KpAt.set {φ : Addr → Nat} {H H' : Hp} {pa : Nat → Addr × Addr} {a : KA} {c : Core} {d d' : Dyn} {ah : List Dyn} {hm gl : Addr} {n : Int} (kp : KpAt K φ H pa a c d ah) (f : Fm (· = a.kp) H H') (q : H' a.kp = some (kpO K { a with hm := hm, gl := gl } { c with coming := n } d'))
    (h1 : H' hm = some (.lst (isV d'.marks))) (h2 : φ hm = 0) (h3 : H' gl = some (.lst (curV pa d'.cur))) (h4 : φ gl = 0) : KpAt K φ H' pa { a with hm := hm, gl := gl } { c with coming := n } d' ah := by
  have nt : ∀ {b t}, φ b = t → t ≠ 1 → b ≠ a.kp := fun hb ht z => ht (by rw [← hb, z, kp.t1])
  refine ⟨q, kp.t1, kp.t2, kp.t3, kp.t4, h2, h4, h1, h3, f.at kp.me (nt kp.t2 (by decide)), kp.nm.mono fun v x h => h.fm f, f.at kp.tc (nt kp.t3 (by decide)), kp.cl.mono fun v x h => h.fm f, f.at kp.aa (nt kp.t4 (by decide)), kp.dy.mono fun v x h => h.fm f fun b hb => by rw [hb, kp.t1]; decide, ?_⟩
  exact kp.ks.fm f fun b hb => by rw [hb, kp.t1]; exact ⟨by decide, fun i _ => by unfold tgP; omega⟩
/-- the knots with those that more marks bring -/
def moreG (g : KS) (L : Nat) (ms : List Int) (p : Part) : KS := ⟨(p.gat ms g).1.n + 1, updN (p.gat ms g).1.ks (p.gat ms g).1.n ⟨[.kn L, (p.gat ms g).2], (g.ks L).size + p.sz⟩⟩
def newIx (a b : Nat) : List Nat := (List.range (b - a)).map fun j => a + j
/-- the first name that is free behind marks -/
def topN (n : Int) (ms : List Int) : Int := ms.foldl (fun a m => if a < absI m + 1 then absI m + 1 else a) n
theorem topN_facts : ∀ (ms : List Int) (n : Int), n ≤ topN n ms ∧ (∀ m ∈ ms, absI m + 1 ≤ topN n ms) ∧ (topN n ms = n ∨ ∃ m ∈ ms, topN n ms = absI m + 1)
  | [], n => ⟨Int.le_refl _, fun m h => absurd h List.not_mem_nil, Or.inl rfl⟩
  | m :: ms, n => by
    obtain ⟨h1, h2, h3⟩ := topN_facts ms (if n < absI m + 1 then absI m + 1 else n)
    show n ≤ topN (if n < absI m + 1 then absI m + 1 else n) ms ∧ (∀ x ∈ m :: ms, absI x + 1 ≤ topN (if n < absI m + 1 then absI m + 1 else n) ms) ∧ (topN (if n < absI m + 1 then absI m + 1 else n) ms = n ∨ ∃ x ∈ m :: ms, topN (if n < absI m + 1 then absI m + 1 else n) ms = absI x + 1)
    refine ⟨?_, fun x hx => ?_, ?_⟩
    · have h0 : n ≤ (if n < absI m + 1 then absI m + 1 else n) := by split <;> omega
      omega
    · rcases List.mem_cons.mp hx with rfl | hx
      · have h0 : absI x + 1 ≤ (if n < absI x + 1 then absI x + 1 else n) := by split <;> omega
        omega
      · exact h2 x hx
    · rcases h3 with h3 | ⟨x, hx, h3⟩
      · rw [h3]
        split
        · exact Or.inr ⟨m, List.mem_cons_self .., rfl⟩
        · exact Or.inl rfl
      · exact Or.inr ⟨x, List.mem_cons_of_mem _ hx, h3⟩
def moreC (c : Core) (L : Nat) (ms : List Int) (p : Part) : Core := { c with g := moreG c.g L ms p, coming := topN c.coming ms }
def moreD (c : Core) (d : Dyn) (L : Nat) (ms : List Int) (p : Part) : Dyn := { d with marks := d.marks ++ ms, cur := d.cur ++ newIx c.g.n (moreG c.g L ms p).n }
/-- what a keeper asks of more marks -/
structure MoreOk (c : Core) (d : Dyn) (ah : List Dyn) (L : Nat) (ms : List Int) (p : Part) : Prop where
  mo : MarksOk ms
  okp : okD DP p
  sz : p.sz = ms.length
  nk : p.nk ≤ 10
  few : d.marks.length + ms.length ≤ 60
  nms : c.names.length ≤ 5000
  cls : c.clauses.length ≤ 2000
  dis : ∀ m ∈ ms, absI m ∉ d.marks.map absI ∧ absI m ∉ c.names
  top : ∀ t, d.top = some t → t < d.cap ∨ ((d.marks.length + ms.length : Nat) : Int) ≤ t
  last : ∃ l, d.cur = l ++ [L]
  cur : ∀ i ∈ d.cur, i < c.g.n
  aha : ∀ e ∈ ah, ∀ i ∈ e.cur, i < c.g.n
  ahl : ah.length ≤ 1000
  cul : d.cur.length ≤ 100
  cap : 1 ≤ d.cap
  ok : KsOk c.g.n c.g.ks
  ol : OutsLe c
  out0 : ∀ i, c.g.n ≤ i → c.outs i = []
  ok2 : KsOk (moreG c.g L ms p).n (moreG c.g L ms p).ks
  rd : Ready d.cap (moreC c L ms p) (newIx c.g.n (moreG c.g L ms p).n)
theorem sc_Keeper_more : FnScope ["self", "marks", "part", "found", "source", "name"] ["self", "marks", "part"] (defScope s_Keeper_more) := ⟨rfl, rfl, rfl, by decide +kernel, rfl, by decide +kernel, by decide +kernel⟩
def spMore : Sp := fun vs H Q _ => ∃ (am : Addr) (v : V) (ms : List Int) (p : Part) (L : Nat) (φ : Addr → Nat) (pa : Nat → Addr × Addr) (a : KA) (c : Core) (d : Dyn) (ah : List Dyn), vs = [.ref a.kp, .ref am, v] ∧ KpAt K φ H pa a c d ah ∧ Live φ H ∧ H am = some (.lst (isV ms)) ∧ PartAt H v p ∧ MoreOk c d ah L ms p ∧ ¬ PT (φ am) ∧
  ∀ q t hm gl ncv nmv φ' pa' H', H q = none → Ext φ φ' H → Live φ' H' → (∀ j, j < c.g.n → pa' j = pa j) → Fm (fun b => PT (φ b)) H H' →
    KpAt K φ' H' pa' { a with hm := hm, gl := gl, av := a.av ++ [t], cv := a.cv ++ ncv, mv := a.mv ++ nmv } (growAll d.cap (moreC c L ms p) (newIx c.g.n (moreG c.g L ms p).n)) (moreD c d L ms p) (ah ++ [d]) → H' q = some (.lst ncv) → Q (.ref q) H'
theorem cal_Keeper_more (hd : Hd K mg) : C8.Met P w K mg base 30 (He.ga K "Keeper") "more" (spMore (K := K)) [] := by
  obtain ⟨fd, F⟩ := hd.d_Keeper_more
  refine mk_met F hd.c_Keeper hd.m_Keeper_more (F.bindsN fun _ _ _ _ _ _ us hl => match us, hl with | [_, _, _], _ => rfl) sc_Keeper_more (fun vs H Q E h => ?_) (fun cdv A outer s H vs Q E hr h => ?_)
  · obtain ⟨_, _, _, _, _, _, _, _, _, _, _, rfl, _⟩ := h; rfl
  · obtain ⟨am, v, ms, p, L, φ, pa, a, c, d, ah, rfl, kp, lv, ham, hpa, o, hφam, k⟩ := h
    refine ⟨_, (pss_cons (ps_expr (C8.pe_mt (cal_Keeper_check_more hd) hr (by first | decide | omega) (pv 0) (pa_cons (pv 1) (pa_cons (pv 2) pa_nil))))
    (pss_cons (ps_set (i := 3) sc_Keeper_more.nd rfl (Or.inl rfl) (pe_lst pa_nil))
    (pss_cons (ps_set (i := 4) sc_Keeper_more.nd rfl (Or.inl rfl) (C8.pe_c (cal_gather hd) hr (by first | decide | omega) rfl (pa_cons (pv 2) (pa_cons (pe_callTy call_list_of (by rfl) hd.f_list (by decide +kernel) (pa_cons (pv 1) pa_nil)) (pa_cons (pv 3) pa_nil)))))
    (pss_cons (ps_expr (pe_bm PySem.F.plainAttrs_list PySem.F.slot_list_append PySem.F.type_list_append mt_append (pv 3) (pa_cons (C8.pe_mk (cal_Growing hd) hr (by first | decide | omega) rfl (pa_cons (pe_lst (pa_cons (pe_ix ix_list (pe_fld (pv 0) rfl) (pe_un un_neg pe_int) (fun _ _ => rfl)) (pa_cons (pv 4) pa_nil))) pa_nil)) pa_nil)))
    (pss_cons (ps_expr (C8.pe_mt (cal_Keeper_check_room hd) hr (by first | decide | omega) (pv 0) (pa_cons (pv 3) (pa_cons (pe_fld (pv 0) rfl) pa_nil))))
    (pss_cons (ps_expr (C8.pe_mt0 (cal_Keeper_note hd) hr (by first | decide | omega) (pv 0)))
    (pss_cons (ps_fld (pv 0) (pe_op op_cat (pe_fld (pv 0) rfl) (pe_callTy call_list_of (by rfl) hd.f_list (by decide +kernel) (pa_cons (pv 1) pa_nil))) rfl)
    (pss_cons (ps_fld (pv 0) (pe_op op_cat (pe_fld (pv 0) rfl) (pv 3)) rfl)
    (pss_cons (ps_fld (pv 0) (pe_callB (cr_max rfl) (by rfl) hd.f_max (by decide +kernel) (pa_cons (pe_op op_cat (pe_lst (pa_cons (pe_fld (pv 0) rfl) pa_nil)) (pe_lc (own := [("name", 5)]) (g := (gName 5)) (tt := tYes) (te := (tOp (rI0 fun i j => V.int (i + j)) (tVar 5) (tC (V.int 1)))) rfl sc_Keeper_more.nd (pi_list (C8.pe_c (cal_names_of hd) hr (by first | decide | omega) rfl (pa_cons (pv 1) pa_nil))) (blkOk_by (N := ["self", "marks", "part", "found", "source", "name"]) (sc := defScope s_Keeper_more) (by decide +kernel)) (fun _ _ _ _ _ => (pg_name (i := 5) sc_Keeper_more.nd rfl (Or.inl rfl))) (fun _ _ _ _ _ => pts_nil) (fun _ _ _ _ _ => (pe_op op_add (pv 5) pe_int)))) pa_nil)) rfl)
    (pss_one (ps_ret (C8.pe_mt (cal_Keeper_grow_all hd) hr (by first | decide | omega) (pv 0) (pa_cons (pv 3) pa_nil))))))))))))), ?_⟩
    obtain ⟨l, hcur⟩ := o.last
    have hLn : L < c.g.n := o.cur L (by rw [hcur]; simp)
    refine ⟨_, rfl, _, _, _, rfl, kp.obj, rfl, _, rfl, _, rfl, am, v, ms, p, φ, pa, a, c, d, ah, rfl, kp, ham, o.mo, o.okp, o.sz, hpa, o.few, o.nms, o.dis, o.top, fun H1 s1 => ?_⟩
    refine ⟨szN, fun pf nf => upd_new nf fun H2 s2 q2 => ?_⟩
    have f2 : Sm H H2 := s1.trans s2
    have nf0 := s1.free nf
    have kp2 : KpAt K (updA φ pf 9) H2 pa a c d ah := ((kp.sm s1).mv (M := No) o.ok.low o.cur o.aha .refl (fun _ z => z.elim) (Ext.one nf) fun _ _ => rfl).sm s2
    have lv2 : Live (updA φ pf 9) H2 := (lv.fm f2).one (live_of q2)
    refine ⟨_, rfl, _, rfl, am, _, rfl, .inl (.of (f2.at ham)), fun pl nl => upd_new nl fun H3 s3 q3 => ?_⟩
    have hfl : pf ≠ pl := ne_live q2 nl
    have hml := o.mo.few
    refine ⟨_, rfl, v, p, pl, pf, ms, [], updA φ pf 9, pa, c.g, rfl, o.okp, by decide, (hpa.fm f2).fm s3, q3, by rw [o.sz]; exact Nat.le_refl _, by omega, s3.at q2, by have := o.nk; show 0 + _ ≤ _; omega, updA_same, hfl.symm, lv2.fm s3, fun φ2 pa2 H4 G => ?_⟩
    have n9 : ¬ PT 9 := fun z => by
      rcases z with z | z | z | z | ⟨i, z⟩
      · cases z
      · cases z
      · cases z
      · cases z
      · unfold tgP at z; omega
    have hpf9 : φ2 pf = 9 := by rw [G.ext pf (live_of (s3.at q2))]; exact updA_same
    obtain ⟨r, hr0⟩ : ∃ r, r = p.gat ms c.g := ⟨_, rfl⟩
    have hrn := gat_n p ms c.g
    have hrk := gat_keep p ms c.g
    have hrs := gat_src p ms c.g
    have hrz := gat_sz p ms c.g
    rw [← hr0] at G hrn hrk hrs hrz
    have kp4 : KpAt K φ2 H4 pa2 a c d ah := (kp2.sm s3).mv o.ok.low o.cur o.aha G.fm (fun b hb => by rw [hb, updA_same]; exact ⟨by decide, n9⟩) G.ext G.same
    have pks4 : PKs K φ2 H4 pa2 r.1.n r.1.ks c.outs := by
      intro i hi
      by_cases h : i < c.g.n
      · rw [hrk i h]; exact kp4.ks i h
      · rw [o.out0 i (by omega)]; exact G.new i (by omega) hi
    have kp4' := kp4.withG (g := r.1) pks4
    have hgl4 := kp4.gl
    have egl : curV pa2 d.cur = curV pa2 l ++ [.ref (pa2 L).1] := by rw [hcur]; simp [curV]
    rw [egl] at hgl4
    refine ⟨_, rfl, .inl ⟨rfl, _, .of G.found⟩, ?_⟩
    refine ⟨_, rfl, _, _, _, _, _, rfl, kp4.obj, hd.c_Keeper, hd.n_Keeper_growers, rfl, _, rfl, a.gl, _, _, _, rfl, rfl, .of hgl4, atI_last _ _, _, rfl, szN, fun ps ns => upd_new ns fun H5 s5 q5 => ?_⟩
    have pks5 := pks4.sm s5
    have lv5 := G.live.fm s5
    have pf5 := s5.at G.found
    have q5' : H5 ps = some (.lst ([Src.kn L, r.2].map (srcV pa2))) := by rw [hr0]; exact q5
    have hsrc : ∀ j, Src.kn j ∈ [Src.kn L, r.2] → j < r.1.n := by
      intro j hj
      rcases List.mem_cons.mp hj with e | hj
      · cases e; omega
      · rcases List.mem_cons.mp hj with e | hj
        · exact (hrs j e.symm).2
        · exact absurd hj List.not_mem_nil
    refine fun x dx nx ndx hdx => ?_
    have nx' : upd H5 dx (.own x) x = none := by rw [upd_ne (Ne.symm hdx)]; exact nx
    have g0 : Sm H5 (upd (upd H5 dx (.own x)) x (.ins (He.ga K "Growing") dx [])) := (Fm.new ndx).trans (.new nx')
    refine ⟨H5, x, dx, ps, φ2, pa2, r.1.ks, c.outs, [Src.kn L, r.2], rfl, upd_same, nx, g0, q5', fun j hj => pks5 j (hsrc j hj), (by show 2 ≤ 1000; decide), fun oo H6 no hox f6 qx qo => ⟨rfl, ?_⟩⟩
    have pf6 := f6.at pf5
    have hnl : (knV pa2 c.g.n (r.1.n - c.g.n)).length ≤ 10 := by
      have := o.nk
      simp only [knV, List.length_map, List.length_range]
      omega
    refine ⟨pf, _, _, rfl, rfl, pf6, by rw [sizeLine_eq]; show (knV pa2 c.g.n (r.1.n - c.g.n)).length < _; omega, upd_put pf6 no_lst fun H7 f7 q7 => ?_⟩
    have xpf : x ≠ pf := fun z => by rw [z, pf5] at nx; cases nx
    have opf : oo ≠ pf := fun z => by rw [z, pf5] at no; cases no
    have spf : ps ≠ pf := fun z => by rw [z, G.found] at ns; cases ns
    have sno : ps ≠ oo := fun z => by rw [← z, q5] at no; cases no
    have e5 : Ext φ2 (updA φ2 oo (tgP r.1.n)) H5 := Ext.one no
    have low2 : Low r.1.ks r.1.n := fun i hi j hj => by
      have := o.ok2.low i (by show i < (p.gat ms c.g).1.n + 1; rw [← hr0]; omega) j
      rw [show (moreG c.g L ms p).ks i = r.1.ks i from by show updN (p.gat ms c.g).1.ks (p.gat ms c.g).1.n _ i = _; rw [← hr0, updN_ne (by omega)]] at this
      exact this hj
    have kp5 : KpAt K (updA φ2 oo (tgP r.1.n)) H5 (updN pa2 r.1.n (x, oo)) a { c with g := r.1 } d ah :=
      (kp4'.sm s5).mv (M := No) low2 (fun i hi => by have := o.cur i hi; show i < r.1.n; omega) (fun e he i hi => by have := o.aha e he i hi; show i < r.1.n; omega) .refl (fun _ z => z.elim) e5 fun i hi => updN_ne (Nat.ne_of_lt hi)
    have hpf9' : updA φ2 oo (tgP r.1.n) pf = 9 := by rw [updA_ne opf.symm]; exact hpf9
    have kp7 : KpAt K (updA φ2 oo (tgP r.1.n)) H7 (updN pa2 r.1.n (x, oo)) a { c with g := r.1 } d ah :=
      (kp5.sm f6).mv low2 (fun i hi => by have := o.cur i hi; show i < r.1.n; omega) (fun e he i hi => by have := o.aha e he i hi; show i < r.1.n; omega) f7 (fun b hb => by rw [hb, hpf9']; exact ⟨by decide, n9⟩) .refl fun i hi => rfl
    have kp7' : KpAt K (updA (updA φ2 oo (tgP r.1.n)) pf 0) H7 (updN pa2 r.1.n (x, oo)) a { c with g := r.1 } d ah := kp7.retag fun b hb => by
      by_cases e : b = pf
      · rw [e, hpf9'] at hb
        rcases hb with hb | hb
        · cases hb
        · exact absurd hb n9
      · exact updA_ne e
    obtain ⟨φ3, hφ3⟩ : ∃ φ3, φ3 = updA (updA φ2 oo (tgP r.1.n)) pf 0 := ⟨_, rfl⟩
    obtain ⟨pa3, hpa3⟩ : ∃ pa3, pa3 = updN pa2 r.1.n (x, oo) := ⟨_, rfl⟩
    rw [← hφ3, ← hpa3] at kp7'
    have hx3 : pa3 r.1.n = (x, oo) := by rw [hpa3, updN_same]
    have hlt3 : ∀ i, i < r.1.n → pa3 i = pa2 i := fun i hi => by rw [hpa3, updN_ne (Nat.ne_of_lt hi)]
    have eg : moreG c.g L ms p = ⟨r.1.n + 1, updN r.1.ks r.1.n ⟨[.kn L, r.2], (c.g.ks L).size + p.sz⟩⟩ := by rw [hr0]; rfl
    have pks7 : PKs K φ3 H7 pa3 (moreG c.g L ms p).n (moreG c.g L ms p).ks c.outs := by
      rw [eg]
      intro i hi
      have hi : i < r.1.n + 1 := hi
      by_cases e : i = r.1.n
      · subst e
        show KnAt _ _ _ _ _ _ (updN _ _ _ _) _
        rw [updN_same, o.out0 _ (by omega)]
        refine ⟨⟨_, ps, ?_, ⟨dx, rfl⟩, ?_, ?_⟩, ?_, ?_, ?_⟩
        · rw [hx3]
          show H7 x = _
          rw [f7.at qx xpf]
          show some (HO.ins _ _ [_, ("size", iV ((r.1.ks L).size + (Src.sz r.1.ks r.2 + 0))), _]) = _
          rw [hrz, hrk L hLn]; rfl
        · rw [f7.at (f6.at q5') spf]
          exact congrArg (fun z => some (HO.lst z)) (srcV_eq (k := ⟨[Src.kn L, r.2], 0⟩) fun j hj => hlt3 j (hsrc j hj)).symm
        · rw [hφ3, updA_ne spf, updA_ne sno]; exact G.live.zero ns
        · rw [hx3, hφ3]
          show updA (updA φ2 oo _) pf 0 x = 0
          rw [updA_ne xpf, updA_ne hox.symm]; exact lv5.zero nx
        · rw [hx3]; exact f7.at qo opf
        · rw [hx3, hφ3]
          show updA (updA φ2 oo _) pf 0 oo = _
          rw [updA_ne opf, updA_same]
      · have h := kp7'.ks i (by show i < r.1.n; omega)
        show KnAt _ _ _ _ _ _ (updN _ _ _ _) _
        rw [updN_ne e]
        exact h
    have kp8 := kp7'.withG pks7
    have eix : newIx c.g.n (moreG c.g L ms p).n = newIx c.g.n (r.1.n + 1) := by rw [eg]
    have hpf7 : H7 pf = some (.lst (curV pa3 (newIx c.g.n (moreG c.g L ms p).n))) := by
      rw [q7, eix]
      show some (HO.lst (knV pa2 c.g.n (r.1.n - c.g.n) ++ [V.ref x])) = _
      have e1 : curV pa3 (newIx c.g.n (r.1.n + 1)) = knV pa3 c.g.n ((r.1.n - c.g.n) + 1) := by
        unfold curV newIx knV
        rw [List.map_map, show r.1.n + 1 - c.g.n = (r.1.n - c.g.n) + 1 by omega]; rfl
      rw [e1, ← knV_app, knV_eq (pa' := pa3) (pa := pa2) fun j hj => hlt3 j (by omega)]
      have e2 : c.g.n + (r.1.n - c.g.n) = r.1.n := by omega
      rw [e2]
      show _ = some (HO.lst (_ ++ [V.ref (pa3 (r.1.n + 0)).1]))
      rw [Nat.add_zero, hx3]
    have zpf : φ3 pf = 0 := by rw [hφ3, updA_same]
    have f07 : Sm H H7 := ((((f2.trans s3).over1 nf0 G.fm).trans s5).trans f6).over1 nf0 f7
    have e03 : Ext φ φ3 H := fun b hb => by
      have hbp : b ≠ pf := fun z => hb (by rw [z]; exact nf0)
      have hbo : b ≠ oo := fun z => by
        have := (((f2.trans s3).over1 nf0 G.fm).trans s5).live b hb
        rw [z] at this
        exact this no
      rw [hφ3, updA_ne hbp, updA_ne hbo, G.ext b ((f2.trans s3).live b hb), updA_ne hbp]
    have lv7 : Live φ3 H7 := fun b hb => by
      rw [hφ3] at hb
      by_cases e : b = pf
      · rw [e]; exact live_of q7
      · rw [updA_ne e] at hb
        by_cases e' : b = oo
        · rw [e']; exact live_of (f7.at qo opf)
        · rw [updA_ne e'] at hb
          exact f7.live b (f6.live b (lv5 b hb))
    have hixl : (newIx c.g.n (moreG c.g L ms p).n).length ≤ 11 := by
      have := o.nk
      rw [eix]
      simp only [newIx, List.length_map, List.length_range]; omega
    have hixn : ∀ i ∈ newIx c.g.n (moreG c.g L ms p).n, i < (moreG c.g L ms p).n := by
      intro i hi
      obtain ⟨j, hj, rfl⟩ := List.mem_map.mp hi
      have := List.mem_range.mp hj
      omega
    have hol : ∀ i, i < (moreG c.g L ms p).n → (c.outs i).length ≤ 12 := by
      intro i _
      by_cases h : i < c.g.n
      · exact Nat.le_trans (o.ol i h) (o.ok.le i h)
      · rw [o.out0 i (by omega)]; exact Nat.zero_le _
    have hsum : ∀ is : List Nat, (∀ i ∈ is, i < (moreG c.g L ms p).n) → (is.map fun i => aheadN (moreG c.g L ms p).ks ((moreG c.g L ms p).ks i) (c.outs i) d.cap).sum ≤ 64 * is.length := by
      intro is
      induction is with
      | nil => intro _; exact Nat.le_refl _
      | cons i is ih =>
        intro h
        have h1 := aheadN_le o.ok2 (h i (List.mem_cons_self ..)) (c.outs i) d.cap
        have h2 := ih fun j hj => h j (List.mem_cons_of_mem _ hj)
        rw [List.map_cons, List.sum_cons, List.length_cons]
        omega
    have hsum' := hsum _ hixn
    have hcl := o.cls
    refine ⟨_, rfl, _, _, _, rfl, kp8.obj, rfl, _, rfl, _, rfl, _, _, _, _, _, rfl, kp8.obj, hd.c_Keeper, hd.n_Keeper_cap, rfl, pf, φ3, pa3, a, c, _, d.cap, _, c.outs, _, _, rfl, kp8.obj, ⟨_, rfl, rfl, rfl⟩, kp8.tc, pks7, hpf7, o.ok2, hol, hixn, by omega, by rw [kp.cl.1]; omega, fun H8 s8 => ?_⟩
    have kp9 := kp8.sm s8
    refine ⟨_, rfl, _, _, _, rfl, kp9.obj, rfl, φ3, pa3, a, _, d, ah, rfl, kp9, o.ahl, fun t H9 f9 kp10 => ?_⟩
    have am7 : H7 am = some (.lst (isV ms)) := f07.at ham
    have zam : ¬ PT (φ3 am) := by rw [e03 am (live_of ham)]; exact hφam
    have z0 : ∀ b, φ3 b = 0 → ¬ PT (φ3 b) := fun b h p => p.ne h
    have am9 := f9.at (s8.at am7) zam
    have pf9 := f9.at (s8.at hpf7) (z0 _ zpf)
    have hdl := o.few
    refine ⟨_, rfl, _, _, _, _, _, rfl, kp10.obj, hd.c_Keeper, hd.n_Keeper_held_marks, rfl, _, rfl, am, _, rfl, .inl (.of am9), fun p10 n10 => upd_new n10 fun H10 s10 q10 => ?_⟩
    refine ⟨a.hm, p10, _, _, rfl, rfl, s10.at kp10.hm, q10, by rw [isV_len, isV_len, sizeLine_eq]; omega, fun p11 n11 => upd_new n11 fun H11 s11 q11 => ?_⟩
    have kp11 := (kp10.sm s10).sm s11
    refine ⟨_, rfl, _, _, _, _, rfl, kp11.obj, hd.c_Keeper, hd.n_Keeper_held_marks, fewF, upd_put kp11.obj no_ins fun H12 f12 q12 => ?_⟩
    have nt : ∀ {b t}, φ3 b = t → t ≠ 1 → b ≠ a.kp := fun hb ht z => ht (by rw [← hb, z]; exact kp8.t1)
    have gl12 := f12.at kp11.gl (nt kp8.t6 (by decide))
    have pf12 := f12.at (s11.at (s10.at pf9)) (nt zpf (by decide))
    have hcul := o.cul
    refine ⟨_, rfl, _, _, _, _, _, rfl, q12, hd.c_Keeper, hd.n_Keeper_growers, rfl, _, rfl, a.gl, pf, _, _, rfl, rfl, gl12, pf12, by simp only [curV, List.length_map]; rw [sizeLine_eq]; omega, fun p13 n13 => upd_new n13 fun H13 s13 q13 => ?_⟩
    have o13 := s13.at q12
    refine ⟨_, rfl, _, _, _, _, rfl, o13, hd.c_Keeper, hd.n_Keeper_growers, fewF, upd_put o13 no_ins fun H14 f14 q14 => ?_⟩
    refine ⟨_, rfl, _, _, _, _, _, rfl, q14, hd.c_Keeper, hd.n_Keeper_coming, rfl, szN, fun p15 n15 => upd_new n15 fun H15 s15 q15 => ?_⟩
    have akp : am ≠ a.kp := fun z => zam (by rw [z, kp8.t1]; exact .inl rfl)
    have am15 := s15.at (f14.at (s13.at (f12.at (s11.at (s10.at am9)) akp)) akp)
    refine ⟨_, rfl, am, ms, rfl, am15, by omega, fun p16 H16 n16 s16 q16 => ?_⟩
    refine ⟨p16, rfl, ⟨_, .of q16⟩, lc_all walk_list (M := No) (fun i y H' => ∃ m, ((ms.map absI).map fun m => m + 1)[i]? = some m ∧ y = .int m) (by rw [isV_len, List.length_map, sizeLine_eq]; omega) (fun _ z => z.elim) (fun H' f' => .of (Sm.at f' q16)) (fun i y N H H' h f => h) ?_ ?_⟩
    · rintro j y Hc Hd' Qy hj fc ⟨rfl, hy⟩ kq
      obtain ⟨m, hm, rfl⟩ := isV_get hy
      exact ⟨rfl, _, rfl, _, _, rfl, rfl, kq _ _ .refl ⟨m + 1, by rw [List.getElem?_map, hm]; rfl, rfl⟩⟩
    rintro p17 zs H17 n17 s17 q17 hz17 hh17
    have e17 := ext_isV (ns := (ms.map absI).map fun m => m + 1) (by rw [hz17, isV_len, List.length_map, List.length_map, List.length_map]) hh17
    rw [e17] at q17
    have q15' : H17 p15 = some (.lst [V.int c.coming]) := Sm.at (Fm.trans s16 s17) q15
    refine ⟨p15, p17, _, _, rfl, rfl, q15', q17, by rw [isV_len, List.length_map, List.length_map, sizeLine_eq]; show 1 + _ ≤ _; omega, fun p18 n18 => upd_new n18 fun H18 s18 q18 => ?_⟩
    refine ⟨p18, c.coming :: (ms.map absI).map fun m => m + 1, rfl, .of q18, Nat.succ_pos _, fun m hm hle => ?_⟩
    have em : m = topN c.coming ms := by
      obtain ⟨t1, t2, t3⟩ := topN_facts ms c.coming
      have h1 : m ≤ topN c.coming ms := by
        rcases List.mem_cons.mp hm with rfl | hm
        · exact t1
        · obtain ⟨x, hx, rfl⟩ := List.mem_map.mp hm
          obtain ⟨y, hy, rfl⟩ := List.mem_map.mp hx
          exact t2 y hy
      have h2 : topN c.coming ms ≤ m := by
        rcases t3 with t3 | ⟨y, hy, t3⟩
        · rw [t3]; exact hle _ (List.mem_cons_self ..)
        · rw [t3]; exact hle _ (List.mem_cons_of_mem _ (List.mem_map_of_mem (List.mem_map_of_mem hy)))
      omega
    subst em
    have o18 : H18 a.kp = _ := s18.at (Sm.at s17 (s16.at (s15.at q14)))
    refine ⟨_, rfl, _, _, _, _, rfl, o18, hd.c_Keeper, hd.n_Keeper_coming, fewF, upd_put o18 no_ins fun H19 f19 q19 => ?_⟩
    have f1119 : Fm (· = a.kp) H11 H19 := ((((((f12.trans s13.to).trans f14).trans s15.to).trans s16.to).trans (Fm.to s17)).trans s18.to).trans f19
    have f919 : Fm (· = a.kp) H9 H19 := (s10.to.trans s11.to).trans f1119
    have z11 : φ3 p11 = 0 := by
      have l9 : Live φ3 H10 := ((lv7.fm s8).fm f9).fm s10
      exact l9.zero n11
    have z13 : φ3 p13 = 0 := by
      have l9 : Live φ3 H12 := ((((lv7.fm s8).fm f9).fm s10).fm s11).fm f12
      exact l9.zero n13
    have p11kp := nt z11 (by decide)
    have p13kp := nt z13 (by decide)
    have f1419 : Fm (· = a.kp) H14 H19 := ((((s15.to.trans s16.to).trans (Fm.to s17)).trans s18.to).trans f19)
    have kp19 : KpAt K φ3 H19 pa3 { a with hm := p11, gl := p13, av := a.av ++ [t] } (moreC c L ms p) (moreD c d L ms p) (ah ++ [d]) := by
      refine kp11.set (hm := p11) (gl := p13) (n := topN c.coming ms) (d' := moreD c d L ms p) f1119 q19 ?_ z11 ?_ z13
      · refine (f1119.at q11 p11kp).trans ?_
        show some (HO.lst (isV d.marks ++ isV ms)) = some (HO.lst (isV (d.marks ++ ms)))
        rw [isV, isV, isV, List.map_append]
      · refine (f1419.at (f14.at q13 p13kp) p13kp).trans ?_
        show some (HO.lst (curV pa3 d.cur ++ curV pa3 _)) = some (HO.lst (curV pa3 (d.cur ++ _)))
        unfold curV
        rw [List.map_append]
    have pf19 := f919.at pf9 (nt zpf (by decide))
    have ol2 : OutsLe (moreC c L ms p) := by
      intro i hi
      by_cases h : i < c.g.n
      · have e : (moreC c L ms p).g.ks i = c.g.ks i := by
          show (moreG c.g L ms p).ks i = _
          rw [eg]
          show updN _ _ _ i = _
          rw [updN_ne (by omega), hrk i h]
        rw [e]; exact o.ol i h
      · show (c.outs i).length ≤ _
        rw [o.out0 i (by omega)]; exact Nat.zero_le _
    have f819 : Fm (fun b => PT (φ3 b)) H7 H19 := (s8.to.trans f9).trans (f919.mono fun b _ h => by rw [h]; exact .inl kp8.t1)
    have F19 : Fm (fun b => PT (φ b)) H H19 := (f07.to).step f819 fun b hb h => by rw [e03 b hb] at h; exact h
    have hnms := o.nms
    refine ⟨_, rfl, _, _, _, rfl, kp19.obj, rfl, _, rfl, pf, φ3, pa3, { a with hm := p11, gl := p13, av := a.av ++ [t] }, moreC c L ms p, moreD c d L ms p, _, newIx c.g.n (moreG c.g L ms p).n, rfl, kp19, pf19, zpf, o.ok2, ol2, o.rd, o.cap, by omega, by show c.clauses.length ≤ _; omega, hnms, fun q ncv nmv H20 nq f20 kp20 hq => ?_⟩
    have F20 : Fm (fun b => PT (φ b)) H H20 := F19.step f20 fun b hb h => by rw [e03 b hb] at h; exact h
    exact k q t p11 p13 ncv nmv φ3 pa3 H20 (F19.free nq) e03 (((lv7.fm f819)).fm f20) (fun j hj => by rw [hlt3 j (by omega)]; exact G.same j hj) F20 kp20 hq
end
end K59
set_option Elab.async false
set_option linter.all false
set_option maxRecDepth 100000
set_option maxHeartbeats 4000000
namespace K59
open PySem PySem.Spec PyProof.Rows L2
/-- the first knots -/
def g0 : KS := ⟨0, fun _ => ⟨[], 0⟩⟩
def core0 (ms : List Int) (p : Part) (fresh : Option Int) : Core := ⟨(p.gat ms g0).1, fun _ => [], [], [], freshI ms fresh⟩
def dyn0 (ms : List Int) (p : Part) (cap : Nat) : Dyn := ⟨none, cap, ms, newIx 0 (p.gat ms g0).1.n⟩
structure InitOk (ms : List Int) (p : Part) (cap : Nat) (fresh : Option Int) : Prop where
  mo : MarksOk ms
  okp : okD DP p
  sz : p.sz = ms.length
  nk : p.nk ≤ 30
  cap1 : 1 ≤ cap
  fr : ∀ n, fresh = some n → topI ms + 1 ≤ n
  ok : KsOk (p.gat ms g0).1.n (p.gat ms g0).1.ks
  rd : Ready cap (core0 ms p fresh) (newIx 0 (p.gat ms g0).1.n)
section
variable {P : Program} {w : World} {K : PySem.W.Frag} {mg : Str → Option Value} {base : Heap}
theorem sc_Keeper_init : FnScope ["self", "marks", "cap", "part", "fresh"] ["self", "marks", "cap", "part", "fresh"] (defScope s_Keeper_init) := ⟨rfl, rfl, rfl, by decide +kernel, rfl, by decide +kernel, by decide +kernel⟩
def spInit : Sp := fun vs H Q _ => ∃ (H0 : Hp) (x dx am : Addr) (v : V) (cap : Nat) (fresh : Option Int) (ms : List Int) (ps : List Part) (φ : Addr → Nat), vs = [.ref x, .ref am, iV cap, v, oV fresh] ∧ H x = some (.ins (He.ga K "Keeper") dx []) ∧ H0 x = none ∧ Sm H0 H ∧
  Live φ H0 ∧ (∀ b, ¬ PT (φ b)) ∧ H0 am = some (.lst (isV ms)) ∧ PartAt H0 v (.sums ps) ∧ InitOk ms (.sums ps) cap fresh ∧
  ∀ φ' pa a H', a.kp = x → Ext φ φ' H0 → Live φ' H' → Sm H0 H' → KpAt K φ' H' pa a (growAll cap (core0 ms (.sums ps) fresh) (newIx 0 ((Part.sums ps).gat ms g0).1.n)) (dyn0 ms (.sums ps) cap) [] → Q .non H'
theorem ok_Keeper (hd : Hd K mg) {fd : FuncData} (F : FunD K "__init__" "Keeper.__init__" (defArgs s_Keeper_init) (defBody s_Keeper_init) (defScope s_Keeper_init) [] [("fresh", .non)] (He.ma K (He.ga K "Keeper") "__init__") fd) :
    FnOk P w K mg base CX0 30 (He.ma K (He.ga K "Keeper") "__init__") fd ["self", "marks", "cap", "part", "fresh"] (spInit (K := K)) := by
  refine F.ok sc_Keeper_init (fun vs H Q E h => ?_) (fun cdv A outer s H vs Q E hr h => ?_)
  · obtain ⟨_, _, _, _, _, _, _, _, _, _, rfl, _⟩ := h; rfl
  · obtain ⟨H0, x, dx, am, v, cap, fresh, ms, ps, φ, rfl, hx, nx, f0, lv, hnp, ham, hpa, o, k⟩ := h
    refine ⟨_, PSs.nox (pss_cons (ps_expr (C8.pe_c (cal_check_marks hd) hr (by first | decide | omega) rfl (pa_cons (pv 1) pa_nil)))
    (pss_cons (ps_if (pt_val (pe_callB call_isi (by rfl) hd.f_isinstance (by decide +kernel) (pa_cons (pv 3) (pa_cons (pe_bltn (v := .ty "int") rfl hd.f_int (by decide +kernel) rfl) pa_nil)))) (pss_one ps_never) pss_nil)
    (pss_cons (ps_expr (C8.pe_c (cal_check_part hd) hr (by first | decide | omega) rfl (pa_cons (pv 3) (pa_cons (pe_callB call_len_seq (by rfl) hd.f_len PySem.boot_len (pa_cons (pv 1) pa_nil)) pa_nil))))
    (pss_cons (ps_fld (pv 0) (C8.pe_c (cal_first_fresh hd) hr (by first | decide | omega) rfl (pa_cons (pv 1) (pa_cons (pv 4) pa_nil))) rfl)
    (pss_cons (ps_fld (pv 0) (pe_callTy call_list_of (by rfl) hd.f_list (by decide +kernel) (pa_cons (pv 1) pa_nil)) rfl)
    (pss_cons (ps_fld (pv 0) (pv 2) rfl)
    (pss_cons (ps_fld (pv 0) pe_non rfl)
    (pss_cons (ps_fld (pv 0) (pe_lst pa_nil) rfl)
    (pss_cons (ps_fld (pv 0) (pe_lst pa_nil) rfl)
    (pss_cons (ps_fld (pv 0) (pe_lst pa_nil) rfl)
    (pss_cons (ps_fld (pv 0) (pe_lst pa_nil) rfl)
    (pss_cons (ps_expr (C8.pe_c (cal_gather hd) hr (by first | decide | omega) rfl (pa_cons (pv 3) (pa_cons (pe_callTy call_list_of (by rfl) hd.f_list (by decide +kernel) (pa_cons (pv 1) pa_nil)) (pa_cons (pe_fld (pv 0) rfl) pa_nil)))))
    (pss_cons (ps_expr (C8.pe_mt (cal_Keeper_check_room hd) hr (by first | decide | omega) (pv 0) (pa_cons (pe_fld (pv 0) rfl) (pa_cons (pv 2) pa_nil))))
    (pss_one (ps_expr (C8.pe_mt (cal_Keeper_grow_all hd) hr (by first | decide | omega) (pv 0) (pa_cons (pe_fld (pv 0) rfl) pa_nil))))))))))))))))), ?_⟩
    have hml := o.mo.few
    have hpa0 := hpa
    refine ⟨_, rfl, am, ms, rfl, f0.at ham, o.mo, fun H1 s1 => ?_⟩
    have f1 : Sm H0 H1 := f0.trans s1
    have hpa1 := hpa.fm f1
    have hpa1' := hpa1
    rw [PartAt] at hpa1'
    obtain ⟨ta, vs, rfl, hta, _⟩ := hpa1'
    refine ⟨_, rfl, _, _, _, _, _, rfl, .ty _, .base (.tup hta), kit_ty (r := false) (by decide +kernel), _, rfl, ifF rfl ?_⟩
    refine ⟨_, rfl, _, rfl, _, _, rfl, .inl (.of (f1.at ham)), _, Part.sums ps, ms.length, by rw [isV_len]; rfl, o.okp, by rw [o.sz]; exact hml, o.sz, hpa1, fun H2 s2 => ?_⟩
    have f2 : Sm H0 H2 := f1.trans s2
    refine ⟨_, rfl, _, rfl, am, ms, fresh, rfl, f2.at ham, by omega, o.mo.pos, o.fr, fun H3 s3 => ?_⟩
    have f3 : Sm H0 H3 := f2.trans s3
    have hx3 : H3 x = _ := s3.at (s2.at (s1.at hx))
    refine ⟨_, rfl, _, _, _, _, rfl, hx3, hd.c_Keeper, hd.n_Keeper_coming, fewF, upd_put hx3 no_ins fun H4 f4 q4 => ?_⟩
    have f4' : Sm H0 H4 := f3.over1 nx f4
    refine ⟨_, rfl, am, _, rfl, .inl (.of (f4'.at ham)), fun p5 n5 => upd_new n5 fun H5 s5 q5 => ?_⟩
    have f5 : Sm H0 H5 := f4'.trans s5
    have o5 := s5.at q4
    refine ⟨_, rfl, _, _, _, _, rfl, o5, hd.c_Keeper, hd.n_Keeper_held_marks, fewF, upd_put o5 no_ins fun H6 f6 q6 => ?_⟩
    refine ⟨_, rfl, _, rfl, _, _, _, _, rfl, q6, hd.c_Keeper, hd.n_Keeper_cap, fewF, upd_put q6 no_ins fun H7 f7 q7 => ?_⟩
    refine ⟨_, rfl, _, _, _, _, rfl, q7, hd.c_Keeper, hd.n_Keeper_top, fewF, upd_put q7 no_ins fun H8 f8 q8 => ?_⟩
    have f8' : Sm H0 H8 := ((f5.over1 nx f6).over1 nx f7).over1 nx f8
    refine ⟨szN, fun pg ng => upd_new ng fun H9 s9 q9 => ?_⟩
    have o9 := s9.at q8
    refine ⟨_, rfl, _, _, _, _, rfl, o9, hd.c_Keeper, hd.n_Keeper_growers, fewF, upd_put o9 no_ins fun H10 f10 q10 => ?_⟩
    have f10' : Sm H0 H10 := (f8'.trans s9).over1 nx f10
    refine ⟨szN, fun pm nm => upd_new nm fun H11 s11 q11 => ?_⟩
    have o11 := s11.at q10
    refine ⟨_, rfl, _, _, _, _, rfl, o11, hd.c_Keeper, hd.n_Keeper_meanings, fewF, upd_put o11 no_ins fun H12 f12 q12 => ?_⟩
    have f12' : Sm H0 H12 := (f10'.trans s11).over1 nx f12
    refine ⟨szN, fun pc nc => upd_new nc fun H13 s13 q13 => ?_⟩
    have o13 := s13.at q12
    refine ⟨_, rfl, _, _, _, _, rfl, o13, hd.c_Keeper, hd.n_Keeper_told_clauses, fewF, upd_put o13 no_ins fun H14 f14 q14 => ?_⟩
    have f14' : Sm H0 H14 := (f12'.trans s13).over1 nx f14
    refine ⟨szN, fun px npx => upd_new npx fun H15 s15 q15 => ?_⟩
    have o15 := s15.at q14
    refine ⟨_, rfl, _, _, _, _, rfl, o15, hd.c_Keeper, hd.n_Keeper_ahead, fewF, upd_put o15 no_ins fun H16 f16 q16 => ?_⟩
    have f16' : Sm H0 H16 := (f14'.trans s15).over1 nx f16
    -- who is who
    have xg : x ≠ pg := ne_live q8 ng
    have xm : x ≠ pm := ne_live q10 nm
    have xc : x ≠ pc := ne_live q12 nc
    have xx : x ≠ px := ne_live q14 npx
    have x5 : x ≠ p5 := ne_live q4 n5
    have g10 : H10 pg = some (.lst []) := f10.at q9 xg.symm
    have gm : pg ≠ pm := ne_live g10 nm
    have g12 := f12.at (s11.at g10) xg.symm
    have gc : pg ≠ pc := ne_live g12 nc
    have g14 := f14.at (s13.at g12) xg.symm
    have gx : pg ≠ px := ne_live g14 npx
    have g16 := f16.at (s15.at g14) xg.symm
    have m12 : H12 pm = some (.lst []) := f12.at q11 xm.symm
    have mc : pm ≠ pc := ne_live m12 nc
    have m14 := f14.at (s13.at m12) xm.symm
    have mx : pm ≠ px := ne_live m14 npx
    have m16 := f16.at (s15.at m14) xm.symm
    have c14 : H14 pc = some (.lst []) := f14.at q13 xc.symm
    have cx : pc ≠ px := ne_live c14 npx
    have c16 := f16.at (s15.at c14) xc.symm
    have x16 : H16 px = some (.lst []) := f16.at q15 xx.symm
    have f516 : Fm (· = x) H5 H16 := ((((((((f6.trans f7).trans f8).trans s9.to).trans f10).trans s11.to).trans f12).trans s13.to).trans f14).trans (s15.to.trans f16)
    have h16 : H16 p5 = some (.lst (isV ms)) := f516.at q5 x5.symm
    have n05 : H0 p5 = none := f4'.free n5
    have n0g : H0 pg = none := f8'.free ng
    have n0m : H0 pm = none := f10'.free nm
    have n0c : H0 pc = none := f12'.free nc
    have n0x : H0 px = none := f14'.free npx
    have p5g : p5 ≠ pg := ne_live (f8.at (f7.at (f6.at q5 x5.symm) x5.symm) x5.symm) ng
    have h10 : H10 p5 = some (.lst (isV ms)) := f10.at (s9.at (f8.at (f7.at (f6.at q5 x5.symm) x5.symm) x5.symm)) x5.symm
    have p5m : p5 ≠ pm := ne_live h10 nm
    have h12 := f12.at (s11.at h10) x5.symm
    have p5c : p5 ≠ pc := ne_live h12 nc
    have h14 := f14.at (s13.at h12) x5.symm
    have p5x : p5 ≠ px := ne_live h14 npx
    obtain ⟨φ1, hφ1⟩ : ∃ φ1, φ1 = updA (updA (updA (updA (updA φ pg 9) pm 2) pc 3) px 4) x 1 := ⟨_, rfl⟩
    have t1 : φ1 x = 1 := by rw [hφ1, updA_same]
    have t4 : φ1 px = 4 := by rw [hφ1, updA_ne xx.symm, updA_same]
    have t3 : φ1 pc = 3 := by rw [hφ1, updA_ne xc.symm, updA_ne cx, updA_same]
    have t2 : φ1 pm = 2 := by rw [hφ1, updA_ne xm.symm, updA_ne mx, updA_ne mc, updA_same]
    have t9 : φ1 pg = 9 := by rw [hφ1, updA_ne xg.symm, updA_ne gx, updA_ne gc, updA_ne gm, updA_same]
    have t0 : φ1 p5 = 0 := by rw [hφ1, updA_ne x5.symm, updA_ne p5x, updA_ne p5c, updA_ne p5m, updA_ne p5g]; exact lv.zero n05
    have ex1 : Ext φ φ1 H0 := fun b hb => by
      have q : ∀ {y}, H0 y = none → b ≠ y := fun hy z => hb (by rw [z]; exact hy)
      rw [hφ1, updA_ne (q nx), updA_ne (q n0x), updA_ne (q n0c), updA_ne (q n0m), updA_ne (q n0g)]
    have lv1 : Live φ1 H16 := by
      rw [hφ1]
      exact (((((lv.fm f16').one (live_of g16)).one (live_of m16)).one (live_of c16)).one (live_of x16)).one (live_of q16)
    have n9 : ¬ PT 9 := fun z => by
      rcases z with z | z | z | z | ⟨i, z⟩
      · cases z
      · cases z
      · cases z
      · cases z
      · unfold tgP at z; omega
    refine ⟨_, rfl, _, rfl, am, _, rfl, .inl (.of (f16'.at ham)), fun p17 n17 => upd_new n17 fun H17 s17 q17 => ?_⟩
    have g17 : pg ≠ p17 := ne_live g16 n17
    have f17' : Sm H0 H17 := f16'.trans s17
    have o17 := s17.at q16
    refine ⟨_, rfl, _, _, _, _, _, rfl, o17, hd.c_Keeper, hd.n_Keeper_growers, rfl, _, Part.sums ps, p17, pg, ms, [], φ1, fun _ => (x, x), g0, rfl, o.okp, by decide, hpa0.fm f17', q17, by rw [o.sz]; exact Nat.le_refl _, by omega, s17.at g16, by have := o.nk; show 0 + _ ≤ _; omega, t9, g17.symm, lv1.fm s17, fun φ2 pa2 H18 G => ?_⟩
    obtain ⟨r, hr0⟩ : ∃ r, r = ((Part.sums ps).gat ms g0).1 := ⟨_, rfl⟩
    have hrn : r.n = 0 + (Part.sums ps).nk := by rw [hr0]; exact gat_n (Part.sums ps) ms g0
    have ook := o.ok
    have ord := o.rd
    rw [← hr0] at G ook ord
    have tr : ∀ {b : Addr} {ob : HO} {t : Nat}, H17 b = some ob → φ1 b = t → φ2 b = t := fun hb ht => by rw [G.ext _ (live_of hb)]; exact ht
    have u1 := tr o17 t1
    have u2 := tr (s17.at m16) t2
    have u3 := tr (s17.at c16) t3
    have u4 := tr (s17.at x16) t4
    have u9 := tr (s17.at g16) t9
    have u0 := tr (s17.at h16) t0
    obtain ⟨φ3, hφ3⟩ : ∃ φ3, φ3 = updA φ2 pg 0 := ⟨_, rfl⟩
    have w1 : φ3 x = 1 := by rw [hφ3, updA_ne xg]; exact u1
    have w2 : φ3 pm = 2 := by rw [hφ3, updA_ne gm.symm]; exact u2
    have w3 : φ3 pc = 3 := by rw [hφ3, updA_ne gc.symm]; exact u3
    have w4 : φ3 px = 4 := by rw [hφ3, updA_ne gx.symm]; exact u4
    have w5 : φ3 p5 = 0 := by rw [hφ3, updA_ne p5g]; exact u0
    have w6 : φ3 pg = 0 := by rw [hφ3, updA_same]
    have pks : PKs K φ3 H18 pa2 r.n r.ks (fun _ => []) := fun i hi => (G.new i (Nat.zero_le _) hi).retag fun b hb => by
      by_cases e : b = pg
      · rw [e, u9] at hb
        rcases hb with hb | hb
        · cases hb
        · unfold tgP at hb; omega
      · rw [hφ3, updA_ne e]
    have hgl : H18 pg = some (.lst (curV pa2 (newIx 0 r.n))) := by
      rw [G.found]
      show some (HO.lst ([] ++ knV pa2 0 (r.n - 0))) = _
      rw [List.nil_append]
      unfold curV newIx knV
      rw [List.map_map]; rfl
    obtain ⟨a, ha⟩ : ∃ a : KA, a = ⟨x, dx, p5, pg, pm, pc, px, [], [], []⟩ := ⟨_, rfl⟩
    have kp : KpAt K φ3 H18 pa2 a (core0 ms (.sums ps) fresh) (dyn0 ms (.sums ps) cap) [] := by
      rw [ha]
      refine ⟨G.fm.at o17 xg, w1, w2, w3, w4, w5, w6, G.fm.at (s17.at h16) p5g, ?_, G.fm.at (s17.at m16) gm.symm, .nil, G.fm.at (s17.at c16) gc.symm, .nil, G.fm.at (s17.at x16) gx.symm, .nil, ?_⟩
      · show H18 pg = some (.lst (curV pa2 (newIx 0 ((Part.sums ps).gat ms g0).1.n)))
        rw [← hr0]; exact hgl
      · show PKs K φ3 H18 pa2 ((Part.sums ps).gat ms g0).1.n ((Part.sums ps).gat ms g0).1.ks (fun _ => [])
        rw [← hr0]; exact pks
    have akp : a.kp = x := by rw [ha]
    have agl : a.gl = pg := by rw [ha]
    have hobj := kp.obj
    rw [akp] at hobj
    have hixl : (newIx 0 r.n).length ≤ 30 := by
      have := o.nk
      simp only [newIx, List.length_map, List.length_range]; omega
    have hixn : ∀ i ∈ newIx 0 r.n, i < r.n := by
      intro i hi
      obtain ⟨j, hj, rfl⟩ := List.mem_map.mp hi
      have := List.mem_range.mp hj
      omega
    have hsum : ∀ is : List Nat, (∀ i ∈ is, i < r.n) → (is.map fun i => aheadN r.ks (r.ks i) [] cap).sum ≤ 64 * is.length := by
      intro is
      induction is with
      | nil => intro _; exact Nat.le_refl _
      | cons i is ih =>
        intro h
        have h1 := aheadN_le ook (h i (List.mem_cons_self ..)) [] cap
        have h2 := ih fun j hj => h j (List.mem_cons_of_mem _ hj)
        rw [List.map_cons, List.sum_cons, List.length_cons]
        omega
    have hsum' := hsum _ hixn
    refine ⟨_, rfl, _, _, _, rfl, hobj, rfl, _, rfl, _, _, _, _, _, rfl, hobj, hd.c_Keeper, hd.n_Keeper_growers, rfl, _, rfl, pg, φ3, pa2, a, core0 ms (.sums ps) fresh, r.n, cap, r.ks, fun _ => [], _, newIx 0 r.n, by rw [akp, agl]; rfl, kp.obj, ⟨_, rfl, rfl, rfl⟩, kp.tc, pks, hgl, ook, fun i _ => Nat.zero_le _, hixn, by omega, by rw [ha]; exact Nat.le_trans (Nat.le_of_eq (Nat.zero_add _)) (Nat.le_trans hsum' (by omega)), fun H19 s19 => ?_⟩
    have kp19 := kp.sm s19
    have hobj19 := s19.at hobj
    have f19' : Sm H0 H19 := ((f17'.over1 n0g G.fm).trans s19)
    refine ⟨_, rfl, _, _, _, rfl, hobj19, rfl, _, rfl, _, _, _, _, _, rfl, hobj19, hd.c_Keeper, hd.n_Keeper_growers, rfl, pg, φ3, pa2, a, core0 ms (.sums ps) fresh, dyn0 ms (.sums ps) cap, [], newIx 0 r.n, by rw [akp, agl]; rfl, kp19, s19.at hgl, w6, ?_, fun i hi => Nat.zero_le _, ord, o.cap1, by omega, Nat.zero_le _, Nat.zero_le _, fun p20 ncv nmv H20 np20 f20 kp20 hp20 => ?_⟩
    · show KsOk ((Part.sums ps).gat ms g0).1.n ((Part.sums ps).gat ms g0).1.ks
      rw [← hr0]; exact ook
    have ex3 : Ext φ φ3 H0 := fun b hb => by
      have q : ∀ {y}, H0 y = none → b ≠ y := fun hy z => hb (by rw [z]; exact hy)
      rw [hφ3, updA_ne (q n0g), G.ext b (f17'.live b hb)]
      exact ex1 b hb
    have lv3 : Live φ3 H18 := fun b hb => by
      rw [hφ3] at hb
      by_cases e : b = pg
      · rw [e]; exact live_of hgl
      · rw [updA_ne e] at hb
        exact G.live b hb
    rw [hr0] at kp20
    exact k φ3 pa2 { a with cv := a.cv ++ ncv, mv := a.mv ++ nmv } H20 akp ex3 ((lv3.fm s19).fm f20) (f19'.step f20 fun b hb h => by rw [ex3 b hb] at h; exact absurd h (hnp b)) kp20
theorem cal_Keeper (hd : Hd K mg) : C8.Mak P w K mg base 30 "Keeper" (He.ga K "Keeper") (spInit (K := K)) [.non] := by
  obtain ⟨fd, F⟩ := hd.d_Keeper_init
  obtain ⟨ds, rd, bd⟩ := F.binds0 (ps := ["self", "marks", "cap", "part", "fresh"]) 4 (by simp) rfl (fun D doc pm an cdv ct us ks hl hk => match us, ks, hl, hk with | [_, _, _, _], [_], _, _ => ⟨_, _, _, _, _, _, rfl, rfl, rfl⟩)
  exact ⟨_, fd, _, ds, hd.k_Keeper, ok_Keeper hd F, hd.g_Keeper, bd, rd⟩
theorem kb_Keeper (hd : Hd K mg) : ∃ fd g, FnOk P w K mg base CX0 30 (He.ma K (He.ga K "Keeper") "__init__") fd ["self", "marks", "cap", "part", "fresh"] (spInit (K := K)) ∧ KBn K fd ["self", "marks", "cap", "part", "fresh"] 4 ["fresh"] g (fun vs zs => vs ++ zs) := by
  obtain ⟨fd, F⟩ := hd.d_Keeper_init
  obtain ⟨mv, hb⟩ := F.kbinds0 (ps := ["self", "marks", "cap", "part", "fresh"]) 4 ["fresh"] [] (fun us _ ws => us ++ ws) (by simp) (fun q hq => absurd hq List.not_mem_nil) (fun r _ q => r.append q) (fun D doc pm an cdv ct us mv ws hl hm hw => match us, mv, ws, hl, hm, hw with | [_, _, _, _], [], [_], _, _, _ => rfl)
  exact ⟨fd, _, ok_Keeper hd F, hb⟩
end
end K59
set_option Elab.async false
set_option linter.all false
set_option maxRecDepth 100000
set_option maxHeartbeats 4000000
namespace K59
open PySem PySem.Spec PyProof.Rows L2
theorem le15 {α : Type} {l : List α} (h : Nat.ble l.length 15 = true := by rfl) : l.length ≤ 15 := Nat.le_of_ble_eq_true h
/-! ### the tape -/
def tpO (cl : Addr) (spot : Nat) (left : Int) : HO := .dK [(Sum.inr "cells", .ref cl), (Sum.inr "spot", iV spot), (Sum.inr "left", .int left)]
/-- a tape at t: at most n draws of cells so far -/
structure Tp (φ : Addr → Nat) (H : Hp) (t cl : Addr) (n : Nat) : Prop where
  ex : ∃ spot left cs, H t = some (tpO cl spot left) ∧ H cl = some (.lst (isV cs)) ∧ φ cl = 0 ∧ 0 < cs.length ∧ cs.length ≤ 63 ∧ spot ≤ n
  tag : φ t = 5
section
variable {P : Program} {w : World} {K : PySem.W.Frag} {mg : Str → Option Value} {base : Heap}
theorem sc_law_begun : FnScope ["_law_script"] ["_law_script"] (defScope s_law_begun) := ⟨rfl, rfl, rfl, by decide +kernel, rfl, by decide +kernel, by decide +kernel⟩
theorem sqL_sm {H H' : Hp} {a : Addr} {xs : List V} (h : SqL K H a xs) (f : Sm H H') : SqL K H' a xs := by
  rcases h with (h | ⟨o, h⟩) | h
  · exact .inl (.inl (f.at h))
  · exact .inl (.inr ⟨o, f.at h⟩)
  · exact .inr h
def spBegun : Sp := fun vs H Q _ => ∃ (a : Addr) (cs : List Int), vs = [.ref a] ∧ SqL K H a (isV cs) ∧ ∀ t cl cs' H', H t = none → H cl = none → t ≠ cl → Sm H H' → H' t = some (tpO cl 0 0) → H' cl = some (.lst (isV cs')) → 0 < cs'.length → cs'.length ≤ 63 → Q (.ref t) H'
theorem cal_law_begun (hd : Hd K mg) : C8.Cal P w K mg base 1 "_law_begun" (spBegun (K := K)) [] := by
  obtain ⟨fd, F⟩ := hd.d_law_begun
  refine mk_cal F hd.g_law_begun (F.bindsN fun _ _ _ _ _ _ us hl => match us, hl with | [_], _ => rfl) sc_law_begun (fun vs H Q E h => ?_) (fun cdv A outer s H vs Q E hr h => ?_)
  · obtain ⟨_, _, rfl, _⟩ := h; rfl
  · obtain ⟨a, cs, rfl, ha, k⟩ := h
    refine ⟨_, (pss_one (ps_ret (pe_disp (pps_cons pe_str (pe_orT (pe_slice sl_list (pv 0) po_none (po_some pe_int)) (pe_one (pe_lst (pa_cons pe_int pa_nil)))) (pps_cons pe_str pe_int (pps_cons pe_str pe_int pps_nil))) rfl rfl (fun z => nomatch z) (by decide)))), ?_⟩
    refine fun t nt => ?_
    refine upd_new nt fun H1 s1 q1 => ?_
    refine ⟨_, rfl, _, rfl, a, _, rfl, sqL_sm ha s1, fun p np => upd_new np fun H2 s2 q2 => ?_⟩
    have e2 : H2 p = some (.lst (isV (cs.take 63))) := by
      rw [q2]
      exact (congrArg (fun z => some (HO.lst z)) (cut_take (isV cs) 63)).trans (congrArg (fun z => some (HO.lst z)) (isV_take cs 63))
    have ht2 : H2 t = some (.dK []) := s2.at q1
    have hne : t ≠ p := ne_live q1 np
    cases hcs : (isV (cs.take 63)).isEmpty with
    | false =>
      refine ⟨true, .inl ⟨_, .of e2, by rw [hcs]; rfl⟩, ifT rfl ?_⟩
      refine ⟨ht2, [(Sum.inr "cells", .ref p), (Sum.inr "spot", .int 0), (Sum.inr "left", .int 0)], rfl, le15, upd_put ht2 no_dK fun H3 f3 q3 => ?_⟩
      refine k t p (cs.take 63) H3 nt (s1.free np) hne ((s1.trans s2).over1 nt f3) q3 (f3.at e2 hne.symm) ?_ (by rw [List.length_take]; omega)
      cases h : cs.take 63 with
      | nil => rw [h] at hcs; cases hcs
      | cons x xs => exact Nat.succ_pos _
    | true =>
      refine ⟨false, .inl ⟨_, .of e2, by rw [hcs]; rfl⟩, ifF rfl ⟨szN, fun p3 n3 => upd_new n3 fun H3 s3 q3 => ?_⟩⟩
      have ht3 := s3.at ht2
      have hne3 : t ≠ p3 := ne_live ht2 n3
      refine ⟨ht3, [(Sum.inr "cells", .ref p3), (Sum.inr "spot", .int 0), (Sum.inr "left", .int 0)], rfl, le15, upd_put ht3 no_dK fun H4 f4 q4 => ?_⟩
      exact k t p3 [0] H4 nt ((s1.trans s2).free n3) hne3 (((s1.trans s2).trans s3).over1 nt f4) q4 (f4.at q3 hne3.symm) (by decide) (by decide)
theorem sc_law_draw : FnScope ["_law_tape", "_law_many", "_law_found", "_law_spot", "_law_most", "_law_cell"] ["_law_tape", "_law_many"] (defScope s_law_draw) := ⟨rfl, rfl, rfl, by decide +kernel, rfl, by decide +kernel, by decide +kernel⟩
theorem tp_cells {cl : Addr} {spot : Nat} {left : Int} {H : Hp} {t : Addr} (h : H t = some (tpO cl spot left)) : DGet H t (.str "cells") (some (.ref cl)) := DGet.k (k := Sum.inr "cells") h
theorem tp_spot {cl : Addr} {spot : Nat} {left : Int} {H : Hp} {t : Addr} (h : H t = some (tpO cl spot left)) : DGet H t (.str "spot") (some (iV spot)) := DGet.k (k := Sum.inr "spot") h
theorem tp_left {cl : Addr} {spot : Nat} {left : Int} {H : Hp} {t : Addr} (h : H t = some (tpO cl spot left)) : DGet H t (.str "left") (some (.int left)) := DGet.k (k := Sum.inr "left") h
theorem tp_set_spot {cl : Addr} {spot : Nat} {left : Int} {H : Hp} {t : Addr} (h : H t = some (tpO cl spot left)) (n : Nat) : DPut H t (.str "spot") (iV n) (upd H t (tpO cl n left)) := DPut.k (k := Sum.inr "spot") h (by rw [sizeLine_eq]; show 3 < _; omega)
theorem tp_set_left {cl : Addr} {spot : Nat} {left : Int} {H : Hp} {t : Addr} (h : H t = some (tpO cl spot left)) (n : Int) : DPut H t (.str "left") (.int n) (upd H t (tpO cl spot n)) := DPut.k (k := Sum.inr "left") h (by rw [sizeLine_eq]; show 3 < _; omega)
theorem no_tp {cl : Addr} {spot : Nat} {left : Int} : ∀ xs, tpO cl spot left ≠ .tup xs := fun _ z => nomatch z
def spDraw : Sp := fun vs H Q _ => ∃ (t cl : Addr) (many : Nat) (φ : Addr → Nat) (n : Nat), vs = [.ref t, iV many] ∧ Tp φ H t cl n ∧ n ≤ 1000000000 ∧ 0 < many ∧ many < 1073741824 ∧ ∀ (r : Nat) H', Fm (· = t) H H' → Tp φ H' t cl (n + 1) → r < many → Q (iV r) H'
theorem cal_law_draw (hd : Hd K mg) : C8.Cal P w K mg base 1 "_law_draw" spDraw [] := by
  obtain ⟨fd, F⟩ := hd.d_law_draw
  refine mk_cal F hd.g_law_draw (F.bindsN fun _ _ _ _ _ _ us hl => match us, hl with | [_, _], _ => rfl) sc_law_draw (fun vs H Q E h => ?_) (fun cdv A outer s H vs Q E hr h => ?_)
  · obtain ⟨_, _, _, _, _, rfl, _⟩ := h; rfl
  · obtain ⟨t, cl, many, φ, n, rfl, ⟨⟨spot, left, cs, ht, hcl, zcl, c0, c63, hsp⟩, htag⟩, hn, hm0, hm, k⟩ := h
    refine ⟨_, (pss_cons (ps_if (pt_cmpR op_lt (pe_dget (hu_of hr) (pv 0) pe_str (fun _ _ => rfl)) (pv 1) (nomark _)) (pss_cons (ps_par (i := 3) (j := 4) rfl sc_law_draw.nd rfl rfl (by decide) rfl rfl (pa_cons (pe_dget (hu_of hr) (pv 0) pe_str (fun _ _ => rfl)) (pa_cons (pe_callB call_len_seq (by rfl) hd.f_len PySem.boot_len (pa_cons (pe_dget (hu_of hr) (pv 0) pe_str (fun _ _ => rfl)) pa_nil)) pa_nil)) rfl)
    (pss_cons (ps_asg (pe_tup (pa_cons (pe_ix ix_list (pe_dget (hu_of hr) (pv 0) pe_str (fun _ _ => rfl)) (pe_op op_mod (pv 3) (pv 4)) (fun _ _ => rfl)) (pa_cons (pe_op op_add (pv 3) pe_int) pa_nil))) (pg_tup rfl (pgs_cons (pg_name (i := 5) sc_law_draw.nd rfl (Or.inl rfl)) (pgs_cons (pg_sub (pv 0) pe_str (set_dict (hu_of hr))) pgs_nil))))
    (pss_cons (ps_dput (hu_of hr) (pv 0) pe_str (pe_op op_mod (pe_op op_pow (pe_op op_add (pe_op op_add (pe_op op_mod (pv 5) pe_int) (pe_op op_mul pe_int (pv 3))) pe_int) pe_int) (pe_op op_add (pe_op op_pow pe_int pe_int) pe_int)) rfl)
    (pss_one (ps_if (PW.pt (pw_and (pt_cmpR op_ge (pv 5) (pe_op op_pow pe_int pe_int) (nomark _)) (pw_and1 (pt_cmpR op_lt (pv 3) (pv 4) (nomark _))))) (pss_one (ps_dput (hu_of hr) (pv 0) pe_str (pe_op op_sub (pv 5) (pe_op op_pow pe_int pe_int)) rfl)) pss_nil))))) pss_nil)
    (pss_cons (ps_asg (pe_tup (pa_cons (pe_op op_mod (pe_dget (hu_of hr) (pv 0) pe_str (fun _ _ => rfl)) (pv 1)) (pa_cons (pe_op op_fdiv (pe_dget (hu_of hr) (pv 0) pe_str (fun _ _ => rfl)) (pv 1)) pa_nil))) (pg_tup rfl (pgs_cons (pg_name (i := 2) sc_law_draw.nd rfl (Or.inl rfl)) (pgs_cons (pg_sub (pv 0) pe_str (set_dict (hu_of hr))) pgs_nil))))
    (pss_one (ps_ret (pv 2))))), ?_⟩
    have hne : cl ≠ t := fun z => by rw [z, htag] at zcl; cases zcl
    -- the end: a number is taken off
    have last : ∀ (σ : L2.St) (H1 : Hp) (left1 : Int) (spot1 : Nat), spot1 ≤ n + 1 → Fm (· = t) H H1 → H1 t = some (tpO cl spot1 left1) → ∃ r : Nat, (left1 % (many : Int)) = (r : Int) ∧ ∀ x, Q (iV r) (upd H1 t (tpO cl spot1 x)) := by
      intro σ H1 left1 spot1 hs f1 h1
      have hpos : (0 : Int) < (many : Int) := by omega
      have hr0 := Int.emod_nonneg left1 (Int.ne_of_gt hpos)
      have hr1 := Int.emod_lt_of_pos left1 hpos
      refine ⟨(left1 % (many : Int)).toNat, by omega, fun x => ?_⟩
      refine k _ _ (f1.trans (.put h1 rfl no_tp)) ⟨⟨spot1, x, cs, upd_same, ?_, zcl, c0, c63, hs⟩, htag⟩ (by omega)
      rw [upd_ne hne]
      exact f1.at hcl hne
    have hpos : (0 : Int) < (many : Int) := by omega
    have hm' : (many : Int) < 1073741824 := by omega
    -- the two last statements
    refine ⟨_, rfl, t, _, rfl, tp_left ht, _, rfl, _, _, rfl, rfl, _, rfl, ite2 (fun c => ?pos) (fun c => ?neg)⟩
    case' neg =>
      refine ⟨_, rfl, t, _, rfl, tp_left ht, _, rfl, _, _, rfl, rfl, hpos, _, rfl, t, _, rfl, tp_left ht, _, rfl, _, _, rfl, rfl, ⟨hpos, hm'⟩, szN, fun p np => upd_new np fun H1 s1 q1 => ?_⟩
      obtain ⟨r, er, kr⟩ := last [] H1 left spot (by omega) s1.to (s1.at ht)
      refine ⟨p, _, rfl, .of q1, rfl, _, _, rfl, _, _, rfl, _, rfl, t, _, rfl, tp_set_left (s1.at ht) _, rfl, _, rfl, ?_⟩
      show Q (V.int (left % (many : Int))) _
      rw [er]
      exact kr _
    case' pos =>
      refine ⟨_, rfl, t, _, rfl, tp_spot ht, _, rfl, t, _, rfl, tp_cells ht, _, _, rfl, .inl (.of hcl), _, _, rfl, ?_⟩
      have hql : spot % cs.length < cs.length := Nat.mod_lt _ c0
      have eq1 : ((spot : Nat) : Int) % ((cs.length : Nat) : Int) = ((spot % cs.length : Nat) : Int) := rfl
      refine ⟨_, rfl, t, _, rfl, tp_cells ht, _, rfl, _, rfl, (spot : Int), (cs.length : Int), rfl, by rw [isV_len], by omega, cl, _, _, V.int cs[spot % cs.length], rfl, rfl, .of hcl, at_of (j := spot % cs.length) eq1 ?_, ?_⟩
      · rw [List.getElem?_map, List.getElem?_eq_getElem hql]; rfl
      generalize cs[spot % cs.length] = cell
      refine ⟨_, rfl, _, _, rfl, rfl, szN, fun p np => upd_new np fun H1 s1 q1 => ?_⟩
      have ht1 := s1.at ht
      refine ⟨p, _, rfl, .of q1, rfl, _, _, rfl, _, _, rfl, _, rfl, t, _, rfl, tp_set_spot ht1 (spot + 1), rfl, upd_put ht1 no_tp fun H2 f2 q2 => ?_⟩
      have hc0 := Int.emod_nonneg cell (show (2147483647 : Int) ≠ 0 by decide)
      have hc1 := Int.emod_lt_of_pos cell (show (0 : Int) < 2147483647 by decide)
      have hb : (cell % 2147483647 + 69621 * (spot : Int) + 48271).natAbs < 2 ^ 64 := by omega
      have hd : (0 : Int) < (10 : Int) ^ (50 : Int).toNat + 151 := by decide
      refine ⟨_, rfl, _, _, rfl, rfl, (show (0 : Int) < 2147483647 by decide), _, rfl, _, _, rfl, rfl, .inl ⟨by decide, by decide⟩, _, _, rfl, rfl, _, _, rfl, rfl, _, _, rfl, rfl, ⟨by decide, by decide, hb⟩, _, _, rfl, rfl, ⟨by decide, by decide, by decide⟩, _, _, rfl, rfl, _, _, rfl, rfl, hd, ?_⟩
      refine ⟨_, rfl, t, _, rfl, tp_set_left q2 _, upd_put q2 no_tp fun H3 f3 q3 => ?_⟩
      have f13 : Fm (· = t) H H3 := (s1.to.trans f2).trans f3
      refine ⟨_, rfl, _, _, rfl, rfl, ⟨by decide, by decide, by decide⟩, _, _, rfl, rfl, _, rfl, ite2 (fun c => ?p1) (fun c => ?n1)⟩
      case' p1 =>
        refine ⟨_, rfl, _, rfl, _, _, rfl, rfl, _, rfl, ite2 (fun c => ?p2) (fun c => ?n2)⟩
        case' p2 =>
          refine ⟨_, rfl, _, _, rfl, rfl, ⟨by decide, by decide, by decide⟩, _, _, rfl, rfl, _, rfl, t, _, rfl, tp_set_left q3 _, upd_put q3 no_tp fun H4 f4 q4 => ?_⟩
          replace f13 : Fm (· = t) H H4 := f13.trans f4
          replace q3 := q4
      all_goals
        obtain ⟨r, er, kr⟩ := last [] _ _ (spot + 1) (by omega) f13 q3
        refine ⟨_, rfl, t, _, rfl, tp_left q3, _, rfl, _, _, rfl, rfl, hpos, _, rfl, t, _, rfl, tp_left q3, _, rfl, _, _, rfl, rfl, ⟨hpos, hm'⟩, szN, fun p np => upd_new np fun H5 s5 q5 => ?_⟩
        obtain ⟨r, er, kr⟩ := last [] H5 _ (spot + 1) (by omega) (f13.trans s5.to) (s5.at q3)
        refine ⟨p, _, rfl, .of q5, rfl, _, _, rfl, _, _, rfl, _, rfl, t, _, rfl, tp_set_left (s5.at q3) _, rfl, _, rfl, ?_⟩
        refine Eq.mp (congrArg (fun z => Q (V.int z) _) er.symm) (kr _)
end
end K59
set_option Elab.async false
set_option linter.all false
set_option maxRecDepth 100000
set_option maxHeartbeats 4000000
namespace K59
open PySem PySem.Spec PyProof.Rows L2
section
variable {J : It} {n : Nat} {G : Hp → Prop} {Y : Nat → Hp → V → Hp → Prop}
/-- as lc_all, with a fact that goes on from item to item -/
theorem lc_inv (w : Walk J n G Y) {g : TG} {te : TE} {vs : List Nat} {σ : L2.St} {H1 : Hp} {M : Addr → Prop} {Qd : Addr → Hp → Prop} (R : Nat → V → Hp → Prop) (I : Nat → Hp → Prop)
    (hn : n ≤ sizeLine) (hM : ∀ b, M b → H1 b ≠ none) (hG : ∀ H, Fm M H1 H → G H) (hR : ∀ i y N H H', R i y H → Fm N H H' → R i y H') (hI0 : I 0 H1) (hI : ∀ i D H H', H1 D = none → I i H → Fm (· = D) H H' → I i H')
    (hs : ∀ i x H H' (Qy : V → Hp → Prop), i < n → Fm M H1 H → I i H → Y i H x H' → (∀ y H4, Fm M H H4 → I (i + 1) H4 → R i y H4 → Qy y H4) → g x (wipe σ vs) H' fun σ2 H2 => wipe σ2 vs = wipe σ vs ∧ te σ2 H2 Qy)
    (hd : ∀ D ys H', H1 D = none → Fm M H1 H' → I n H' → H' D = some (.lst ys) → ys.length = n → (∀ i y, ys[i]? = some y → R i y H') → Qd D H') :
    ∀ D, H1 D = none → ∃ W : Nat → Nat → Hp → Prop, (∃ m, W 0 m (upd H1 D (.lst []))) ∧ ∀ i m H, W i m H →
      (J.stop i H ∧ Qd D H) ∨ (J.go i H ∧ ∃ Nx : Hp → Prop, (∀ H', Nx H' → ∃ m', m' < m ∧ W (i + 1) m' H') ∧ ∀ x H', J.yld i H x H' → g x (wipe σ vs) H' fun σ2 H2 => wipe σ2 vs = wipe σ vs ∧ tYes σ2 H2 fun b H3 =>
        if b = true then te σ2 H3 fun y H4 => ∃ acc, H4 D = some (.lst acc) ∧ acc.length < sizeLine ∧ Nx (upd H4 D (.lst (acc ++ [y]))) else Nx H3) := by
  intro D nD
  have mD : ¬ M D := fun z => hM D z nD
  refine lc_it w (g := g) (tt := tYes) (te := te) (vs := vs) (σ := σ) (H1 := H1) (D := D) (Qd := Qd D)
    (fun i H => Fm M H1 H ∧ I i H ∧ ∃ acc, H D = some (.lst acc) ∧ acc.length = i ∧ ∀ j z, acc[j]? = some z → R j z H) ?_ (fun i H _ p => hG H p.1) ?_ ?_
  · exact ⟨.new nD, hI 0 D H1 _ nD hI0 ((Fm.new nD).mono fun _ _ z => z), [], upd_same, rfl, fun j z e => by simp at e⟩
  · intro i x H H' hi p yy
    obtain ⟨f, hi0, acc, hD, hl, hall⟩ := p
    refine hs i x H H' _ hi f hi0 yy fun y H4 f4 i4 r4 => ?_
    have hD4 := f4.keep _ _ hD mD
    have f2 : Fm (· = D) H4 (upd H4 D (.lst (acc ++ [y]))) := .put hD4 rfl no_lst
    refine ⟨acc, hD4, by omega, (f.trans f4).over nD, hI (i + 1) D _ _ nD i4 f2, acc ++ [y], upd_same, by rw [List.length_append, hl]; rfl, fun j z e => ?_⟩
    by_cases c : j < acc.length
    · rw [List.getElem?_append_left c] at e
      exact hR j z _ _ _ (hR j z _ _ _ (hall j z e) f4) f2
    · rw [List.getElem?_append_right (by omega)] at e
      have ej : j - acc.length = 0 := by
        have := (List.getElem?_eq_some_iff.mp e).1
        simp at this; omega
      rw [ej] at e
      have ey : y = z := by simpa using e
      have ei : j = i := by omega
      subst ey; subst ei
      exact hR j y _ _ _ r4 f2
  · intro H p
    obtain ⟨f, hi0, acc, hD, hl, hall⟩ := p
    exact hd D acc H nD f hi0 hD hl hall
end
/-! ### the tape along a walk -/
section
variable {φ φ' : Addr → Nat} {H H' : Hp} {t cl D : Addr} {n m : Nat} {M : Addr → Prop}
theorem Tp.mono (h : Tp φ H t cl n) (l : n ≤ m) : Tp φ H t cl m := by
  obtain ⟨⟨spot, left, cs, h1, h2, h3, h4, h5, h6⟩, h7⟩ := h
  exact ⟨⟨spot, left, cs, h1, h2, h3, h4, h5, Nat.le_trans h6 l⟩, h7⟩
theorem Tp.tl (h : Tp φ H t cl n) : H t ≠ none := by
  obtain ⟨⟨spot, left, cs, h1, _⟩, _⟩ := h
  exact live_of h1
theorem Tp.cll (h : Tp φ H t cl n) : H cl ≠ none := by
  obtain ⟨⟨spot, left, cs, h1, h2, _⟩, _⟩ := h
  exact live_of h2
theorem Tp.fm (h : Tp φ H t cl n) (f : Fm M H H') (hM : ∀ b, M b → φ b ≠ 0 ∧ φ b ≠ 5) (e : Ext φ φ' H) : Tp φ' H' t cl n := by
  obtain ⟨⟨spot, left, cs, h1, h2, h3, h4, h5, h6⟩, h7⟩ := h
  exact ⟨⟨spot, left, cs, f.at h1 fun m => (hM _ m).2 h7, f.at h2 fun m => (hM _ m).1 h3, by rw [e cl (live_of h2)]; exact h3, h4, h5, h6⟩, by rw [e t (live_of h1)]; exact h7⟩
theorem Tp.sm (h : Tp φ H t cl n) (f : Sm H H') : Tp φ H' t cl n := h.fm f (fun _ z => z.elim) .refl
/-- something else is changed -/
theorem Tp.put (h : Tp φ H t cl n) (f : Fm (· = D) H H') (h1 : t ≠ D) (h2 : cl ≠ D) : Tp φ H' t cl n := by
  obtain ⟨⟨spot, left, cs, q1, q2, q3, q4, q5, q6⟩, q7⟩ := h
  exact ⟨⟨spot, left, cs, f.at q1 h1, f.at q2 h2, q3, q4, q5, q6⟩, q7⟩
theorem Tp.new {k : Nat} {H0 : Hp} (h0 : Tp φ H0 t cl k) (nD : H0 D = none) (h : Tp φ H t cl n) (f : Fm (· = D) H H') : Tp φ H' t cl n :=
  h.put f (fun z => h0.tl (by rw [z]; exact nD)) fun z => h0.cll (by rw [z]; exact nD)
/-- a list is no tape -/
theorem Tp.ne (h : Tp φ H t cl n) {a : Addr} {xs : List V} (e : H a = some (.lst xs)) : a ≠ t := by
  obtain ⟨⟨spot, left, cs, q1, _⟩, _⟩ := h
  intro z
  rw [z, q1] at e
  cases e
end
section
variable {P : Program} {w : World} {K : PySem.W.Frag} {mg : Str → Option Value} {base : Heap}
theorem sc_law_pick : FnScope ["_law_tape", "_law_some"] ["_law_tape", "_law_some"] (defScope s_law_pick) := ⟨rfl, rfl, rfl, by decide +kernel, rfl, by decide +kernel, by decide +kernel⟩
def spPick : Sp := fun vs H Q _ => ∃ (t cl a : Addr) (φ : Addr → Nat) (n : Nat) (xs : List V), vs = [.ref t, .ref a] ∧ Tp φ H t cl n ∧ n ≤ 1000000000 ∧ H a = some (.lst xs) ∧ 0 < xs.length ∧ xs.length ≤ 1000 ∧ ∀ (i : Nat) v H', xs[i]? = some v → Fm (· = t) H H' → Tp φ H' t cl (n + 1) → Q v H'
theorem cal_law_pick (hd : Hd K mg) : C8.Cal P w K mg base 2 "_law_pick" spPick [] := by
  obtain ⟨fd, F⟩ := hd.d_law_pick
  refine mk_cal F hd.g_law_pick (F.bindsN fun _ _ _ _ _ _ us hl => match us, hl with | [_, _], _ => rfl) sc_law_pick (fun vs H Q E h => ?_) (fun cdv A outer s H vs Q E hr h => ?_)
  · obtain ⟨_, _, _, _, _, _, rfl, _⟩ := h; rfl
  · obtain ⟨t, cl, a, φ, n, xs, rfl, tp, hn, ha, h0, hl, k⟩ := h
    refine ⟨_, (pss_one (ps_ret (pe_ix ix_list (pv 1) (C8.pe_c (cal_law_draw hd) hr (by first | decide | omega) rfl (pa_cons (pv 0) (pa_cons (pe_callB call_len_seq (by rfl) hd.f_len PySem.boot_len (pa_cons (pv 1) pa_nil)) pa_nil))) (fun _ _ => rfl)))), ?_⟩
    refine ⟨_, rfl, _, rfl, _, rfl, _, _, rfl, .inl (.of ha), t, cl, xs.length, φ, n, rfl, tp, hn, h0, by omega, fun r H1 f1 tp1 hr1 => ?_⟩
    have ha1 := f1.at ha (tp.ne ha)
    exact ⟨a, _, _, xs[r], rfl, rfl, .of ha1, atI_nat (List.getElem?_eq_getElem hr1), k r _ H1 (List.getElem?_eq_getElem hr1) f1 tp1⟩
theorem sc_law_size : FnScope ["_law_part", "_law_one"] ["_law_part"] (defScope s_law_size) := ⟨rfl, rfl, rfl, by decide +kernel, rfl, by decide +kernel, by decide +kernel⟩
theorem cal_law_size' (hd : Hd K mg) : ∀ d, C8.Cal P w K mg base (d + 1) "_law_size" (spSize d) [] := by
  intro d
  induction d with
  | zero =>
    obtain ⟨fd, F⟩ := hd.d_law_size
    exact mk_cal F hd.g_law_size (F.bindsN fun _ _ _ _ _ _ us hl => match us, hl with | [_], _ => rfl) sc_law_size (fun vs H Q E h => by obtain ⟨_, _, _, h, _⟩ := h; exact h.elim) (fun cdv A outer s H vs Q E hr h => by obtain ⟨_, _, _, h, _⟩ := h; exact h.elim)
  | succ d ih_law_size =>
    obtain ⟨fd, F⟩ := hd.d_law_size
    refine mk_cal F hd.g_law_size (F.bindsN fun _ _ _ _ _ _ us hl => match us, hl with | [_], _ => rfl) sc_law_size (fun vs H Q E h => ?_) (fun cdv A outer s H vs Q E hr h => ?_)
    · obtain ⟨_, _, rfl, _⟩ := h; rfl
    · obtain ⟨v, p, rfl, ok, hdl, hp, k⟩ := h
      refine ⟨_, (pss_one (ps_ret (pe_ifExp (pt_cmpR (op_eqD hr.units) (pv 0) pe_int (nomark _)) pe_int (pe_callB (cr_sum rfl) (by rfl) hd.f_sum (by decide +kernel) (pa_cons (pe_lc (own := [("_law_one", 1)]) (g := (gName 1)) (tt := tYes) (te := (tCall _ _ C8.E0 (tCons (tVar 1) tNil))) rfl sc_law_size.nd (pi_tup (pe_slice sl_tup (pv 0) (po_some pe_int) po_none)) (blkOk_by (N := ["_law_part", "_law_one"]) (sc := defScope s_law_size) (by decide +kernel)) (fun _ _ _ _ _ => (pg_name (i := 1) sc_law_size.nd rfl (Or.inl rfl))) (fun _ _ _ _ _ => pts_nil) (fun _ _ _ _ _ => (C8.pe_c ih_law_size hr (by first | decide | omega) rfl (pa_cons (pv 1) pa_nil)))) pa_nil))))), ?_⟩
      refine ⟨_, rfl, p.dat, .int 1, hp.dp, .int 1, dat_shaped ok (by omega), rfl, _, rfl, ?_⟩
      cases p with
      | one => exact ifT rfl (k H .refl)
      | sums ps =>
        refine ifF rfl ?_
        rw [PartAt] at hp
        obtain ⟨a, vs, rfl, ha, hps⟩ := hp
        have hlen := hps.len
        refine ⟨_, rfl, _, rfl, a, _, rfl, .of ha, cut_tail_ne _ _, fun q nq => upd_new nq fun H1 s1 q1 => ?_⟩
        rw [cut_tail] at q1
        refine ⟨q, rfl, ⟨_, .of q1⟩, lc_all walk_tup (M := No) (fun i y H' => ∃ m, (ps.map Part.sz)[i]? = some m ∧ y = iV m) ?_ (fun _ z => z.elim) (fun H' f' => .of (Sm.at f' q1)) (fun i y N H H' h f => h) ?_ ?_⟩
        · have := ok.2.1
          rw [hlen, sizeLine_eq]; omega
        · rintro j y Hc Hd' Qy hj fc ⟨rfl, hy⟩ kq
          obtain ⟨p, hpj, hpa⟩ := hps.get hy
          refine ⟨rfl, _, rfl, y, p, rfl, ok.2.2 p (List.mem_of_getElem? hpj), by omega, (hpa.fm s1).fm fc, fun H' s' => kq _ _ s' ⟨p.sz, by rw [List.getElem?_map, hpj]; rfl, rfl⟩⟩
        · rintro D zs Hq nD fe hD hz hh
          have e := ext_nsV (ns := ps.map Part.sz) (by rw [hz, hlen, List.length_map]) hh
          rw [e] at hD
          refine ⟨D, _, rfl, .of (asI hD), ?_⟩
          rw [sum_cast, ← szs_eq]
          exact k _ (s1.trans fe)
theorem cal_law_size (hd : Hd K mg) : C8.Cal P w K mg base 13 "_law_size" (spSize DP) [] := cal_law_size' hd DP
end
end K59
set_option Elab.async false
set_option linter.all false
set_option maxRecDepth 100000
set_option maxHeartbeats 4000000
namespace K59
open PySem PySem.Spec PyProof.Rows L2
theorem unlike61 : ∀ b : Nat, b < 60 → ∀ i : Nat, i < 12 → ∀ j : Nat, j < 12 → (1 + b) * i % 61 = (1 + b) * j % 61 → i = j := by decide +kernel
theorem natE (a b : Nat) : ((a : Int)) % (b : Int) = ((a % b : Nat) : Int) := rfl
/-- a list of ints, item by item -/
theorem nodup_of_idx {α : Type} {l : List α} (h : ∀ (i j : Nat) a, i < j → l[i]? = some a → l[j]? = some a → False) : l.Nodup := by
  rw [List.nodup_iff_pairwise_ne, List.pairwise_iff_getElem]
  intro i j hi hj hij e
  exact h i j l[i] hij (List.getElem?_eq_getElem hi) (by rw [List.getElem?_eq_getElem hj, e])
section
variable {P : Program} {w : World} {K : PySem.W.Frag} {mg : Str → Option Value} {base : Heap}
theorem sc_law_marks : FnScope ["_law_tape", "_law_many", "_law_first", "_law_by", "_law_far", "_law_names", "_law_signs", "_law_name", "_law_k"] ["_law_tape", "_law_many"] (defScope s_law_marks) := ⟨rfl, rfl, rfl, by decide +kernel, rfl, by decide +kernel, by decide +kernel⟩
def spLMarks : Sp := fun vs H Q _ => ∃ (t cl : Addr) (φ : Addr → Nat) (n many : Nat), vs = [.ref t, iV many] ∧ Tp φ H t cl n ∧ n ≤ 900000000 ∧ 1 ≤ many ∧ many ≤ 12 ∧ ∀ a ms H', Fm (· = t) H H' → Tp φ H' t cl (n + 20) → H a = none → H' a = some (.lst (isV ms)) → MarksOk ms → ms.length = many → Q (.ref a) H'
theorem cal_law_marks (hd : Hd K mg) : C8.Cal P w K mg base 3 "_law_marks" spLMarks [] := by
  obtain ⟨fd, F⟩ := hd.d_law_marks
  refine mk_cal F hd.g_law_marks (F.bindsN fun _ _ _ _ _ _ us hl => match us, hl with | [_, _], _ => rfl) sc_law_marks (fun vs H Q E h => ?_) (fun cdv A outer s H vs Q E hr h => ?_)
  · obtain ⟨_, _, _, _, _, rfl, _⟩ := h; rfl
  · obtain ⟨t, cl, φ, n, many, rfl, tp, hn, hm1, hm2, k⟩ := h
    refine ⟨_, (pss_cons (ps_asg (pe_tup (pa_cons (pe_op op_add pe_int (C8.pe_c (cal_law_draw hd) hr (by first | decide | omega) rfl (pa_cons (pv 0) (pa_cons pe_int pa_nil)))) (pa_cons (C8.pe_c (cal_law_pick hd) hr (by first | decide | omega) rfl (pa_cons (pv 0) (pa_cons (pe_lst (pa_cons pe_int (pa_cons pe_int (pa_cons pe_int (pa_cons pe_int pa_nil))))) pa_nil))) pa_nil))) (pg_tup rfl (pgs_cons (pg_name (i := 3) sc_law_marks.nd rfl (Or.inr rfl)) (pgs_cons (pg_name (i := 4) sc_law_marks.nd rfl (Or.inr rfl)) pgs_nil))))
    (pss_cons (ps_set (i := 2) sc_law_marks.nd rfl (Or.inr rfl) (C8.pe_c (cal_law_pick hd) hr (by first | decide | omega) rfl (pa_cons (pv 0) (pa_cons (pe_lst (pa_cons pe_int (pa_cons pe_int (pa_cons pe_int (pa_cons (pe_op op_add pe_int (C8.pe_c (cal_law_draw hd) hr (by first | decide | omega) rfl (pa_cons (pv 0) (pa_cons pe_int pa_nil)))) (pa_cons (pe_op op_sub (pe_op op_pow pe_int pe_int) (pe_op op_mul pe_int (pv 4))) pa_nil)))))) pa_nil))))
    (pss_cons (ps_asg (pe_tup (pa_cons (pe_lc (own := [("_law_k", 8)]) (g := (gName 8)) (tt := tYes) (te := (tOp (rI0 fun i j => V.int (i + j)) (tVar 2) (tOp (rI CMul fun i j => V.int (i * j)) (tVar 4) (tOp (rI (fun _ j => 0 < j) fun i j => V.int (i % j)) (tOp (rI CMul fun i j => V.int (i * j)) (tVar 3) (tVar 8)) (tC (V.int 61)))))) rfl sc_law_marks.nd (pi_range1 rfl hd.f_range (pa_cons (pv 1) pa_nil)) (blkOk_by (N := ["_law_tape", "_law_many", "_law_first", "_law_by", "_law_far", "_law_names", "_law_signs", "_law_name", "_law_k"]) (sc := defScope s_law_marks) (by decide +kernel)) (fun _ _ _ _ _ => (pg_name (i := 8) sc_law_marks.nd rfl (Or.inl rfl))) (fun _ _ _ _ _ => pts_nil) (fun _ _ _ _ _ => (pe_op op_add (pv 2) (pe_op op_mul (pv 4) (pe_op op_mod (pe_op op_mul (pv 3) (pv 8)) pe_int))))) (pa_cons (C8.pe_c (cal_law_pick hd) hr (by first | decide | omega) rfl (pa_cons (pv 0) (pa_cons (pe_lst (pa_cons pe_int (pa_cons pe_int (pa_cons pe_int (pa_cons pe_int pa_nil))))) pa_nil))) pa_nil))) (pg_tup rfl (pgs_cons (pg_name (i := 5) sc_law_marks.nd rfl (Or.inl rfl)) (pgs_cons (pg_name (i := 6) sc_law_marks.nd rfl (Or.inr rfl)) pgs_nil))))
    (pss_one (ps_ret (pe_lc (own := [("_law_name", 7)]) (g := (gName 7)) (tt := tYes) (te := (tIf (tTest (tOp (rI0 fun i j => V.bl (decide (i < j))) (tCall _ _ C8.E0 (tCons (tVar 0) (tCons (tVar 6) tNil))) (tOp (rI0 fun i j => V.int (i - j)) (tC (V.int 2)) (tOp (rI CDiv fun i j => V.int (i / j)) (tVar 6) (tC (V.int 2)))))) (tVar 7) (tOp (rI0 fun i j => V.int (i - j)) (tC (V.int 0)) (tVar 7)))) rfl sc_law_marks.nd (pi_list (pv 5)) (blkOk_by (N := ["_law_tape", "_law_many", "_law_first", "_law_by", "_law_far", "_law_names", "_law_signs", "_law_name", "_law_k"]) (sc := defScope s_law_marks) (by decide +kernel)) (fun _ _ _ _ _ => (pg_name (i := 7) sc_law_marks.nd rfl (Or.inl rfl))) (fun _ _ _ _ _ => pts_nil) (fun _ _ _ _ _ => (pe_ifExp (pt_cmpR op_lt (C8.pe_c (cal_law_draw hd) hr (by first | decide | omega) rfl (pa_cons (pv 0) (pa_cons (pv 6) pa_nil))) (pe_op op_sub pe_int (pe_op op_fdiv (pv 6) pe_int)) (nomark _)) (pv 7) (pe_op op_sub pe_int (pv 7)))))))))), ?_⟩
    refine ⟨_, rfl, t, cl, 60, φ, n, rfl, tp, by omega, by decide, by decide, fun r1 H1 f1 tp1 hr1 => ?_⟩
    refine ⟨_, _, rfl, rfl, _, rfl, szN, fun p2 n2 => upd_new n2 fun H2 s2 q2 => ?_⟩
    refine ⟨t, cl, p2, φ, n + 1, _, rfl, tp1.sm s2, by omega, q2, by decide, by decide, fun i3 v3 H3 hv3 f3 tp3 => ?_⟩
    have far : ∃ far : Nat, v3 = iV far ∧ 1 ≤ far ∧ far ≤ 16000000 := by
      have hv := List.mem_of_getElem? hv3
      simp only [List.mem_cons, List.not_mem_nil, or_false] at hv
      rcases hv with rfl | rfl | rfl | rfl
      · exact ⟨1, rfl, by decide, by decide⟩
      · exact ⟨1, rfl, by decide, by decide⟩
      · exact ⟨7, rfl, by decide, by decide⟩
      · exact ⟨16000000, rfl, by decide, by decide⟩
    obtain ⟨far, rfl, hf1, hf2⟩ := far
    refine ⟨szN, fun p4 n4 => upd_new n4 fun H4 s4 q4 => ?_⟩
    refine ⟨p4, _, rfl, .of q4, rfl, _, _, rfl, _, _, rfl, rfl, ?_⟩
    have tp4 := tp3.sm s4
    -- the first
    refine ⟨_, rfl, _, rfl, t, cl, 1000, φ, _, rfl, tp4, by omega, by decide, by decide, fun r5 H5 f5 tp5 hr5 => ?_⟩
    refine ⟨_, _, rfl, rfl, _, _, rfl, rfl, ⟨by decide, by decide, by decide⟩, _, rfl, _, _, rfl, rfl, .inl ⟨by decide, by decide⟩, _, _, rfl, rfl, szN, fun p6 n6 => upd_new n6 fun H6 s6 q6 => ?_⟩
    refine ⟨t, cl, p6, φ, n + 2 + 1, _, rfl, tp5.sm s6, by omega, q6, Nat.succ_pos _, by show 5 ≤ 1000; decide, fun i7 v7 H7 hv7 f7 tp7 => ?_⟩
    have fst : ∃ fi : Nat, v7 = iV fi ∧ 1 ≤ fi ∧ fi + 60 * far ≤ 1000000000 := by
      have hv := List.mem_of_getElem? hv7
      simp only [List.mem_cons, List.not_mem_nil, or_false] at hv
      rcases hv with rfl | rfl | rfl | rfl | rfl
      · exact ⟨1, rfl, by decide, by omega⟩
      · exact ⟨5, rfl, by decide, by omega⟩
      · exact ⟨95, rfl, by decide, by omega⟩
      · exact ⟨1 + r5, rfl, by omega, by omega⟩
      · refine ⟨1000000000 - 60 * far, congrArg V.int ?_, by omega, by omega⟩
        have e : (10 : Int) ^ (9 : Int).toNat = 1000000000 := by decide
        rw [e]
        omega
    obtain ⟨fi, rfl, hfi1, hfi2⟩ := fst
    have g7 : Fm (· = t) H H7 := (((((f1.trans s2.to).trans f3).trans s4.to).trans f5).trans s6.to).trans f7
    -- the names
    refine ⟨_, rfl, _, rfl, by omega, by omega, lc_all walk_range (M := No) (fun i y H' => y = iV (fi + far * ((1 + r1) * i % 61))) ?_ (fun _ z => z.elim) (fun H' f' => trivial) (fun i y N H H' h f => h) ?_ ?_⟩
    · rw [sizeLine_eq]; omega
    · rintro i y Ha Hb Qy hi fa yy kq
      obtain ⟨e1, e2⟩ := yy
      subst e1 e2
      refine ⟨rfl, _, rfl, _, rfl, _, rfl, _, rfl, _, _, rfl, rfl, .inl ⟨by omega, by omega⟩, _, _, rfl, rfl, (show (0 : Int) < 61 by decide), _, _, rfl, rfl, .inl ⟨by omega, by omega⟩, _, _, rfl, rfl, kq _ _ .refl ?_⟩
      show V.int _ = V.int _
      rw [Int.zero_add]; rfl
    rintro p8 zs H8 n8 f8 q8 hz8 hh8
    have hz8 : zs.length = many := by rw [hz8]; omega
    have g8 : Fm (· = t) H H8 := g7.trans (Fm.to f8)
    have tp8 := tp7.sm f8
    refine ⟨_, rfl, szN, fun p9 n9 => upd_new n9 fun H9 s9 q9 => ?_⟩
    refine ⟨t, cl, p9, φ, _, _, rfl, tp8.sm s9, by omega, q9, by decide, by decide, fun i10 v10 H10 hv10 f10 tp10 => ?_⟩
    have sg : ∃ sg : Nat, v10 = iV sg ∧ 1 ≤ sg ∧ sg ≤ 3 := by
      have hv := List.mem_of_getElem? hv10
      simp only [List.mem_cons, List.not_mem_nil, or_false] at hv
      rcases hv with rfl | rfl | rfl | rfl
      · exact ⟨1, rfl, by decide, by decide⟩
      · exact ⟨2, rfl, by decide, by decide⟩
      · exact ⟨2, rfl, by decide, by decide⟩
      · exact ⟨3, rfl, by decide, by decide⟩
    obtain ⟨sg, rfl, hs1, hs2⟩ := sg
    refine ⟨szN, fun p11 n11 => upd_new n11 fun H11 s11 q11 => ?_⟩
    refine ⟨p11, _, rfl, .of q11, rfl, _, _, rfl, _, _, rfl, rfl, ?_⟩
    have tp11 := tp10.sm s11
    have q8' : H11 p8 = some (.lst zs) := s11.at (f10.at (s9.at q8) (tp8.ne q8))
    have np8 : p8 ≠ t := tp11.ne q8'
    have g11 : Fm (· = t) H H11 := ((g8.trans s9.to).trans f10).trans s11.to
    -- the signs
    refine ⟨_, rfl, p8, rfl, ⟨_, .of q8'⟩, lc_inv walk_list (M := (· = t)) (fun i y H' => ∃ m : Int, y = .int m ∧ absI m = ((fi + far * ((1 + r1) * i % 61) : Nat) : Int)) (fun i H' => Tp φ H' t cl (n + 5 + i)) ?_ (fun b hb => by rw [hb]; exact tp11.tl) (fun H' f' => .of (f'.at q8' np8)) (fun i y N H H' h f => h) tp11 (fun i D Ha Hb nD h f => Tp.new tp11 nD h f) ?_ ?_⟩
    · rw [hz8, sizeLine_eq]; omega
    · rintro i y Ha Hb Qy hi fa ia ⟨rfl, hy⟩ kq
      have ey := hh8 i y hy
      subst ey
      refine ⟨rfl, _, rfl, _, rfl, t, cl, sg, φ, _, rfl, ia, by omega, hs1, by omega, fun r12 H12 f12 tp12 hr12 => ?_⟩
      refine ⟨_, rfl, _, _, rfl, rfl, ⟨by decide, by decide⟩, _, _, rfl, rfl, _, _, rfl, rfl, _, rfl, ite2 (fun c => ?_) (fun c => ?_)⟩
      · exact ⟨_, rfl, kq _ H12 f12 tp12 ⟨_, rfl, by unfold absI; rw [if_neg (by omega)]⟩⟩
      · refine ⟨_, rfl, _, _, rfl, rfl, kq _ H12 f12 tp12 ⟨_, rfl, ?_⟩⟩
        unfold absI
        split <;> omega
    rintro p12 ws H12 n12 f12 i12 q12 hz12 hh12
    rw [hz8] at hz12
    obtain ⟨ms, rfl⟩ : ∃ ms : List Int, ws = isV ms := by
      refine ⟨ws.map fun v => match v with | .int m => m | _ => 0, ?_⟩
      refine List.ext_getElem? fun i => ?_
      show _ = ((ws.map _).map V.int)[i]?
      rw [List.getElem?_map, List.getElem?_map]
      cases e : ws[i]? with
      | none => rfl
      | some y =>
        obtain ⟨m, rfl, _⟩ := hh12 i y e
        rfl
    rw [isV_len] at hz12
    have hms : ∀ (i : Nat) m, ms[i]? = some m → absI m = ((fi + far * ((1 + r1) * i % 61) : Nat) : Int) := by
      intro i m hm
      obtain ⟨m', e, h⟩ := hh12 i (.int m) (by rw [List.getElem?_map, hm]; rfl)
      cases e
      exact h
    refine k p12 ms H12 (g11.trans f12) (i12.mono (by omega)) (g11.free n12) q12 ⟨by omega, by omega, ?_, fun m hm => ?_⟩ hz12
    · refine nodup_of_idx fun i j a hij hi hj => ?_
      rw [List.getElem?_map] at hi hj
      obtain ⟨x, hx, ex⟩ := Option.map_eq_some_iff.mp hi
      obtain ⟨y, hy, ey⟩ := Option.map_eq_some_iff.mp hj
      have h1 := hms i x hx
      have h2 := hms j y hy
      have l1 := (List.getElem?_eq_some_iff.mp hx).1
      have l2 := (List.getElem?_eq_some_iff.mp hy).1
      have e1 : (fi + far * ((1 + r1) * i % 61)) = (fi + far * ((1 + r1) * j % 61)) := by omega
      have e2 : far * ((1 + r1) * i % 61) = far * ((1 + r1) * j % 61) := by omega
      have e3 := Nat.eq_of_mul_eq_mul_left (by omega) e2
      have := unlike61 r1 hr1 i (by omega) j (by omega) e3
      omega
    · obtain ⟨i, hi⟩ := List.getElem?_of_mem hm
      rw [hms i m hi]
      have h1 : (1 + r1) * i % 61 ≤ 60 := by omega
      have h2 : far * ((1 + r1) * i % 61) ≤ far * 60 := Nat.mul_le_mul_left _ h1
      omega
end
end K59
set_option Elab.async false
set_option linter.all false
set_option maxRecDepth 100000
set_option maxHeartbeats 4000000
namespace K59
open PySem PySem.Spec PyProof.Rows L2
theorem flat_rep' {α : Type} (t : Nat) (v : α) : (List.replicate (t : Int).toNat [v]).flatten = List.replicate t v := by
  rw [Int.toNat_natCast]
  induction t with
  | zero => rfl
  | succ t ih => rw [List.replicate_succ, List.flatten_cons, ih]; rfl
theorem PartsAt.ones {H : Hp} : ∀ n, PartsAt H (List.replicate n (V.int 1)) (List.replicate n Part.one)
  | 0 => by rw [List.replicate_zero, List.replicate_zero, PartsAt]
  | n + 1 => by
    rw [List.replicate_succ, List.replicate_succ, PartsAt]
    exact ⟨_, _, rfl, by rw [PartAt], PartsAt.ones n⟩
theorem szs_ones : ∀ n, Part.szs (List.replicate n Part.one) = n
  | 0 => rfl
  | n + 1 => by rw [List.replicate_succ, Part.szs, szs_ones n, Part.sz]; omega
theorem nks_ones : ∀ n, Part.nks (List.replicate n Part.one) = 0
  | 0 => rfl
  | n + 1 => by rw [List.replicate_succ, Part.nks, nks_ones n, Part.nk]
theorem PartsAt.one {H : Hp} {v : V} {p : Part} (h : PartAt H v p) : PartsAt H [v] [p] := by
  rw [PartsAt]; exact ⟨_, _, rfl, h, by rw [PartsAt]⟩
theorem PartsAt.cons {H : Hp} {v : V} {p : Part} {vs : List V} {ps : List Part} (h : PartAt H v p) (hs : PartsAt H vs ps) : PartsAt H (v :: vs) (p :: ps) := by
  rw [PartsAt]; exact ⟨_, _, rfl, h, hs⟩
theorem PartAt.tup {H : Hp} {a : Addr} {vs : List V} {ps : List Part} (h : H a = some (.tup (.str "sums" :: vs))) (hs : PartsAt H vs ps) : PartAt H (.ref a) (.sums ps) := by
  rw [PartAt]; exact ⟨a, vs, rfl, h, hs⟩
section
variable {P : Program} {w : World} {K : PySem.W.Frag} {mg : Str → Option Value} {base : Heap}
theorem sc_law_sums : FnScope ["_law_tape", "_law_many", "_law_deep", "_law_word", "_law_cut"] ["_law_tape", "_law_many", "_law_deep"] (defScope s_law_sums) := ⟨rfl, rfl, rfl, by decide +kernel, rfl, by decide +kernel, by decide +kernel⟩
def spSums (m : Nat) : Sp := fun vs H Q _ => ∃ (t cl : Addr) (φ : Addr → Nat) (n many deep : Nat), vs = [.ref t, iV many, iV deep] ∧ Tp φ H t cl n ∧ n + 4 * (many * (deep + 1)) ≤ 900000000 ∧ 1 ≤ many ∧ many ≤ 12 ∧ deep ≤ 1 ∧ many + deep ≤ m ∧
  ∀ v p H', Fm (· = t) H H' → Tp φ H' t cl (n + (4 * (many * (deep + 1)) - 2)) → PartAt H' v p → okD (many + deep + 1) p → p.sz = many → p.nk + 1 ≤ many * (deep + 1) → Q v H'
theorem cal_law_sums' (hd : Hd K mg) : ∀ m, C8.Cal P w K mg base (m + 3) "_law_sums" (spSums m) [] := by
  intro m
  induction m with
  | zero =>
    obtain ⟨fd, F⟩ := hd.d_law_sums
    exact mk_cal F hd.g_law_sums (F.bindsN fun _ _ _ _ _ _ us hl => match us, hl with | [_, _, _], _ => rfl) sc_law_sums (fun vs H Q E h => by obtain ⟨_, _, _, _, _, _, rfl, _⟩ := h; rfl) (fun cdv A outer s H vs Q E hr h => by obtain ⟨_, _, _, _, many, deep, _, _, _, h1, _, _, h2, _⟩ := h; omega)
  | succ m ih_law_sums =>
    obtain ⟨fd, F⟩ := hd.d_law_sums
    refine mk_cal F hd.g_law_sums (F.bindsN fun _ _ _ _ _ _ us hl => match us, hl with | [_, _, _], _ => rfl) sc_law_sums (fun vs H Q E h => ?_) (fun cdv A outer s H vs Q E hr h => ?_)
    · obtain ⟨_, _, _, _, _, _, rfl, _⟩ := h; rfl
    · obtain ⟨t, cl, φ, n, many, deep, rfl, tp, hn, h1, h12, hd1, hm, k⟩ := h
      refine ⟨_, (pss_cons (ps_par (i := 3) (j := 4) rfl sc_law_sums.nd rfl rfl (by decide) rfl rfl (pa_cons (C8.pe_c (cal_law_pick hd) hr (by first | decide | omega) rfl (pa_cons (pv 0) (pa_cons (pe_lst (pa_cons pe_str (pa_cons pe_str (pa_cons pe_str (pa_cons pe_str (pa_cons pe_str pa_nil)))))) pa_nil))) (pa_cons (pe_op op_add pe_int (C8.pe_c (cal_law_draw hd) hr (by first | decide | omega) rfl (pa_cons (pv 0) (pa_cons (pe_callB (call_max2 rfl) (by rfl) hd.f_max (by decide +kernel) (pa_cons pe_int (pa_cons (pe_op op_sub (pv 1) pe_int) pa_nil))) pa_nil)))) pa_nil)) rfl)
    (pss_cons (ps_if (PW.pt (pw_and (pt_cmpR op_eq (pv 3) pe_str (nomark _)) (pw_and1 (pt_cmpR op_gt (pv 2) pe_int (nomark _))))) (pss_one (ps_ret (pe_tup (pa_cons pe_str (pa_cons (C8.pe_c ih_law_sums hr (by first | decide | omega) rfl (pa_cons (pv 0) (pa_cons (pv 1) (pa_cons (pe_op op_sub (pv 2) pe_int) pa_nil)))) pa_nil))))) pss_nil)
    (pss_cons (ps_if (pt_cmpR op_eq (pv 1) pe_int (nomark _)) (pss_one (ps_ret pe_int)) pss_nil)
    (pss_cons (ps_if (PW.pt (pw_and (pt_cmpR op_eq (pv 3) pe_str (nomark _)) (pw_and1 (pt_cmpR op_lt (pv 1) pe_int (nomark _))))) (pss_one (ps_ret (pe_op op_catT (pe_tup (pa_cons pe_str pa_nil)) (pe_op op_repT (pe_tup (pa_cons pe_int pa_nil)) (pv 1))))) pss_nil)
    (pss_cons (ps_if (PW.pt (pw_and (pt_cmpR op_eq (pv 3) pe_str (nomark _)) (pw_and1 (pt_cmpR op_gt (pv 4) pe_int (nomark _))))) (pss_one (ps_ret (pe_tup (pa_cons pe_str (pa_cons pe_int (pa_cons (C8.pe_c ih_law_sums hr (by first | decide | omega) rfl (pa_cons (pv 0) (pa_cons (pe_op op_sub (pv 4) pe_int) (pa_cons (pv 2) pa_nil)))) (pa_cons (C8.pe_c ih_law_sums hr (by first | decide | omega) rfl (pa_cons (pv 0) (pa_cons (pe_op op_sub (pv 1) (pv 4)) (pa_cons (pv 2) pa_nil)))) pa_nil))))))) pss_nil)
    (pss_one (ps_ret (pe_tup (pa_cons pe_str (pa_cons (C8.pe_c ih_law_sums hr (by first | decide | omega) rfl (pa_cons (pv 0) (pa_cons (pv 4) (pa_cons (pv 2) pa_nil)))) (pa_cons (C8.pe_c ih_law_sums hr (by first | decide | omega) rfl (pa_cons (pv 0) (pa_cons (pe_op op_sub (pv 1) (pv 4)) (pa_cons (pv 2) pa_nil)))) pa_nil))))))))))), ?_⟩
      refine ⟨_, rfl, szN, fun p1 n1 => upd_new n1 fun H1 s1 q1 => ?_⟩
      refine ⟨t, cl, p1, φ, n, _, rfl, tp.sm s1, by omega, q1, by decide, by decide, fun i2 v2 H2 hv2 f2 tp2 => ?_⟩
      have word : ∃ wd : Str, v2 = .str wd ∧ (wd = "flat" ∨ wd = "two" ∨ wd = "three" ∨ wd = "one") := by
        have hv := List.mem_of_getElem? hv2
        simp only [List.mem_cons, List.not_mem_nil, or_false] at hv
        rcases hv with rfl | rfl | rfl | rfl | rfl
        · exact ⟨_, rfl, .inl rfl⟩
        · exact ⟨_, rfl, .inr (.inl rfl)⟩
        · exact ⟨_, rfl, .inr (.inl rfl)⟩
        · exact ⟨_, rfl, .inr (.inr (.inl rfl))⟩
        · exact ⟨_, rfl, .inr (.inr (.inr rfl))⟩
      obtain ⟨wd, rfl, hwd⟩ := word
      have f12 : Fm (· = t) H H2 := s1.to.trans f2
      have emax : (if ((many : Int) - 1) > 1 then ((many : Int) - 1) else 1) = ((max 1 (many - 1) : Nat) : Int) := by split <;> omega
      refine ⟨_, rfl, _, rfl, _, _, rfl, rfl, _, _, rfl, t, cl, max 1 (many - 1), φ, _, by rw [emax]; rfl, tp2, by omega, by omega, by omega, fun r3 H3 f3 tp3 hr3 => ?_⟩
      refine ⟨_, _, rfl, rfl, _, _, rfl, ?_⟩
      have f13 : Fm (· = t) H H3 := f12.trans f3
      -- shared ends
      have hcut : 1 ≤ 1 + r3 ∧ (2 ≤ many → 1 + r3 + 1 ≤ many) := by omega
      have emul : ∀ a b : Nat, a + b = many → a * (deep + 1) + b * (deep + 1) = many * (deep + 1) := fun a b e => by rw [← Nat.add_mul, e]
      have hpos : ∀ a : Nat, 1 ≤ a → 1 ≤ a * (deep + 1) := fun a h => Nat.le_trans h (Nat.le_mul_of_pos_right _ (by omega))
      have mpos : many ≤ many * (deep + 1) := Nat.le_mul_of_pos_right _ (by omega)
      have fin : ∀ (pt : Addr) (vs : List V) (ps : List Part) (H5 : Hp) (c : Nat), Fm (· = t) H H5 → Tp φ H5 t cl (n + c) → H5 pt = some (.tup (.str "sums" :: vs)) → PartsAt H5 vs ps → ps ≠ [] → ps.length ≤ 60 → (∀ q ∈ ps, okD (many + deep) q) → Part.szs ps = many → Part.nks ps + 2 ≤ many * (deep + 1) → c ≤ 4 * (many * (deep + 1)) - 2 → Q (.ref pt) H5 :=
        fun pt vs ps H5 c f tp5 q hps h0 hl hok hs hk hc => k _ (.sums ps) H5 f (tp5.mono (by omega)) (.tup q hps) ⟨h0, hl, hok⟩ hs (by show Part.nks ps + 1 + 1 ≤ _; omega) 
      have ecut : ((1 + r3 : Nat) : Int) = 1 + (r3 : Int) := rfl
      refine ⟨_, rfl, rfl, _, rfl, ite2 (fun cw => ⟨_, rfl, _, _, rfl, rfl, _, rfl, ite2 (fun cd => ?pos) (fun cd => ?neg1)⟩) (fun cw => ?neg2)⟩
      case' pos =>
        have hd0 : 0 < deep := by have := of_decide_eq_true cd; omega
        obtain ⟨e, rfl⟩ : ∃ e, deep = e + 1 := ⟨deep - 1, by omega⟩
        have em : many * (e + 1 + 1) = many * (e + 1) + many := Nat.mul_succ _ _
        have he1 : many ≤ many * (e + 1) := Nat.le_mul_of_pos_right _ (by omega)
        refine ⟨_, rfl, _, rfl, _, rfl, _, _, rfl, rfl, t, cl, φ, n + 1 + 1, many, e, ?_, tp3, by omega, h1, h12, by omega, by omega, fun v4 p4 H4 f4 tp4 hp4 ok4 sz4 nk4 => ?_⟩
        · show [V.ref t, iV many, V.int (((e + 1 : Nat) : Int) - 1)] = _
          rw [show (((e + 1 : Nat) : Int) - 1) = (e : Int) by omega]
        refine ⟨szN, fun p5 n5 => upd_new n5 fun H5 s5 q5 => ?_⟩
        refine fin p5 [v4] [p4] H5 (2 + (4 * (many * (e + 1)) - 2)) ((f13.trans f4).trans s5.to) ((tp4.sm s5).mono (by omega)) q5 (PartsAt.one (hp4.fm s5)) (by simp) (by simp) (fun q hq => ?_) ?_ ?_ (by omega)
        · rw [List.mem_singleton.mp hq]; exact ok4.le (by omega)
        · show p4.sz + 0 = many; omega
        · show p4.nk + 0 + 2 ≤ _; omega
      all_goals
        refine ⟨_, rfl, rfl, _, rfl, ite2 (fun c1 => ?_) (fun c1 => ?_)⟩
        · have e1 : many = 1 := by
            have h := of_decide_eq_true c1
            have h : (many : Int) = 1 := V.int.inj h
            omega
          exact k _ .one H3 f13 (tp3.mono (by omega)) (by rw [PartAt]) trivial (by rw [e1]; rfl) (by show 0 + 1 ≤ _; omega)
        have hne1 : 2 ≤ many := by
          have h : ¬ many = 1 := fun z => c1 (decide_eq_true (congrArg V.int (by rw [z]; rfl)))
          omega
        have hcut2 := hcut.2 hne1
        refine ⟨_, rfl, rfl, _, rfl, ite2 (fun cf => ⟨_, rfl, _, _, rfl, rfl, _, rfl, ite2 (fun c7 => ?_) (fun c7 => ?_)⟩) (fun cf => ?_)⟩
        · skip
          refine ⟨szN, fun p4 n4 => upd_new n4 fun H4 s4 q4 => ?_⟩
          refine ⟨szN, fun p5 n5 => upd_new n5 fun H5 s5 q5 => ?_⟩
          refine ⟨_, rfl, p5, _, _, rfl, rfl, .of q5, by simp, by omega, by omega, by decide, fun p6 n6 => upd_new n6 fun H6 s6 q6 => ?_⟩
          rw [flat_rep'] at q6
          refine ⟨p4, p6, _, _, rfl, rfl, .of (s6.at (s5.at q4)), .of q6, by simp, by rw [List.length_replicate, sizeLine_eq]; show 1 + _ ≤ _; omega, fun z => ?_, fun _ p7 n7 => upd_new n7 fun H7 s7 q7 => ?_⟩
          · have := congrArg List.length z
            rw [List.length_replicate] at this
            have : many = 0 := this
            omega
          have s37 : Sm H3 H7 := ((s4.trans s5).trans s6).trans s7
          refine fin p7 (List.replicate many (V.int 1)) (List.replicate many Part.one) H7 2 (f13.trans s37.to) ((tp3.sm s37).mono (by omega)) q7 (PartsAt.ones many) (fun z => ?_) (by rw [List.length_replicate]; omega) (fun q hq => ?_) (szs_ones many) (by rw [nks_ones]; omega) (by omega)
          · have := congrArg List.length z
            rw [List.length_replicate] at this
            have : many = 0 := this
            omega
          · rw [(List.mem_replicate.mp hq).2]
            obtain ⟨m', hm'⟩ : ∃ m', many + deep = m' + 1 := ⟨many + deep - 1, by omega⟩
            rw [hm']; trivial
        all_goals
          refine ⟨_, rfl, rfl, _, rfl, ite2 (fun ct => ⟨_, rfl, _, _, rfl, rfl, _, rfl, ite2 (fun c8 => ?_) (fun c8 => ?_)⟩) (fun ct => ?_)⟩
          · skip
            have hc1 : 1 ≤ r3 := by have := of_decide_eq_true c8; omega
            have hp1 := hpos r3 hc1
            have hp2 := hpos (many - (1 + r3)) (by omega)
            have e12 := emul (r3 + 1) (many - (1 + r3)) (by omega)
            rw [Nat.add_mul, Nat.one_mul] at e12
            refine ⟨_, rfl, _, rfl, _, _, rfl, rfl, _, rfl, t, cl, φ, n + 1 + 1, r3, deep, ?_, tp3, by omega, hc1, by omega, hd1, by omega, fun v4 p4 H4 f4 tp4 hp4 ok4 sz4 nk4 => ?_⟩
            · show [V.ref t, V.int (1 + (r3 : Int) - 1), iV deep] = _
              rw [show (1 + (r3 : Int) - 1) = (r3 : Int) by omega]
            refine ⟨_, rfl, _, rfl, _, rfl, _, _, rfl, rfl, _, rfl, t, cl, φ, _, many - (1 + r3), deep, ?_, tp4, by omega, by omega, by omega, hd1, by omega, fun v5 p5 H5 f5 tp5 hp5 ok5 sz5 nk5 => ?_⟩
            · show [V.ref t, V.int ((many : Int) - (1 + (r3 : Int))), iV deep] = _
              rw [show ((many : Int) - (1 + (r3 : Int))) = ((many - (1 + r3) : Nat) : Int) by omega]
            refine ⟨szN, fun p6 n6 => upd_new n6 fun H6 s6 q6 => ?_⟩
            refine fin p6 [.int 1, v4, v5] [.one, p4, p5] H6 (2 + (4 * (r3 * (deep + 1)) - 2) + (4 * ((many - (1 + r3)) * (deep + 1)) - 2)) (((f13.trans f4).trans f5).trans s6.to) ((tp5.sm s6).mono (by omega)) q6 (.cons (by rw [PartAt]) (.cons ((hp4.fm f5).fm s6) (.one (hp5.fm s6)))) (by simp) (by simp) (fun q hq => ?_) ?_ ?_ (by omega)
            · simp only [List.mem_cons, List.not_mem_nil, or_false] at hq
              rcases hq with rfl | rfl | rfl
              · obtain ⟨m', hm'⟩ : ∃ m', many + deep = m' + 1 := ⟨many + deep - 1, by omega⟩
                rw [hm']; trivial
              · exact ok4.le (by omega)
              · exact ok5.le (by omega)
            · show 1 + (p4.sz + (p5.sz + 0)) = many; omega
            · show 0 + (p4.nk + (p5.nk + 0)) + 2 ≤ _; omega
          all_goals
            have e12 := emul (1 + r3) (many - (1 + r3)) (by omega)
            have hp1 := hpos (1 + r3) (by omega)
            have hp2 := hpos (many - (1 + r3)) (by omega)
            refine ⟨_, rfl, _, rfl, _, rfl, t, cl, φ, n + 1 + 1, 1 + r3, deep, rfl, tp3, by omega, by omega, by omega, hd1, by omega, fun v4 p4 H4 f4 tp4 hp4 ok4 sz4 nk4 => ?_⟩
            refine ⟨_, rfl, _, rfl, _, rfl, _, _, rfl, rfl, _, rfl, t, cl, φ, _, many - (1 + r3), deep, ?_, tp4, by omega, by omega, by omega, hd1, by omega, fun v5 p5 H5 f5 tp5 hp5 ok5 sz5 nk5 => ?_⟩
            · show [V.ref t, V.int ((many : Int) - (1 + (r3 : Int))), iV deep] = _
              rw [show ((many : Int) - (1 + (r3 : Int))) = ((many - (1 + r3) : Nat) : Int) by omega]
            refine ⟨szN, fun p6 n6 => upd_new n6 fun H6 s6 q6 => ?_⟩
            refine fin p6 [v4, v5] [p4, p5] H6 (2 + (4 * ((1 + r3) * (deep + 1)) - 2) + (4 * ((many - (1 + r3)) * (deep + 1)) - 2)) (((f13.trans f4).trans f5).trans s6.to) ((tp5.sm s6).mono (by omega)) q6 (.cons ((hp4.fm f5).fm s6) (.one (hp5.fm s6))) (by simp) (by simp) (fun q hq => ?_) ?_ ?_ (by omega)
            · simp only [List.mem_cons, List.not_mem_nil, or_false] at hq
              rcases hq with rfl | rfl
              · exact ok4.le (by omega)
              · exact ok5.le (by omega)
            · show p4.sz + (p5.sz + 0) = many; omega
            · show p4.nk + (p5.nk + 0) + 2 ≤ _; omega
theorem cal_law_sums (hd : Hd K mg) : C8.Cal P w K mg base 17 "_law_sums" (spSums 14) [] := cal_law_sums' hd 14
end
end K59
set_option Elab.async false
set_option linter.all false
set_option maxRecDepth 100000
set_option maxHeartbeats 4000000
namespace K59
open PySem PySem.Spec PyProof.Rows L2
/-! ### the model's knots -/
abbrev tgL (i : Nat) : Nat := 15 + 2 * i
def MOb : ObT := fun h s size o => h = .dK [(Sum.inr "under", .ref s), (Sum.inr "size", iV size), (Sum.inr "outs", .ref o)]
abbrev MKs := KsAt MOb tgL
abbrev MKn := KnAt MOb tgL
section
variable {P : Program} {w : World} {K : PySem.W.Frag} {mg : Str → Option Value} {base : Heap}
theorem sc_law_gather : FnScope ["_law_part", "_law_marks_here", "_law_found", "_law_one", "_law_under_here", "_law_at", "_law_many"] ["_law_part", "_law_marks_here", "_law_found"] (defScope s_law_gather) := ⟨rfl, rfl, rfl, by decide +kernel, rfl, by decide +kernel, by decide +kernel⟩
def spLGather (d : Nat) : Sp := fun vs H Q _ => ∃ (v : V) (p : Part) (am af : Addr) (ms : List Int) (fv : List V) (φ : Addr → Nat) (pa : Nat → Addr × Addr) (g : KS), vs = [v, .ref am, .ref af] ∧ okD d p ∧ d ≤ DP ∧ PartAt H v p ∧ H am = some (.lst (isV ms)) ∧ p.sz ≤ ms.length ∧ ms.length ≤ 1000 ∧ H af = some (.lst fv) ∧ fv.length + p.nk ≤ 1000 ∧
  φ af = 9 ∧ am ≠ af ∧ Live φ H ∧
  ∀ φ' pa' H', Gat MOb tgL φ H pa af fv g.n φ' H' pa' (p.gat ms g).1 → Q (srcV pa' (p.gat ms g).2) H'
theorem cal_law_gather' (hd : Hd K mg) : ∀ d, C8.Cal P w K mg base (d + 14) "_law_gather" (spLGather d) [] := by
  intro d
  induction d with
  | zero =>
    obtain ⟨fd, F⟩ := hd.d_law_gather
    exact mk_cal F hd.g_law_gather (F.bindsN fun _ _ _ _ _ _ us hl => match us, hl with | [_, _, _], _ => rfl) sc_law_gather (fun vs H Q E h => by obtain ⟨_, _, _, _, _, _, _, _, _, _, h, _⟩ := h; exact h.elim) (fun cdv A outer s H vs Q E hr h => by obtain ⟨_, _, _, _, _, _, _, _, _, _, h, _⟩ := h; exact h.elim)
  | succ d ih_law_gather =>
    obtain ⟨fd, F⟩ := hd.d_law_gather
    refine mk_cal F hd.g_law_gather (F.bindsN fun _ _ _ _ _ _ us hl => match us, hl with | [_, _, _], _ => rfl) sc_law_gather (fun vs H Q E h => ?_) (fun cdv A outer s H vs Q E hr h => ?_)
    · obtain ⟨_, _, _, _, _, _, _, _, _, rfl, _⟩ := h; rfl
    · obtain ⟨v, p, am, af, ms, fv, φ, pa, g, rfl, ok, hdl, hp, ham, hsz, hml, haf, hfl, hφ, hne, lv, k⟩ := h
      refine ⟨_, (pss_cons (ps_if (pt_cmpR (op_eqD hr.units) (pv 0) pe_int (nomark _)) (pss_one (ps_ret (pe_ix ix_list (pv 1) pe_int (fun _ _ => rfl)))) pss_nil)
    (pss_cons (ps_par (i := 4) (j := 5) rfl sc_law_gather.nd rfl rfl (by decide) rfl rfl (pa_cons (pe_lst pa_nil) (pa_cons pe_int pa_nil)) rfl)
    (pss_cons (ps_for PassesOwn.never rfl (pi_tup (pe_slice sl_tup (pv 0) (po_some pe_int) po_none)) (pg_name (i := 3) sc_law_gather.nd rfl (Or.inl rfl))
    (pss_cons (ps_set (i := 6) sc_law_gather.nd rfl (Or.inl rfl) (C8.pe_c (cal_law_size hd) hr (by first | decide | omega) rfl (pa_cons (pv 3) pa_nil)))
    (pss_cons (ps_expr (pe_bm PySem.F.plainAttrs_list PySem.F.slot_list_append PySem.F.type_list_append mt_append (pv 4) (pa_cons (C8.pe_c ih_law_gather hr (by first | decide | omega) rfl (pa_cons (pv 3) (pa_cons (pe_slice sl_list (pv 1) (po_some (pv 5)) (po_some (pe_op op_add (pv 5) (pv 6)))) (pa_cons (pv 2) pa_nil)))) pa_nil)))
    (pss_one (ps_set (i := 5) sc_law_gather.nd rfl (Or.inl rfl) (pe_op op_add (pv 5) (pv 6)))))))
    (pss_cons (ps_expr (pe_bm PySem.F.plainAttrs_list PySem.F.slot_list_append PySem.F.type_list_append mt_append (pv 2) (pa_cons (pe_disp (pps_cons pe_str (pv 4) (pps_cons pe_str (pv 5) (pps_cons pe_str (pe_lst pa_nil) pps_nil))) rfl rfl (fun z => nomatch z) (by decide)) pa_nil)))
    (pss_one (ps_ret (pe_ix ix_list (pv 2) (pe_un un_neg pe_int) (fun _ _ => rfl)))))))), ?_⟩
      cases p with
      | one =>
        rw [PartAt] at hp
        subst hp
        refine ⟨_, rfl, .int 1, .int 1, .int 1, .int 1, rfl, rfl, _, rfl, ifT rfl ?_⟩
        have h0 : 0 < ms.length := hsz
        refine ⟨_, rfl, am, _, _, V.int (ms.headD 0), rfl, rfl, .of ham, atI_nat (j := 0) ?_, k φ pa H ⟨.refl, .refl, lv, fun _ _ => rfl, fun j h1 h2 => ?_, ?_⟩⟩
        · rw [List.getElem?_map]
          cases ms with
          | nil => exact absurd h0 (by decide)
          | cons m ms => rfl
        · have h2 : j < g.n := h2
          omega
        · show _ = some (HO.lst (fv ++ knV pa g.n (g.n - g.n)))
          rw [Nat.sub_self, haf]
          show _ = some (HO.lst (fv ++ []))
          rw [List.append_nil]
      | sums ps =>
        have hp0 := hp
        rw [PartAt] at hp
        obtain ⟨a, vs, rfl, ha, hps⟩ := hp
        have hlen := hps.len
        refine ⟨_, rfl, (Part.sums ps).dat, .int 1, hp0.dp, .int 1, dat_shaped ok (Nat.le_trans hdl (by decide)), rfl, _, rfl, ifF rfl ?_⟩
        refine ⟨szN, fun p1 n1 => upd_new n1 fun H1 s1 q1 => ?_⟩
        refine ⟨_, _, rfl, ?_⟩
        refine ⟨_, rfl, _, rfl, a, _, rfl, .of (s1.at ha), cut_tail_ne _ _, fun q nq => upd_new nq fun H2 s2 q2 => ?_⟩
        rw [cut_tail] at q2
        have f2 : Sm H H2 := s1.trans s2
        have hpf : p1 ≠ af := (ne_live haf n1).symm
        have nq0 := s1.free nq
        have o60 := ok.2.1
        refine ⟨q, rfl, ⟨_, .of q2⟩, for_it walk_tup (fun i σ H' => ∃ (o3 o6 : Option V) (φi : Addr → Nat) (pai : Nat → Addr × Addr), σ = [some (.ref a), some (.ref am), some (.ref af), o3, some (.ref p1), some (iV (Part.szs (ps.take i))), o6] ∧
          Gat MOb tgL φ H pa af fv g.n φi H' pai (Part.gats (ps.take i) ms g).1 ∧ H' p1 = some (.lst ((Part.gats (ps.take i) ms g).2.map (srcV pai))) ∧ φi p1 = 8 ∧ H' q = some (.tup vs)) ?_ (fun i σ H' _ ⟨_, _, _, _, _, _, _, _, h⟩ => .of h) ?_ ?_⟩
        · refine ⟨none, none, updA φ p1 8, pa, rfl, ⟨f2.to, .one n1, (lv.fm f2).one (live_of (s2.at q1)), fun _ _ => rfl, fun j h1 h2 => ?_, ?_⟩, s2.at q1, updA_same, q2⟩
          · have h2 : j < g.n := h2
            omega
          · show _ = some (HO.lst (fv ++ knV pa g.n (g.n - g.n)))
            rw [Nat.sub_self, f2.at haf]
            show _ = some (HO.lst (fv ++ []))
            rw [List.append_nil]
        · rintro i y σ Ha Hb hi ⟨o3, o6, φi, pai, rfl, G, hp1, hφ1, hq⟩ ⟨rfl, hy⟩
          obtain ⟨pt, hpt, hpa⟩ := hps.get hy
          have hpa' := hpa.fm G.fm
          have okp := ok.2.2 pt (List.mem_of_getElem? hpt)
          refine ⟨_, rfl, y, pt, rfl, okp.le (by omega), by decide, hpa', fun H3 s3 => ?_⟩
          have gn := gats_n (ps.take i) ms g
          have gn2 := nks_take_le ps (i + 1)
          rw [take_snoc hpt, nks_eq, List.map_append, List.sum_append, ← nks_eq] at gn2
          have gn3 : ((List.map Part.nk [pt]).sum) = pt.nk := by simp
          rw [gn3] at gn2
          have gz := szs_take_le ps (i + 1)
          rw [take_snoc hpt, szs_snoc] at gz
          have hsz' : Part.szs ps ≤ ms.length := hsz
          have hfl' : fv.length + (Part.nks ps + 1) ≤ 1000 := hfl
          have am3 := s3.at (G.fm.at ham hne)
          refine ⟨_, rfl, .inl ⟨rfl, _, .of (s3.at hp1)⟩, _, rfl, _, rfl, _, rfl, _, rfl, _, rfl, _, rfl, _, _, rfl, rfl, _, rfl, am, _, rfl, .of am3, fun p4 n4 => upd_new n4 fun H4 s4 q4 => ?_⟩
          have q4' : H4 p4 = some (.lst (isV ((ms.drop (Part.szs (ps.take i))).take pt.sz))) := by
            rw [q4]
            show some (HO.lst (cutV (isV ms) (some ((Part.szs (ps.take i) : Nat) : Int)) (some ((Part.szs (ps.take i) + pt.sz : Nat) : Int)))) = _
            rw [cut_nat, show Part.szs (ps.take i) + pt.sz - Part.szs (ps.take i) = pt.sz by omega]
            simp [isV, List.map_take, List.map_drop]
          have s34 : Sm Hb H4 := s3.trans s4
          have hφf : φi af = 9 := by rw [G.ext af (live_of haf)]; exact hφ
          have haf4 := s34.at G.found
          refine ⟨_, rfl, y, pt, p4, af, _, _, φi, pai, (Part.gats (ps.take i) ms g).1, rfl, okp, by omega, (hpa'.fm s34), q4', ?_, ?_, haf4, ?_, hφf, ?_, G.live.fm s34, fun φ2 pa2 H5 G2 => ?_⟩
          · rw [List.length_take, List.length_drop]; omega
          · rw [List.length_take, List.length_drop]; omega
          · rw [List.length_append]
            simp only [knV, List.length_map, List.length_range]
            omega
          · exact (ne_live (s3.at G.found) n4).symm
          have hp5 := G2.fm.at (s34.at hp1) hpf
          refine ⟨p1, _, _, rfl, rfl, hp5, ?_, upd_put hp5 no_lst fun H6 f6 q6 => ?_⟩
          · rw [List.length_map, gats_len, sizeLine_eq, List.length_take]; omega
          refine ⟨_, rfl, _, rfl, _, _, rfl, rfl, ?_⟩
          have esn := gats_snoc (ps.take i) pt ms g
          have fa5 : Fm (· = af) Hb H5 := s34.to.trans G2.fm
          have hφ18 : φ2 p1 = 8 := by rw [G2.ext p1 (live_of (s34.at hp1))]; exact hφ1
          have gn4 := gat_n pt ((ms.drop (Part.szs (ps.take i))).take pt.sz) (Part.gats (ps.take i) ms g).1
          refine ⟨some y, some (iV pt.sz), φ2, pa2, ?_, ?_, ?_, hφ18, ?_⟩
          · show _ = [some (V.ref a), some (V.ref am), some (V.ref af), _, some (V.ref p1), some (iV (Part.szs (ps.take (i + 1)))), _]
            rw [take_snoc hpt, szs_snoc]; rfl
          · rw [take_snoc hpt, esn]
            refine ⟨((G.fm.trans fa5).over1 n1 f6), G.ext.trans G2.ext (G.fm.trans s34.to), G2.live.fm f6, fun j hj => ?_, fun j h1 h2 => ?_, ?_⟩
            · rw [G2.same j (by omega)]; exact G.same j hj
            · have h2 : j < (pt.gat ((ms.drop (Part.szs (ps.take i))).take pt.sz) (Part.gats (ps.take i) ms g).1).1.n := h2
              show KnAt _ _ _ _ _ _ ((pt.gat ((ms.drop (Part.szs (ps.take i))).take pt.sz) (Part.gats (ps.take i) ms g).1).1.ks j) _
              by_cases c : j < (Part.gats (ps.take i) ms g).1.n
              · rw [gat_keep pt _ _ j c]
                have h := (G.new j h1 c).mv fa5 (fun b hb => by rw [hb, hφf]; unfold tgL; omega) (fun b hb => G2.ext b (s34.live b hb)) (G2.same j c) fun j' hj' => G2.same j' (by
                  have := gats_low (ps.take i) ms g j h1 c _ hj' j' rfl
                  omega)
                exact h.fm f6 fun b hb => by rw [hb, hφ18]; unfold tgL; omega
              · exact (G2.new j (by omega) h2).fm f6 fun b hb => by rw [hb, hφ18]; unfold tgL; omega
            · rw [f6.at G2.found fun z => hpf z.symm]
              show some (HO.lst (fv ++ knV pai g.n ((Part.gats (ps.take i) ms g).1.n - g.n) ++ knV pa2 (Part.gats (ps.take i) ms g).1.n ((pt.gat _ (Part.gats (ps.take i) ms g).1).1.n - (Part.gats (ps.take i) ms g).1.n))) = some (HO.lst (fv ++ knV pa2 g.n ((pt.gat _ (Part.gats (ps.take i) ms g).1).1.n - g.n)))
              rw [← knV_eq (pa' := pa2) fun j hj => G2.same j (by omega), List.append_assoc]
              have e1 : (Part.gats (ps.take i) ms g).1.n = g.n + ((Part.gats (ps.take i) ms g).1.n - g.n) := by omega
              have e2 : knV pa2 (Part.gats (ps.take i) ms g).1.n = knV pa2 (g.n + ((Part.gats (ps.take i) ms g).1.n - g.n)) := congrArg (knV pa2) e1
              rw [e2, knV_app]
              refine congrArg (fun z => some (HO.lst (fv ++ knV pa2 g.n z))) ?_
              omega
          · rw [take_snoc hpt, esn, q6]
            show some (HO.lst (List.map (srcV pai) (Part.gats (ps.take i) ms g).2 ++ [srcV pa2 _])) = some (HO.lst (List.map (srcV pa2) ((Part.gats (ps.take i) ms g).2 ++ [_])))
            rw [List.map_append]
            have e : List.map (srcV pa2) (Part.gats (ps.take i) ms g).2 = List.map (srcV pai) (Part.gats (ps.take i) ms g).2 := srcV_eq (k := ⟨(Part.gats (ps.take i) ms g).2, 0⟩) fun j hj => G2.same j (gats_src (ps.take i) ms g _ hj j rfl).2
            rw [e]; rfl
          · exact f6.tups _ _ (fa5.tups _ _ hq)
        · rintro σ Ha ⟨o3, o6, φi, pai, rfl, G, hp1, hφ1, hq⟩
          rw [List.take_of_length_le (by omega)] at G hp1
          have gn := gats_n ps ms g
          have hfl' : fv.length + (Part.nks ps + 1) ≤ 1000 := hfl
          have hφf : φi af = 9 := by rw [G.ext af (live_of haf)]; exact hφ
          have hfl'' := hfl'
          refine ⟨_, rfl, .inl ⟨rfl, _, .of G.found⟩, fun x nx => ?_⟩
          refine upd_new nx fun Ha1 sa1 qa1 => ?_
          refine ⟨_, rfl, _, rfl, szN, fun o no' => upd_new no' fun Ha2 sa2 qa2 => ?_⟩
          have no : Ha o = none := sa1.free no'
          have hox : o ≠ x := (ne_live qa1 no').symm
          refine ⟨sa2.at qa1, [(Sum.inr "under", .ref p1), (Sum.inr "size", iV (Part.szs (ps.take vs.length))), (Sum.inr "outs", .ref o)], rfl, le15, upd_put (sa2.at qa1) no_dK fun H1 fa3 qx' => ?_⟩
          have f1 : Sm Ha H1 := (sa1.trans sa2).over1 nx fa3
          have qo : H1 o = some (.lst []) := fa3.at qa2 hox
          have qx : H1 x = some (.dK [(Sum.inr "under", .ref p1), (Sum.inr "size", iV (Part.szs ps)), (Sum.inr "outs", .ref o)]) := by
            rw [qx', show ps.take vs.length = ps from List.take_of_length_le (by omega)]; rfl
          have hf1 := f1.at G.found
          refine ⟨af, _, _, rfl, rfl, hf1, ?_, upd_put hf1 no_lst fun H2 f2 q2 => ?_⟩
          · rw [List.length_append, sizeLine_eq]
            simp only [knV, List.length_map, List.length_range]
            omega
          have hxf : x ≠ af := fun z => by rw [z, G.found] at nx; cases nx
          have hof : o ≠ af := fun z => by rw [z, G.found] at no; cases no
          have h1f : p1 ≠ af := hpf
          refine ⟨_, rfl, _, rfl, af, _, _, _, rfl, rfl, .of q2, atI_last _ _, ?_⟩
          have key := k (updA (updA φi p1 0) o (tgL (Part.gats ps ms g).1.n)) (updN pai (Part.gats ps ms g).1.n (x, o)) H2
          rw [Part.gat] at key
          have e3 : srcV (updN pai (Part.gats ps ms g).1.n (x, o)) (.kn (Part.gats ps ms g).1.n) = .ref x := by
            show V.ref (updN pai _ _ _).1 = _
            rw [updN_same]
          dsimp only at key
          rw [e3] at key
          refine key ⟨(G.fm.trans f1.to).trans f2, fun b hb => ?_, fun b hb => ?_, fun j hj => ?_, fun j h1 h2 => ?_, ?_⟩
          · have hbo : b ≠ o := fun z => G.fm.live b hb (by rw [z]; exact no)
            have hb1 : b ≠ p1 := fun z => hb (by rw [z]; exact n1)
            rw [updA_ne hbo, updA_ne hb1]
            exact G.ext b hb
          · refine f2.live b ?_
            by_cases c : b = o
            · rw [c]; exact live_of qo
            · rw [updA_ne c] at hb
              by_cases c1 : b = p1
              · rw [c1]; exact live_of (f1.at hp1)
              · rw [updA_ne c1] at hb
                exact f1.live b (G.live b hb)
          · rw [updN_ne (by omega)]; exact G.same j hj
          · have h2 : j < (Part.gats ps ms g).1.n + 1 := h2
            have hop : o ≠ p1 := fun z => by rw [z, hp1] at no; cases no
            have hxo : x ≠ o := hox.symm
            have zx : φi x = 0 := G.live.zero nx
            have zo : φi o = 0 := G.live.zero no
            have hxp : x ≠ p1 := fun z => by rw [z, hφ1] at zx; cases zx
            by_cases c : j = (Part.gats ps ms g).1.n
            · subst c
              show KnAt _ _ _ _ _ _ (updN _ _ _ _) _
              rw [updN_same]
              refine ⟨⟨_, p1, ?_, rfl, ?_, ?_⟩, ?_, ?_, ?_⟩
              · rw [updN_same]
                show H2 x = _
                rw [f2.at qx hxf]
              · rw [f2.at (f1.at hp1) h1f]
                refine congrArg (fun z => some (HO.lst z)) (srcV_eq (k := ⟨(Part.gats ps ms g).2, 0⟩) fun j hj => ?_).symm
                exact updN_ne (Nat.ne_of_lt (gats_src ps ms g _ hj j rfl).2)
              · rw [updA_ne (Ne.symm hop), updA_same]
              · rw [updN_same]
                show updA (updA φi p1 0) o _ x = 0
                rw [updA_ne hxo, updA_ne hxp]
                exact zx
              · rw [updN_same]
                exact f2.at qo hof
              · rw [updN_same]
                exact updA_same
            · have hj2 : j < (Part.gats ps ms g).1.n := by omega
              show KnAt _ _ _ _ _ _ (updN _ _ _ _) _
              rw [updN_ne c]
              have h : KnAt MOb tgL (updA φi p1 0) Ha pai j ((Part.gats ps ms g).1.ks j) [] := (G.new j h1 hj2).retag fun b hb => by
                by_cases c1 : b = p1
                · rw [c1, hφ1] at hb
                  unfold tgL at hb
                  omega
                · exact updA_ne c1
              have h' := h.mv (M := No) .refl (fun _ z => z.elim) (fun b hb => updA_ne (t := tgL (Part.gats ps ms g).1.n) fun z => hb (by rw [z]; exact no)) (updN_ne (x := (x, o)) c) fun j' hj' => updN_ne (by
                have := gats_low ps ms g j h1 hj2 _ hj' j' rfl
                omega)
              refine h'.fm (M := (· = af)) (f1.to.trans f2) fun b hb => ?_
              rw [hb, updA_ne hof.symm, updA_ne h1f.symm, hφf]
              unfold tgL; omega
          · show H2 af = some (HO.lst (fv ++ knV _ g.n ((Part.gats ps ms g).1.n + 1 - g.n)))
            rw [q2, show (Part.gats ps ms g).1.n + 1 - g.n = ((Part.gats ps ms g).1.n - g.n) + 1 by omega, ← knV_app]
            have e1 : g.n + ((Part.gats ps ms g).1.n - g.n) = (Part.gats ps ms g).1.n := by omega
            rw [e1, knV_eq (pa := pai) fun j hj => updN_ne (by omega), ← List.append_assoc]
            show _ = some (HO.lst (_ ++ [V.ref (updN pai (Part.gats ps ms g).1.n (x, o) ((Part.gats ps ms g).1.n + 0)).1]))
            rw [Nat.add_zero, updN_same]
theorem cal_law_gather (hd : Hd K mg) : C8.Cal P w K mg base 26 "_law_gather" (spLGather DP) [] := cal_law_gather' hd DP
end
end K59
set_option Elab.async false
set_option linter.all false
set_option maxRecDepth 100000
set_option maxHeartbeats 4000000
namespace K59
open PySem PySem.Spec PyProof.Rows L2
section
variable {P : Program} {w : World} {K : PySem.W.Frag} {mg : Str → Option Value} {base : Heap}
theorem sm_last_first (f : Nat → Nat) : ∀ n, sm (fun k => f (n - k)) (n + 1) = sm f (n + 1)
  | 0 => rfl
  | n + 1 => by
    rw [sm_first]
    have e : sm (fun k => f (n + 1 - (k + 1))) (n + 1) = sm (fun k => f (n - k)) (n + 1) := sm_congr fun k _ => by rw [show n + 1 - (k + 1) = n - k by omega]
    rw [e, sm_last_first f n]
    show f (n + 1 - 0) + sm f (n + 1) = sm f (n + 1) + f (n + 1)
    rw [Nat.sub_zero]; omega
theorem wS_slice (w : Nat → Nat) (m t : Nat) : sm (fun i => w (t - m + i)) (t + 1 - (t - m)) = wS w m t := by
  unfold wS
  have e1 : t + 1 - (t - m) = min m t + 1 := by omega
  rw [e1, ← sm_last_first (fun i => w (t - m + i)) (min m t)]
  refine sm_congr fun k hk => ?_
  rw [show t - m + (min m t - k) = t - k by omega]
theorem row_slice (f : Nat → Nat) {n lo hi : Nat} (h : hi ≤ n) : ((rowV f n).drop lo).take (hi - lo) = nsV ((List.range (hi - lo)).map fun i => f (lo + i)) := by
  refine List.ext_getElem? fun i => ?_
  rw [List.getElem?_take, List.getElem?_drop]
  show _ = (List.map iV _)[i]?
  rw [List.getElem?_map, List.getElem?_map]
  by_cases c : i < hi - lo
  · rw [if_pos c, List.getElem?_range c, rowV_get (by omega)]; rfl
  · rw [if_neg c, List.getElem?_eq_none (by simp; omega)]; rfl
/-! ### fields of a knot's dict -/
theorem mob_get {H : Hp} {x s o : Addr} {n : Nat} (h : H x = some (.dK [(Sum.inr "under", .ref s), (Sum.inr "size", iV n), (Sum.inr "outs", .ref o)])) :
    DGet H x (.str "under") (some (.ref s)) ∧ DGet H x (.str "size") (some (iV n)) ∧ DGet H x (.str "outs") (some (.ref o)) :=
  ⟨DGet.k (k := Sum.inr "under") h, DGet.k (k := Sum.inr "size") h, DGet.k (k := Sum.inr "outs") h⟩
theorem sc_law_under : FnScope ["_law_one"] ["_law_one"] (defScope s_law_under) := ⟨rfl, rfl, rfl, by decide +kernel, rfl, by decide +kernel, by decide +kernel⟩
def spUnder : Sp := fun vs H Q _ => ∃ (φ : Addr → Nat) (pa : Nat → Addr × Addr) (ks : Nat → Kn) (outs : Nat → List Int) (s : Src), vs = [srcV pa s] ∧ (∀ j, s = .kn j → MKn φ H pa j (ks j) (outs j)) ∧ Q (iV (s.sz ks)) H
theorem cal_law_under (hd : Hd K mg) : C8.Cal P w K mg base 1 "_law_under" spUnder [] := by
  obtain ⟨fd, F⟩ := hd.d_law_under
  refine mk_cal F hd.g_law_under (F.bindsN fun _ _ _ _ _ _ us hl => match us, hl with | [_], _ => rfl) sc_law_under (fun vs H Q E h => ?_) (fun cdv A outer s H vs Q E hr h => ?_)
  · obtain ⟨_, _, _, _, _, rfl, _⟩ := h; rfl
  · obtain ⟨φ, pa, ks, outs, s, rfl, hk, k⟩ := h
    refine ⟨_, (pss_one (ps_ret (pe_ifExp (pt_val (pe_callB call_isi (by rfl) hd.f_isinstance (by decide +kernel) (pa_cons (pv 0) (pa_cons (pe_bltn (v := .ty "int") rfl hd.f_int (by decide +kernel) rfl) pa_nil)))) pe_int (pe_dget (hu_of hr) (pv 0) pe_str (fun _ _ => rfl))))), ?_⟩
    cases s with
    | mk m => exact ⟨_, rfl, _, _, _, _, _, rfl, .ty _, .base (.int _), kit_ty (r := true) (by decide +kernel), _, rfl, ifT rfl k⟩
    | kn j =>
      obtain ⟨⟨h, sa, h1, rfl, h3, h4⟩, _, _, _⟩ := hk j rfl
      refine ⟨_, rfl, _, _, _, _, _, rfl, .ty _, .base (.dK h1), kit_ty (r := false) (by decide +kernel), _, rfl, ifF rfl ?_⟩
      exact ⟨_, rfl, _, _, rfl, (mob_get h1).2.1, k⟩
theorem sc_law_lens : FnScope ["_law_one", "_law_cap", "_law_source"] ["_law_one", "_law_cap"] (defScope s_law_lens) := ⟨rfl, rfl, rfl, by decide +kernel, rfl, by decide +kernel, by decide +kernel⟩
def spLLens : Sp := fun vs H Q _ => ∃ (φ : Addr → Nat) (pa : Nat → Addr × Addr) (n : Nat) (ks : Nat → Kn) (outs : Nat → List Int) (i cap : Nat), vs = [.ref (pa i).1, iV cap] ∧ MKs φ H pa n ks outs ∧ KsOk n ks ∧ i < n ∧
  ∀ D H', H D = none → Sm H H' → H' D = some (.lst (nsV (lensK ks cap (ks i)))) → Q (.ref D) H'
theorem cal_law_lens (hd : Hd K mg) : C8.Cal P w K mg base 2 "_law_lens" spLLens [] := by
  obtain ⟨fd, F⟩ := hd.d_law_lens
  refine mk_cal F hd.g_law_lens (F.bindsN fun _ _ _ _ _ _ us hl => match us, hl with | [_, _], _ => rfl) sc_law_lens (fun vs H Q E h => ?_) (fun cdv A outer s H vs Q E hr h => ?_)
  · obtain ⟨_, _, _, _, _, _, _, rfl, _⟩ := h; rfl
  · obtain ⟨φ, pa, n, ks, outs, i, cap, rfl, hk, ok, hi, k⟩ := h
    obtain ⟨⟨h, sa, h1, rfl, h3, h4⟩, h5, h6, h7⟩ := hk i hi
    refine ⟨_, (pss_one (ps_ret (pe_lc (own := [("_law_source", 2)]) (g := (gName 2)) (tt := tYes) (te := (tCB bMin2 (tCons (tVar 1) (tCons (tCall _ _ C8.E0 (tCons (tVar 2) tNil)) tNil)))) rfl sc_law_lens.nd (pi_list (pe_dget (hu_of hr) (pv 0) pe_str (fun _ _ => rfl))) (blkOk_by (N := ["_law_one", "_law_cap", "_law_source"]) (sc := defScope s_law_lens) (by decide +kernel)) (fun _ _ _ _ _ => (pg_name (i := 2) sc_law_lens.nd rfl (Or.inl rfl))) (fun _ _ _ _ _ => pts_nil) (fun _ _ _ _ _ => (pe_callB (call_min2 rfl) (by rfl) hd.f_min (by decide +kernel) (pa_cons (pv 1) (pa_cons (C8.pe_c (cal_law_under hd) hr (by first | decide | omega) rfl (pa_cons (pv 2) pa_nil)) pa_nil))))))), ?_⟩
    refine ⟨_, rfl, _, _, rfl, (mob_get h1).1, sa, rfl, ⟨_, .of h3⟩, lc_all walk_list (M := No) (fun j y H' => ∃ m, (lensK ks cap (ks i))[j]? = some m ∧ y = iV m) ?_ (fun _ z => z.elim) (fun H' f' => .of (Sm.at f' h3)) (fun i y N H H' h f => h) ?_ ?_⟩
    · have := ok.few i hi
      rw [List.length_map, sizeLine_eq]; omega
    · rintro j y Hc Hd' Qy hj fc ⟨rfl, hy⟩ kq
      obtain ⟨sj, hsj, rfl⟩ := src_get hy
      refine ⟨rfl, _, rfl, _, rfl, φ, pa, ks, outs, sj, rfl, (fun j' e => hk.sm fc j' (ok.src hi (List.mem_of_getElem? hsj) j' e)), _, _, rfl, ?_⟩
      rw [min_nat]
      refine kq _ _ .refl ⟨min cap (sj.sz ks), ?_, rfl⟩
      show ((ks i).src.map _)[j]? = _
      rw [List.getElem?_map, hsj]; rfl
    · rintro D zs Hq nD fe hD hz hh
      have e := ext_nsV (ns := lensK ks cap (ks i)) (by rw [hz]; simp [lensK]) hh
      rw [e] at hD
      exact k D Hq nD fe hD
theorem sc_law_lacks : FnScope ["_law_one", "_law_cap"] ["_law_one", "_law_cap"] (defScope s_law_lacks) := ⟨rfl, rfl, rfl, by decide +kernel, rfl, by decide +kernel, by decide +kernel⟩
def spLLacks : Sp := fun vs H Q _ => ∃ (φ : Addr → Nat) (pa : Nat → Addr × Addr) (i : Nat) (kn : Kn) (l : List Int) (cap : Nat), vs = [.ref (pa i).1, iV cap] ∧ MKn φ H pa i kn l ∧ l.length ≤ 1000 ∧ kn.size ≤ 1000 ∧
  ∀ p H', H p = none → Sm H H' → H' p = some (.lst (nsV (lacks kn l cap))) → Q (.ref p) H'
theorem cal_law_lacks (hd : Hd K mg) : C8.Cal P w K mg base 1 "_law_lacks" spLLacks [] := by
  obtain ⟨fd, F⟩ := hd.d_law_lacks
  refine mk_cal F hd.g_law_lacks (F.bindsN fun _ _ _ _ _ _ us hl => match us, hl with | [_, _], _ => rfl) sc_law_lacks (fun vs H Q E h => ?_) (fun cdv A outer s H vs Q E hr h => ?_)
  · obtain ⟨_, _, _, _, _, _, rfl, _⟩ := h; rfl
  · obtain ⟨φ, pa, i, kn, l, cap, rfl, ⟨⟨h, sa, h1, rfl, h3, h4⟩, h5, h6, h7⟩, hl, hs, k⟩ := h
    refine ⟨_, (pss_one (ps_ret (pe_listRg rfl rfl hd.f_list (prg_2 rfl hd.f_range (pe_op op_add (pe_callB call_len_seq (by rfl) hd.f_len PySem.boot_len (pa_cons (pe_dget (hu_of hr) (pv 0) pe_str (fun _ _ => rfl)) pa_nil)) pe_int) (pe_op op_add (pe_callB (call_min2 rfl) (by rfl) hd.f_min (by decide +kernel) (pa_cons (pv 1) (pa_cons (pe_dget (hu_of hr) (pv 0) pe_str (fun _ _ => rfl)) pa_nil))) pe_int))))), ?_⟩
    refine ⟨_, rfl, _, _, rfl, (mob_get h1).2.2, _, _, rfl, .inl (.of h6), _, _, rfl, rfl, ?_⟩
    refine ⟨_, rfl, _, rfl, _, _, rfl, (mob_get h1).2.1, _, _, rfl, _, _, rfl, rfl, ?_⟩
    rw [min_nat, isV_len]
    refine ⟨((l.length + 1 : Nat) : Int), ((min cap kn.size + 1 : Nat) : Int), rfl, rfl, .of_le (by omega) (by omega) (by omega) (by omega), fun p np => upd_new np fun H1 s1 q1 => k p H1 np s1 ?_⟩
    rw [q1, rgV_nat, show min cap kn.size + 1 - (l.length + 1) = lackN kn l cap by unfold lackN; omega]
    rfl
theorem sc_law_ways_up : FnScope ["_law_lens_here", "_law_total", "_law_ways", "_law_most", "_law_at"] ["_law_lens_here", "_law_total"] (defScope s_law_ways_up) := ⟨rfl, rfl, rfl, by decide +kernel, rfl, by decide +kernel, by decide +kernel⟩
def spWaysUp : Sp := fun vs H Q _ => ∃ (a : Addr) (ls : List Nat) (t : Nat), vs = [.ref a, iV t] ∧ H a = some (.lst (nsV ls)) ∧ t ≤ 1000 ∧
  ∀ p H', Sm H H' → H' p = some (.lst (rowV (ways ls) (t + 1))) → Q (.ref p) H'
theorem cal_law_ways_up (hd : Hd K mg) : C8.Cal P w K mg base 1 "_law_ways_up" spWaysUp [] := by
  obtain ⟨fd, F⟩ := hd.d_law_ways_up
  refine mk_cal F hd.g_law_ways_up (F.bindsN fun _ _ _ _ _ _ us hl => match us, hl with | [_, _], _ => rfl) sc_law_ways_up (fun vs H Q E h => ?_) (fun cdv A outer s H vs Q E hr h => ?_)
  · obtain ⟨a, ls, t, rfl, _⟩ := h; rfl
  · obtain ⟨a, ls, t, rfl, ha, ht, k⟩ := h
    refine ⟨_, (pss_cons (ps_set (i := 2) sc_law_ways_up.nd rfl (Or.inr rfl) (pe_op op_cat (pe_lst (pa_cons pe_int pa_nil)) (pe_op op_rep (pe_lst (pa_cons pe_int pa_nil)) (pv 1))))
    (pss_cons (ps_for PassesOwn.never rfl (pi_list (pv 0)) (pg_name (i := 3) sc_law_ways_up.nd rfl (Or.inr rfl))
    (pss_one (ps_set (i := 2) sc_law_ways_up.nd rfl (Or.inr rfl) (pe_lc (own := [("_law_at", 4)]) (g := (gName 4)) (tt := tYes) (te := (tCB (rSum K) (tCons (tSl (rSlL K) (tVar 2) (tPart (tCB bMax2 (tCons (tC (V.int 0)) (tCons (tOp (rI0 fun i j => V.int (i - j)) (tVar 4) (tVar 3)) tNil)))) (tPart (tOp (rI0 fun i j => V.int (i + j)) (tVar 4) (tC (V.int 1))))) tNil))) rfl sc_law_ways_up.nd (pi_range1 rfl hd.f_range (pa_cons (pe_op op_add (pv 1) pe_int) pa_nil)) (blkOk_by (N := ["_law_lens_here", "_law_total", "_law_ways", "_law_most", "_law_at"]) (sc := defScope s_law_ways_up) (by decide +kernel)) (fun _ _ _ _ _ => (pg_name (i := 4) sc_law_ways_up.nd rfl (Or.inl rfl))) (fun _ _ _ _ _ => pts_nil) (fun _ _ _ _ _ => (pe_callB (cr_sum rfl) (by rfl) hd.f_sum (by decide +kernel) (pa_cons (pe_slice sl_list (pv 2) (po_some (pe_callB (call_max2 rfl) (by rfl) hd.f_max (by decide +kernel) (pa_cons pe_int (pa_cons (pe_op op_sub (pv 4) (pv 3)) pa_nil)))) (po_some (pe_op op_add (pv 4) pe_int))) pa_nil)))))))
    (pss_one (ps_ret (pv 2))))), ?_⟩
    refine ⟨(by decide), fun p1 n1 => upd_new n1 fun H1 s1 q1 => ?_⟩
    refine ⟨(by decide), fun p2 n2 => upd_new n2 fun H2 s2 q2 => ?_⟩
    refine ⟨_, rfl, p2, t, _, rfl, rfl, q2, by omega, by omega, ?_, fun p3 n3 => upd_new n3 fun H3 s3 q3 => ?_⟩
    · rw [sizeLine_eq]; simp; omega
    rw [flat_rep] at q3
    refine ⟨p1, p3, _, _, rfl, rfl, s3.at (s2.at q1), q3, ?_, fun p4 n4 => upd_new n4 fun H4 s4 q4 => ?_⟩
    · rw [sizeLine_eq]; simp; omega
    have f4 : Sm H H4 := ((s1.trans s2).trans s3).trans s4
    refine ⟨_, rfl, a, rfl, ⟨_, .of (f4.at ha)⟩, for_it walk_list (fun i σ H' => ∃ (p : Addr) (o3 o4 : Option V), σ = [some (.ref a), some (iV t), some (.ref p), o3, o4] ∧ Sm H H' ∧ H' p = some (.lst (rowV (ways (ls.take i)) (t + 1)))) ?_ (fun i σ H' _ ⟨_, _, _, _, f, _⟩ => .of (f.at ha)) ?_ ?_⟩
    · exact ⟨p4, none, none, rfl, f4, by rw [q4, row_w0]; rfl⟩
    · rintro i x σ Ha Hb hi ⟨p, o3, o4, rfl, f, hp⟩ ⟨rfl, hx⟩
      obtain ⟨m, hm, rfl⟩ := nsV_get hx
      refine ⟨_, rfl, _, _, rfl, rfl, _, rfl, by omega, by omega, lc_all walk_range (M := No) (fun j y H' => y = iV (wS (ways (ls.take i)) m j)) ?_ (fun _ z => z.elim) (fun H' f' => trivial) (fun i y N H H' h f => h) ?_ ?_⟩
      · rw [sizeLine_eq]; omega
      · rintro j y Hc Hd' Qy hj fc yy kq
        obtain ⟨e2, e1⟩ := yy
        have e1 : y = iV j := by rw [e1]; exact congrArg V.int (Int.zero_add _)
        subst e1 e2
        have hj' : j < t + 1 := by omega
        have hp' := Sm.at fc hp
        refine ⟨rfl, _, rfl, _, rfl, _, rfl, _, _, rfl, rfl, _, _, rfl, _, rfl, _, rfl, _, _, rfl, rfl, _, rfl, p, _, rfl, .of hp', fun q nq => upd_new nq fun H1 s1 q1 => ?_⟩
        have emx : (if (j : Int) - (m : Int) > 0 then (j : Int) - (m : Int) else 0) = ((j - m : Nat) : Int) := by split <;> omega
        have q1' : H1 q = some (.lst (nsV ((List.range (j + 1 - (j - m))).map fun i' => ways (ls.take i) (j - m + i')))) := by
          rw [q1, ← row_slice (ways (ls.take i)) (n := t + 1) (lo := j - m) (hi := j + 1) (by omega), ← cut_nat]
          refine congrArg (fun z => some (HO.lst (cutV _ (some z) (some (((j + 1 : Nat) : Int)))))) emx
        refine ⟨q, _, rfl, .of (asI q1'), ?_⟩
        rw [sum_cast, sm_sum, wS_slice]
        exact kq _ _ s1 rfl
      · rintro D zs Hq nD fe hD hz hh
        refine ⟨D, _, _, rfl, f.trans fe, ?_⟩
        rw [hD, take_snoc hm, ways_snoc]
        refine congrArg (fun z => some (HO.lst z)) (List.ext_getElem? fun j => ?_)
        by_cases c : j < t + 1
        · rw [rowV_get c]
          have hj : j < zs.length := by rw [hz]; omega
          rw [List.getElem?_eq_getElem hj, hh j _ (List.getElem?_eq_getElem hj)]
        · rw [List.getElem?_eq_none (by rw [hz]; omega), List.getElem?_eq_none (by rw [rowV_len]; omega)]
    · rintro σ Ha ⟨p, o3, o4, rfl, f, hp⟩
      refine ⟨_, rfl, k p Ha f ?_⟩
      rw [hp]
      simp
end
end K59
set_option Elab.async false
set_option linter.all false
set_option maxRecDepth 100000
set_option maxHeartbeats 4000000
namespace K59
open PySem PySem.Spec PyProof.Rows L2
/-! ### the model in the heap -/
structure MA where
  mh : Addr
  hm : Addr
  gl : Addr
  nm : Addr
  mc : Addr
  aa : Addr
  nv : List V
  cv : List V
  av : List V
def mhO (a : MA) (c : Core) (d : Dyn) : HO := .dK [(Sum.inr "marks", .ref a.hm), (Sum.inr "cap", iV d.cap), (Sum.inr "top", oV d.top), (Sum.inr "knots", .ref a.gl), (Sum.inr "names", .ref a.nm), (Sum.inr "clauses", .ref a.mc), (Sum.inr "coming", .int c.coming), (Sum.inr "ahead", .ref a.aa)]
theorem no_mh {a : MA} {c : Core} {d : Dyn} : ∀ xs, mhO a c d ≠ .tup xs := fun _ z => nomatch z
section
variable {H : Hp} {x : Addr} {a : MA} {c : Core} {d : Dyn}
theorem mh_marks (h : H x = some (mhO a c d)) : DGet H x (.str "marks") (some (.ref a.hm)) := DGet.k (k := Sum.inr "marks") h
theorem mh_cap (h : H x = some (mhO a c d)) : DGet H x (.str "cap") (some (iV d.cap)) := DGet.k (k := Sum.inr "cap") h
theorem mh_top (h : H x = some (mhO a c d)) : DGet H x (.str "top") (some (oV d.top)) := DGet.k (k := Sum.inr "top") h
theorem mh_knots (h : H x = some (mhO a c d)) : DGet H x (.str "knots") (some (.ref a.gl)) := DGet.k (k := Sum.inr "knots") h
theorem mh_names (h : H x = some (mhO a c d)) : DGet H x (.str "names") (some (.ref a.nm)) := DGet.k (k := Sum.inr "names") h
theorem mh_clauses (h : H x = some (mhO a c d)) : DGet H x (.str "clauses") (some (.ref a.mc)) := DGet.k (k := Sum.inr "clauses") h
theorem mh_coming (h : H x = some (mhO a c d)) : DGet H x (.str "coming") (some (.int c.coming)) := DGet.k (k := Sum.inr "coming") h
theorem mh_ahead (h : H x = some (mhO a c d)) : DGet H x (.str "ahead") (some (.ref a.aa)) := DGet.k (k := Sum.inr "ahead") h
theorem mh_size : (8 : Nat) < sizeLine := by rw [sizeLine_eq]; decide
theorem mh_set_marks (h : H x = some (mhO a c d)) (p : Addr) : DPut H x (.str "marks") (.ref p) (upd H x (mhO { a with hm := p } c d)) := DPut.k (k := Sum.inr "marks") h mh_size
theorem mh_set_cap (h : H x = some (mhO a c d)) (n : Nat) : DPut H x (.str "cap") (iV n) (upd H x (mhO a c { d with cap := n })) := DPut.k (k := Sum.inr "cap") h mh_size
theorem mh_set_top (h : H x = some (mhO a c d)) (n : Option Int) : DPut H x (.str "top") (oV n) (upd H x (mhO a c { d with top := n })) := DPut.k (k := Sum.inr "top") h mh_size
theorem mh_set_knots (h : H x = some (mhO a c d)) (p : Addr) : DPut H x (.str "knots") (.ref p) (upd H x (mhO { a with gl := p } c d)) := DPut.k (k := Sum.inr "knots") h mh_size
theorem mh_set_coming (h : H x = some (mhO a c d)) (n : Int) : DPut H x (.str "coming") (.int n) (upd H x (mhO a { c with coming := n } d)) := DPut.k (k := Sum.inr "coming") h mh_size
end
structure MdAt (φ : Addr → Nat) (H : Hp) (pa : Nat → Addr × Addr) (a : MA) (c : Core) (d : Dyn) (ah : List Dyn) : Prop where
  obj : H a.mh = some (mhO a c d)
  t1 : φ a.mh = 6
  t2 : φ a.nm = 7
  t3 : φ a.mc = 11
  t4 : φ a.aa = 13
  t5 : φ a.hm = 0
  t6 : φ a.gl = 0
  hm : H a.hm = some (.lst (isV d.marks))
  gl : H a.gl = some (.lst (curV pa d.cur))
  nm : H a.nm = some (.lst a.nv)
  nr : Rel (NmAt H) a.nv c.names
  mc : H a.mc = some (.lst a.cv)
  cl : a.cv.length = c.clauses.length
  aa : H a.aa = some (.lst a.av)
  dy : Rel (DyAt φ H pa) a.av ah
  ks : MKs φ H pa c.g.n c.g.ks c.outs
/-- the tags of the model's own things -/
def LT (t : Nat) : Prop := t = 6 ∨ t = 7 ∨ t = 11 ∨ t = 13 ∨ ∃ i, t = tgL i
theorem LT.ne {t : Nat} (h : LT t) : t ≠ 0 := by
  rcases h with h | h | h | h | ⟨i, h⟩ <;> rw [h]
  · decide
  · decide
  · decide
  · decide
  · unfold tgL; omega
theorem PT.notL {t : Nat} (h : PT t) : ¬ LT t := by
  rintro (l | l | l | l | ⟨j, l⟩) <;> rcases h with h | h | h | h | ⟨i, h⟩ <;> (try simp only [tgP] at h) <;> (try simp only [tgL] at l) <;> omega
section
variable {φ φ' : Addr → Nat} {H H' : Hp} {pa pa' : Nat → Addr × Addr} {a : MA} {c : Core} {d : Dyn} {ah : List Dyn} {M : Addr → Prop}
theorem MdAt.mv (k : MdAt φ H pa a c d ah) (lo : Low c.g.ks c.g.n) (hd : ∀ i ∈ d.cur, i < c.g.n) (hah : ∀ e ∈ ah, ∀ i ∈ e.cur, i < c.g.n) (f : Fm M H H') (hM : ∀ b, M b → φ b ≠ 0 ∧ ¬ LT (φ b)) (hφ : Ext φ φ' H) (hp : ∀ i, i < c.g.n → pa' i = pa i) : MdAt φ' H' pa' a c d ah := by
  obtain ⟨h1, t1, t2, t3, t4, t5, t6, h2, h3, h4, h5, h6, h7, h8, h9, h10⟩ := k
  have e : ∀ {b : Addr} {o : HO} {t : Nat}, H b = some o → φ b = t → φ' b = t := fun hb ht => by rw [hφ _ (live_of hb)]; exact ht
  refine ⟨f.at h1 fun m => (hM _ m).2 (.inl t1), e h1 t1, e h4 t2, e h6 t3, e h8 t4, e h2 t5, e h3 t6, f.at h2 fun m => (hM _ m).1 t5, ?_, f.at h4 fun m => (hM _ m).2 (.inr (.inl t2)), h5.mono fun v x h => h.fm f,
    f.at h6 fun m => (hM _ m).2 (.inr (.inr (.inl t3))), h7, f.at h8 fun m => (hM _ m).2 (.inr (.inr (.inr (.inl t4)))), ?_, ?_⟩
  · rw [curV_eq hd hp]; exact f.at h3 fun m => (hM _ m).1 t6
  · refine ⟨h9.1, fun i v x hv hx => ?_⟩
    exact (h9.2 i v x hv hx).mv f (fun b m => (hM b m).1) (fun b hb hz => e (t := 0) (o := (H b).get (Option.isSome_iff_ne_none.mpr hb)) (Option.some_get _).symm hz) (hah x (List.mem_of_getElem? hx)) hp
  · exact h10.mv lo f (fun b m => ⟨(hM b m).1, fun i _ z => (hM b m).2 (.inr (.inr (.inr (.inr ⟨i, z⟩))))⟩) hφ hp (fun _ _ => rfl) fun _ _ => rfl
theorem MdAt.fm (k : MdAt φ H pa a c d ah) (f : Fm M H H') (hM : ∀ b, M b → φ b ≠ 0 ∧ ¬ LT (φ b)) : MdAt φ H' pa a c d ah := by
  obtain ⟨h1, t1, t2, t3, t4, t5, t6, h2, h3, h4, h5, h6, h7, h8, h9, h10⟩ := k
  exact ⟨f.at h1 fun m => (hM _ m).2 (.inl t1), t1, t2, t3, t4, t5, t6, f.at h2 fun m => (hM _ m).1 t5, f.at h3 fun m => (hM _ m).1 t6, f.at h4 fun m => (hM _ m).2 (.inr (.inl t2)), h5.mono fun v x h => h.fm f,
    f.at h6 fun m => (hM _ m).2 (.inr (.inr (.inl t3))), h7, f.at h8 fun m => (hM _ m).2 (.inr (.inr (.inr (.inl t4)))), h9.mono fun v x h => h.fm f fun b m => (hM b m).1,
    h10.fm f fun b m => ⟨(hM b m).1, fun i _ z => (hM b m).2 (.inr (.inr (.inr (.inr ⟨i, z⟩))))⟩⟩
theorem MdAt.sm (k : MdAt φ H pa a c d ah) (f : Sm H H') : MdAt φ H' pa a c d ah := k.fm f fun _ z => z.elim
theorem KpAt.fm {K : PySem.W.Frag} {a : KA} (k : KpAt K φ H pa a c d ah) (f : Fm M H H') (hM : ∀ b, M b → φ b ≠ 0 ∧ ¬ PT (φ b)) : KpAt K φ H' pa a c d ah := by
  obtain ⟨h1, t1, t2, t3, t4, t5, t6, h2, h3, h4, h5, h6, h7, h8, h9, h10⟩ := k
  exact ⟨f.at h1 fun m => (hM _ m).2 (.inl t1), t1, t2, t3, t4, t5, t6, f.at h2 fun m => (hM _ m).1 t5, f.at h3 fun m => (hM _ m).1 t6, f.at h4 fun m => (hM _ m).2 (.inr (.inl t2)), h5.mono fun v x h => h.fm f,
    f.at h6 fun m => (hM _ m).2 (.inr (.inr (.inl t3))), h7.mono fun v x h => h.fm f, f.at h8 fun m => (hM _ m).2 (.inr (.inr (.inr (.inl t4)))), h9.mono fun v x h => h.fm f fun b m => (hM b m).1,
    h10.fm f fun b m => ⟨(hM b m).1, fun i _ z => (hM b m).2 (.inr (.inr (.inr (.inr ⟨i, z⟩))))⟩⟩
end
theorem lacks_snoc {k : Kn} {l : List Int} {cap m : Nat} (h : lackN k l cap = m + 1) : lacks k l cap = ((List.range m).map fun i => l.length + 1 + i) ++ [l.length + 1 + m] := by
  unfold lacks
  rw [h, List.range_succ, List.map_append]; rfl
theorem lacks_first {k : Kn} {l : List Int} {cap m : Nat} (h : lackN k l cap = m + 1) : (nsV (lacks k l cap))[0]? = some (iV (l.length + 1)) := by
  unfold lacks
  show (List.map iV _)[0]? = _
  rw [List.getElem?_map, List.getElem?_map, h, List.getElem?_range (Nat.succ_pos _)]; rfl
theorem row_drop (f : Nat → Nat) (n lo : Nat) : (rowV f n).drop lo = nsV ((List.range (n - lo)).map fun i => f (lo + i)) := by
  have h := row_slice f (n := n) (lo := lo) (hi := n) (Nat.le_refl _)
  rw [← h, List.take_of_length_le]
  rw [List.length_drop, rowV_len]; exact Nat.le_refl _
section
variable {P : Program} {w : World} {K : PySem.W.Frag} {mg : Str → Option Value} {base : Heap}
theorem sc_law_room : FnScope ["_law_held", "_law_knots", "_law_cap", "_law_many", "_law_one", "_law_lacks_here"] ["_law_held", "_law_knots", "_law_cap"] (defScope s_law_room) := ⟨rfl, rfl, rfl, by decide +kernel, rfl, by decide +kernel, by decide +kernel⟩
def roomN (c : Core) (is : List Nat) (cap : Nat) : Nat := c.clauses.length + (is.map fun i => aheadN c.g.ks (c.g.ks i) (c.outs i) cap).sum
def spLRoom : Sp := fun vs H Q _ => ∃ (φ : Addr → Nat) (pa : Nat → Addr × Addr) (a : MA) (c : Core) (d : Dyn) (ah : List Dyn) (gl : Addr) (is : List Nat) (cap : Nat), vs = [.ref a.mh, .ref gl, iV cap] ∧ MdAt φ H pa a c d ah ∧ H gl = some (.lst (curV pa is)) ∧
  KsOk c.g.n c.g.ks ∧ OutsLe c ∧ (∀ i ∈ is, i < c.g.n) ∧ ∀ H', Sm H H' → Q (iV (roomN c is cap)) H'
theorem cal_law_room (hd : Hd K mg) : C8.Cal P w K mg base 3 "_law_room" spLRoom [] := by
  obtain ⟨fd, F⟩ := hd.d_law_room
  refine mk_cal F hd.g_law_room (F.bindsN fun _ _ _ _ _ _ us hl => match us, hl with | [_, _, _], _ => rfl) sc_law_room (fun vs H Q E h => ?_) (fun cdv A outer s H vs Q E hr h => ?_)
  · obtain ⟨_, _, _, _, _, _, _, _, _, rfl, _⟩ := h; rfl
  · obtain ⟨φ, pa, a, c, d, ah, gl, is, cap, rfl, md, hgl, ok, ol, his, k⟩ := h
    refine ⟨_, (pss_cons (ps_set (i := 3) sc_law_room.nd rfl (Or.inl rfl) (pe_callB call_len_seq (by rfl) hd.f_len PySem.boot_len (pa_cons (pe_dget (hu_of hr) (pv 0) pe_str (fun _ _ => rfl)) pa_nil)))
    (pss_cons (ps_for PassesOwn.never rfl (pi_list (pv 1)) (pg_name (i := 4) sc_law_room.nd rfl (Or.inl rfl))
    (pss_cons (ps_set (i := 5) sc_law_room.nd rfl (Or.inl rfl) (C8.pe_c (cal_law_lacks hd) hr (by first | decide | omega) rfl (pa_cons (pv 4) (pa_cons (pv 2) pa_nil))))
    (pss_one (ps_if (pt_cmpR (op_neE hr.units) (pv 5) (pe_lst pa_nil) (nomark _)) (pss_one (ps_set (i := 3) sc_law_room.nd rfl (Or.inl rfl) (pe_op op_add (pv 3) (pe_callB (cr_sum rfl) (by rfl) hd.f_sum (by decide +kernel) (pa_cons (pe_slice sl_list (C8.pe_c (cal_law_ways_up hd) hr (by first | decide | omega) rfl (pa_cons (C8.pe_c (cal_law_lens hd) hr (by first | decide | omega) rfl (pa_cons (pv 4) (pa_cons (pv 2) pa_nil))) (pa_cons (pe_ix ix_list (pv 5) (pe_un un_neg pe_int) (fun _ _ => rfl)) pa_nil))) (po_some (pe_ix ix_list (pv 5) pe_int (fun _ _ => rfl))) po_none) pa_nil))))) pss_nil))))
    (pss_one (ps_ret (pv 3))))), ?_⟩
    refine ⟨_, rfl, _, _, rfl, mh_clauses md.obj, _, _, rfl, .inl (.of md.mc), ?_⟩
    rw [md.cl]
    refine ⟨_, rfl, gl, rfl, ⟨_, .of hgl⟩, for_it walk_list (fun j σ H' => ∃ (o4 o5 : Option V), σ = [some (.ref a.mh), some (.ref gl), some (iV cap), some (iV (roomN c (is.take j) cap)), o4, o5] ∧ Sm H H') ?_ (fun j σ H' _ ⟨_, _, _, h⟩ => .of (h.at hgl)) ?_ ?_⟩
    · exact ⟨none, none, rfl, .refl⟩
    · rintro j y σ Ha Hb hj ⟨o4, o5, rfl, fa⟩ ⟨rfl, hy⟩
      obtain ⟨i, hi, rfl⟩ := curV_get hy
      have hin := his i (List.mem_of_getElem? hi)
      have mdb := md.sm fa
      have hoi := ol i hin
      have hle := ok.le i hin
      have enext : roomN c (is.take (j + 1)) cap = roomN c (is.take j) cap + aheadN c.g.ks (c.g.ks i) (c.outs i) cap := by
        unfold roomN
        rw [take_snoc hi, List.map_append, List.sum_append]
        simp; omega
      refine ⟨_, rfl, _, rfl, φ, pa, i, c.g.ks i, c.outs i, cap, rfl, mdb.ks i hin, by omega, by omega, fun p1 H1 n1 s1 q1 => ?_⟩
      refine ⟨_, rfl, szN, fun p2 n2 => upd_new n2 fun H2 s2 q2 => ?_⟩
      refine ⟨p1, p2, _, rfl, rfl, .of (s2.at q1), .of q2, _, rfl, ?_⟩
      have f2 : Sm H H2 := (fa.trans s1).trans s2
      cases hlk : lackN (c.g.ks i) (c.outs i) cap with
      | zero =>
        have e0 : lacks (c.g.ks i) (c.outs i) cap = [] := by unfold lacks; rw [hlk]; rfl
        rw [e0]
        refine ifF rfl ⟨some (.ref (pa i).1), some (.ref p1), ?_, f2⟩
        rw [enext, show aheadN c.g.ks (c.g.ks i) (c.outs i) cap = 0 by unfold aheadN; rw [hlk]; rfl]
        rfl
      | succ m =>
        have hne : (nsV (lacks (c.g.ks i) (c.outs i) cap)).isEmpty = false := by
          rw [lacks_snoc hlk]
          cases h : nsV (List.map (fun i_1 => (c.outs i).length + 1 + i_1) (List.range m) ++ [(c.outs i).length + 1 + m]) with
          | nil => simp at h
          | cons x xs => rfl
        refine ifT (by rw [hne]; rfl) ?_
        refine ⟨_, rfl, _, rfl, _, rfl, φ, pa, c.g.n, c.g.ks, c.outs, i, cap, rfl, (md.sm f2).ks, ok, hin, fun p3 H3 n3 s3 q3 => ?_⟩
        have q1' := s3.at (s2.at q1)
        have elast : atI (nsV (lacks (c.g.ks i) (c.outs i) cap)) (-1) = some (iV ((c.outs i).length + 1 + m)) := by
          rw [lacks_snoc hlk, nsV, List.map_append]
          exact atI_last _ _
        have hm12 : (c.outs i).length + 1 + m ≤ 12 := by unfold lackN at hlk; omega
        refine ⟨_, rfl, _, rfl, p1, _, _, _, rfl, rfl, .of q1', elast, p3, _, (c.outs i).length + 1 + m, rfl, q3, by omega, fun p4 H4 s4 q4 => ?_⟩
        have q1'' := s4.at q1'
        refine ⟨_, rfl, p1, _, _, _, rfl, rfl, .of q1'', atI_nat (j := 0) (lacks_first hlk), _, rfl, p4, _, rfl, .of q4, fun p5 n5 => upd_new n5 fun H5 s5 q5 => ?_⟩
        have q5' : H5 p5 = some (.lst (nsV ((List.range (m + 1)).map fun j => ways (lensK c.g.ks cap (c.g.ks i)) ((c.outs i).length + 1 + j)))) := by
          rw [q5]
          refine (congrArg (fun z => some (HO.lst z)) ((cut_drop _ ((c.outs i).length + 1)).trans (row_drop _ _ _))).trans ?_
          rw [show (c.outs i).length + 1 + m + 1 - ((c.outs i).length + 1) = m + 1 by omega]
        refine ⟨p5, _, rfl, .of (asI q5'), ?_⟩
        rw [sum_cast, sm_sum]
        refine ⟨_, _, rfl, rfl, some (.ref (pa i).1), some (.ref p1), ?_, ((f2.trans s3).trans s4).trans s5⟩
        rw [enext, show aheadN c.g.ks (c.g.ks i) (c.outs i) cap = sm (fun j => ways (lensK c.g.ks cap (c.g.ks i)) ((c.outs i).length + 1 + j)) (m + 1) by unfold aheadN; rw [hlk]]
        rfl
    · rintro σ Ha ⟨o4, o5, rfl, fa⟩
      have el : (curV pa is).length = is.length := by simp [curV]
      rw [el, List.take_length]
      exact ⟨_, rfl, k Ha fa⟩
end
end K59
set_option Elab.async false
set_option linter.all false
set_option maxRecDepth 100000
set_option maxHeartbeats 4000000
namespace K59
open PySem PySem.Spec PyProof.Rows L2
section
variable {X : Cx}
/-! ### sum(t) of a tuple of small whole numbers -/
def rSumT (K : PySem.W.Frag) : List V → Hp → VK → Prop := fun vs H Q => ∃ (a : Addr) (c : List Nat), vs = [V.ref a] ∧ SqT K H a (nsV c) ∧ c.sum ≤ 1000000 ∧ Q (iV c.sum) H
theorem call_sumT (hc : X.calm = true) : CallR X (.builtin "sum") (rSumT X.K) := by
  intro pins s σ H vs us Q I r h
  obtain ⟨a, c, rfl, hs, hl, q⟩ := h
  obtain ⟨its, rv, ht, _⟩ := I.tuple hs
  rw [Vals.ref1 r]
  have rv' : Vals (isV (c.map fun n : Nat => (n : Int))) its := by rw [← nsV_eq]; exact rv
  obtain ⟨xs, e⟩ := rv'.ints.allInts.items
  have hn : numsOf (intItems xs).toList = c.map fun n : Nat => (n : Int) := by rw [← e]; exact rv'.ints.numsOf
  rw [nums_intItems] at hn
  rw [e] at ht
  have hpre : ∀ j, preSum (numAt xs) j = ((c.take j).sum : Nat) := fun j => by rw [preSum_eq, hn, ← List.map_take, sum_cast]
  have hlt : a ≠ s.heap.objs.size := by obtain ⟨o, ho, _⟩ := ht; exact Nat.ne_of_lt (Heap.lt_size ho)
  have hsz : (intItems xs).size = c.length := by rw [← e, List.size_toArray, ← rv.length, List.length_map]
  refine call_sum_walk (iter_tuple ht ⟨s.heap.objs.size, _, _, _, _, _, numAt xs, rfl, Walks.tuple (A := X.A.in1) (by rw [show X.A.in1.handled = X.A.handled from rfl]; exact I.ok.hd hc) s.heap.objs.size a hlt (intItems xs), ⟨⟨_, Heap.get?_push_size _ rfl, rfl, rfl⟩, ht.push _⟩, fun b hb => ?_, fun i v hv => intItems_at hv, fun j hj => ?_, fun h' tk t' hk => ?_⟩)
  · rcases List.mem_cons.mp hb with rfl | hb
    · simp
    · rw [List.mem_singleton.mp hb]
      obtain ⟨o, ho, _⟩ := ht
      exact Nat.lt_of_lt_of_le (Heap.lt_size ho) (by simp)
  · have h1 := hpre j
    have h2 := hpre (j + 1)
    have h3 : preSum (numAt xs) (j + 1) = preSum (numAt xs) j + numAt xs j := rfl
    have h4 := sum_take_le c j
    have h5 := sum_take_le c (j + 1)
    unfold InLong
    omega
  · refine ⟨iV c.sum, H, I.kept (t' := tk) (fun b o e => hk b o (by simpa using Nat.ne_of_lt (Heap.lt_size e)) (Heap.get?_push_of_some _ e)), ⟨t', ?_⟩, q⟩
    rw [hpre, hsz, List.take_length]
end
theorem fm_congr {α β : Type} {f g : α → Option β} : ∀ {l : List α}, (∀ x ∈ l, f x = g x) → l.filterMap f = l.filterMap g
  | [], _ => rfl
  | x :: l, h => by
    rw [List.filterMap_cons, List.filterMap_cons, h x (List.mem_cons_self ..), fm_congr fun y hy => h y (List.mem_cons_of_mem _ hy)]
section
variable {P : Program} {w : World} {K : PySem.W.Frag} {mg : Str → Option Value} {base : Heap}
theorem sc_law_choices : FnScope ["_law_lens_here", "_law_total", "_law_found", "_law_most", "_law_more", "_law_counts", "_law_count"] ["_law_lens_here", "_law_total"] (defScope s_law_choices) := ⟨rfl, rfl, rfl, by decide +kernel, rfl, by decide +kernel, by decide +kernel⟩
def spLChoices : Sp := fun vs H Q _ => ∃ (a : Addr) (ls : List Nat) (t : Nat), vs = [.ref a, iV t] ∧ H a = some (.lst (nsV ls)) ∧ t ≤ 1000 ∧ ls.sum ≤ 20 ∧ ls.length ≤ 60 ∧
  ∀ p H' ys, H p = none → Sm H H' → H' p = some (.lst ys) → Rel (TN H') ys (chM ls t) → Q (.ref p) H'
theorem cal_law_choices (hd : Hd K mg) : C8.Cal P w K mg base 1 "_law_choices" spLChoices [] := by
  obtain ⟨fd, F⟩ := hd.d_law_choices
  refine mk_cal F hd.g_law_choices (F.bindsN fun _ _ _ _ _ _ us hl => match us, hl with | [_, _], _ => rfl) sc_law_choices (fun vs H Q E h => ?_) (fun cdv A outer s H vs Q E hr h => ?_)
  · obtain ⟨a, ls, t, rfl, _⟩ := h; rfl
  · obtain ⟨a, ls, t, rfl, ha, ht, hls, hll, k⟩ := h
    refine ⟨_, (pss_cons (ps_set (i := 2) sc_law_choices.nd rfl (Or.inl rfl) (pe_lst (pa_cons (pe_tup pa_nil) pa_nil)))
    (pss_cons (ps_for PassesOwn.never rfl (pi_list (pv 0)) (pg_name (i := 3) sc_law_choices.nd rfl (Or.inl rfl))
    (pss_cons (ps_set (i := 4) sc_law_choices.nd rfl (Or.inl rfl) (pe_lst pa_nil))
    (pss_cons (ps_for PassesOwn.never rfl (pi_list (pv 2)) (pg_name (i := 5) sc_law_choices.nd rfl (Or.inr rfl))
    (pss_one (ps_expr (pe_bm PySem.F.plainAttrs_list PySem.F.slot_list_extend PySem.F.type_list_extend mt_extend (pv 4) (pa_cons (pe_lc (own := [("_law_count", 6)]) (g := (gName 6)) (tt := tYes) (te := (tOp (rCatA K) (tVar 5) (tTup (tCons (tVar 6) tNil)))) rfl sc_law_choices.nd (pi_range1 rfl hd.f_range (pa_cons (pe_op op_add (pe_callB (call_min2 rfl) (by rfl) hd.f_min (by decide +kernel) (pa_cons (pv 3) (pa_cons (pe_op op_sub (pv 1) (pe_callB (call_sumT rfl) (by rfl) hd.f_sum (by decide +kernel) (pa_cons (pv 5) pa_nil))) pa_nil))) pe_int) pa_nil)) (blkOk_by (N := ["_law_lens_here", "_law_total", "_law_found", "_law_most", "_law_more", "_law_counts", "_law_count"]) (sc := defScope s_law_choices) (by decide +kernel)) (fun _ _ _ _ _ => (pg_name (i := 6) sc_law_choices.nd rfl (Or.inl rfl))) (fun _ _ _ _ _ => pts_nil) (fun _ _ _ _ _ => (pe_op op_catA (pv 5) (pe_tup (pa_cons (pv 6) pa_nil))))) pa_nil)))))
    (pss_one (ps_set (i := 2) sc_law_choices.nd rfl (Or.inl rfl) (pv 4))))))
    (pss_one (ps_ret (pe_lc (own := [("_law_counts", 5)]) (g := (gName 5)) (tt := (tTest (tOp rEq (tCB (rSumT K) (tCons (tVar 5) tNil)) (tVar 1)))) (te := (tVar 5)) rfl sc_law_choices.nd (pi_list (pv 2)) (blkOk_by (N := ["_law_lens_here", "_law_total", "_law_found", "_law_most", "_law_more", "_law_counts", "_law_count"]) (sc := defScope s_law_choices) (by decide +kernel)) (fun _ _ _ _ _ => (pg_name (i := 5) sc_law_choices.nd rfl (Or.inl rfl))) (fun _ _ _ _ _ => (pts_one (pt_cmpR op_eq (pe_callB (call_sumT rfl) (by rfl) hd.f_sum (by decide +kernel) (pa_cons (pv 5) pa_nil)) (pv 1) (nomark _)))) (fun _ _ _ _ _ => (pv 5))))))), ?_⟩
    refine ⟨szN, fun p1 n1 => upd_new n1 fun H1 s1 q1 => ?_⟩
    refine ⟨szN, fun p2 n2 => upd_new n2 fun H2 s2 q2 => ?_⟩
    have f2 : Sm H H2 := s1.trans s2
    refine ⟨_, rfl, a, rfl, ⟨_, .of (f2.at ha)⟩, for_it walk_list (fun i σ H' => ∃ (p : Addr) (ys : List V) (o3 o4 o5 o6 : Option V), σ = [some (.ref a), some (iV t), some (.ref p), o3, o4, o5, o6] ∧ Sm H H' ∧ H p = none ∧ H' p = some (.lst ys) ∧ Rel (TN H') ys (pre t (ls.take i))) ?_ (fun i σ H' _ ⟨_, _, _, _, _, _, _, f, _⟩ => .of (f.at ha)) ?_ ?_⟩
    · exact ⟨p2, [.ref p1], none, none, none, none, rfl, f2, s1.free n2, q2, .one ⟨p1, rfl, s2.at q1⟩⟩
    · rintro i x σ Ha Hb hi ⟨p, ys, o3, o4, o5, o6, rfl, f, np, hp, r⟩ ⟨rfl, hx⟩
      obtain ⟨m, hm, rfl⟩ := nsV_get hx
      have hil : i < ls.length := (List.getElem?_eq_some_iff.mp hm).1
      refine ⟨szN, fun pm nm => upd_new nm fun H3 s3 q3 => ?_⟩
      have npm : H pm = none := f.free nm
      have hp3 := s3.at hp
      have hpm : p ≠ pm := ne_live hp nm
      obtain ⟨L, hL⟩ : ∃ L, L = pre t (ls.take i) := ⟨_, rfl⟩
      rw [← hL] at r
      have hnext : pre t (ls.take (i + 1)) = L.flatMap fun c => (List.range (min m (t - c.sum) + 1)).map fun k => c ++ [k] := by
        rw [take_snoc hm, pre_snoc, ← hL]; rfl
      have hpow : (pre t (ls.take (i + 1))).length ≤ 2 ^ 20 := by
        refine Nat.le_trans (len_pre t _) (Nat.pow_le_pow_right (by decide) ?_)
        have := sum_take_le ls (i + 1)
        omega
      rw [hnext] at hpow
      have hmem : ∀ c ∈ L, c.length = i ∧ c.sum ≤ t := fun c hc => by
        rw [hL] at hc
        have := pre_mem t _ c hc
        refine ⟨?_, this.2.1⟩
        rw [this.1, List.length_take]; omega
      refine ⟨_, rfl, p, rfl, ⟨_, .of hp3⟩, for_it walk_list (fun q σ H' => ∃ (zs : List V) (o5 o6 : Option V), σ = [some (.ref a), some (iV t), some (.ref p), some (iV m), some (.ref pm), o5, o6] ∧ Sm H H' ∧ H' p = some (.lst ys) ∧ Rel (TN H') ys L ∧ H' pm = some (.lst zs) ∧
        Rel (TN H') zs ((L.take q).flatMap fun c => (List.range (min m (t - c.sum) + 1)).map fun k => c ++ [k])) ?_ (fun q σ H' _ ⟨_, _, _, _, _, h, _⟩ => .of h) ?_ ?_⟩
      · exact ⟨[], _, _, rfl, f.trans s3, hp3, r.mono fun v x h => h.fm s3, q3, .nil⟩
      · rintro q x σ Hc Hd' hq ⟨zs, o5, o6, rfl, fc, hpc, rc, hmc, zc⟩ ⟨rfl, hx⟩
        obtain ⟨c, hc, b1, rfl, hb1⟩ := rc.get hx
        obtain ⟨hcl, hcs⟩ := hmem c (List.mem_of_getElem? hc)
        have hlen : zs.length + (min m (t - c.sum) + 1) ≤ 2 ^ 20 := by
          have e : (L.take q).flatMap (fun c => (List.range (min m (t - c.sum) + 1)).map fun k => c ++ [k]) ++ ((List.range (min m (t - c.sum) + 1)).map fun k => c ++ [k]) = (L.take (q + 1)).flatMap (fun c => (List.range (min m (t - c.sum) + 1)).map fun k => c ++ [k]) := by
            rw [take_snoc hc, List.flatMap_append]; simp
          have h2 : (L.flatMap (fun c => (List.range (min m (t - c.sum) + 1)).map fun k => c ++ [k])).length = ((L.take (q + 1)).flatMap (fun c => (List.range (min m (t - c.sum) + 1)).map fun k => c ++ [k])).length + ((L.drop (q + 1)).flatMap (fun c => (List.range (min m (t - c.sum) + 1)).map fun k => c ++ [k])).length := by
            rw [← List.length_append, ← List.flatMap_append, List.take_append_drop]
          rw [← e, List.length_append, List.length_map, List.length_range, ← zc.1] at h2
          omega
        refine ⟨_, rfl, .inl ⟨rfl, _, .of hmc⟩, ?_⟩
        refine ⟨_, rfl, _, rfl, _, rfl, b1, c, rfl, .of hb1, by omega, _, _, rfl, rfl, _, _, rfl, _, _, rfl, rfl, ((min m (t - c.sum) + 1 : Nat) : Int), ?_, by omega, by omega, ?_⟩
        · refine congrArg (fun z => [V.int z]) ?_
          split <;> omega
        refine lc_all (walk_range (n := min m (t - c.sum) + 1)) (M := No) (fun j y H' => TN H' y (c ++ [j])) ?_ (fun _ z => z.elim) (fun H' f' => trivial) (fun i y N H H' h f => h.fm f) ?_ ?_
        · rw [sizeLine_eq]; omega
        · rintro j y He Hf Qy hj fe yy kq
          obtain ⟨e2, e1⟩ := yy
          have e1 : y = iV j := by rw [e1]; exact congrArg V.int (Int.zero_add _)
          subst e1 e2
          have hb := Sm.at fe hb1
          refine ⟨rfl, _, rfl, _, rfl, szN, fun p6 n6 => upd_new n6 fun H6 s6 q6 => ?_⟩
          by_cases ce : c = []
          · subst ce
            exact ⟨b1, p6, _, _, rfl, rfl, .of (s6.at hb), .of q6, (by rw [sizeLine_eq]; simp), fun _ => kq _ H6 s6 ⟨p6, rfl, q6⟩, fun z => absurd rfl z, fun z => absurd rfl z⟩
          · refine ⟨b1, p6, _, _, rfl, rfl, .of (s6.at hb), .of q6, ?_, fun z => absurd (List.map_eq_nil_iff.mp z) ce, fun _ z => (nomatch z), fun _ _ p7 n7 => upd_new n7 fun H7 s7 q7 => kq _ H7 (s6.trans s7) ⟨p7, rfl, ?_⟩⟩
            · rw [List.length_map, hcl, sizeLine_eq]
              show _ + 1 ≤ _
              omega
            · rw [q7]
              show some (HO.tup (c.map iV ++ [iV _])) = some (HO.tup ((c ++ [_]).map iV))
              rw [List.map_append]; rfl
        rintro p8 ws H8 n8 f8 q8 hz8 hh8
        have m8 := Sm.at f8 hmc
        refine ⟨pm, p8, _, _, rfl, rfl, m8, q8, by rw [hz8, sizeLine_eq]; omega, upd_put m8 no_lst fun H9 f9 q9 => ?_⟩
        have g8 : Sm Hd' H8 := f8
        refine ⟨zs ++ ws, some (.ref b1), o6, rfl, (fc.trans g8).over1 npm f9, f9.at (g8.at hpc) hpm, rc.mono fun v x h => (h.fm g8).fm f9, q9, ?_⟩
        rw [take_snoc hc, List.flatMap_append]
        refine (zc.mono fun v x h => (h.fm g8).fm f9).app ?_
        rw [List.flatMap_singleton]
        refine ⟨by rw [hz8, List.length_map, List.length_range], fun j v x hv hx => ?_⟩
        have hjl := (List.getElem?_eq_some_iff.mp hv).1
        rw [List.getElem?_map, List.getElem?_range (by omega)] at hx
        cases hx
        exact (hh8 j v hv).fm f9
      · rintro σ Hc ⟨zs, o5, o6, rfl, fc, hpc, rc, hmc, zc⟩
        refine ⟨_, rfl, pm, zs, some (iV m), some (.ref pm), o5, o6, rfl, fc, npm, hmc, ?_⟩
        rw [r.1, List.take_length] at zc
        rw [hnext]
        exact zc
    · rintro σ Ha ⟨p, ys, o3, o4, o5, o6, rfl, f, np, hp, r⟩
      have el : (nsV ls).length = ls.length := by simp
      rw [el, List.take_length] at r
      have rl := r.1
      have hpow := len_pre t ls
      have hpow2 : 2 ^ ls.sum ≤ 2 ^ 20 := Nat.pow_le_pow_right (by decide) hls
      refine ⟨_, rfl, p, rfl, ⟨_, .of hp⟩, lc_fil walk_list (M := No) (fun H y c => TN H y c) (fun i => match (pre t ls)[i]? with | some c => if c.sum = t then some c else none | none => none) ?_ (fun _ z => z.elim) (fun H' f' => .of (Sm.at f' hp)) (fun y c N H H' h f => h.fm f) ?_ ?_⟩
      · rw [rl, sizeLine_eq]; omega
      · rintro j y Hc Hd' Qy Qn hj fc ⟨rfl, hy⟩ ky kn
        obtain ⟨c, hc, b1, rfl, hb1⟩ := r.get hy
        have hcs := (pre_mem t _ c (List.mem_of_getElem? hc)).2.1
        refine ⟨rfl, _, rfl, b1, c, rfl, .of (Sm.at fc hb1), by omega, _, rfl, rfl, _, rfl, ite2 (fun e => ?_) (fun e => ?_)⟩
        · have e' : c.sum = t := by
            have h := of_decide_eq_true e
            have h : (c.sum : Int) = (t : Int) := V.int.inj h
            omega
          exact ⟨_, rfl, ky _ c _ (by rw [hc]; exact if_pos e') .refl ⟨b1, rfl, Sm.at fc hb1⟩⟩
        · have e' : ¬ c.sum = t := fun z => e (decide_eq_true (congrArg V.int (by rw [z])))
          exact kn _ (by rw [hc]; exact if_neg e') .refl
      · rintro D zs Hq nD fe hD rz
        refine k D Hq zs (f.free nD) (f.trans fe) hD ?_
        have e : (List.range ys.length).filterMap (fun i => match (pre t ls)[i]? with | some c => if c.sum = t then some c else none | none => none) = chM ls t := by
          unfold chM
          rw [rl]
          generalize pre t ls = L
          induction L using snoc_ind with
          | h0 => rfl
          | hs l x ih =>
            rw [List.length_append, List.length_singleton, List.range_succ, List.filterMap_append, List.filter_append]
            congr 1
            · rw [← ih]
              refine fm_congr fun i hi => ?_
              rw [List.getElem?_append_left (by simpa using hi)]
            · simp only [List.filterMap_cons, List.filterMap_nil, List.filter_cons, List.filter_nil]
              rw [List.getElem?_append_right (Nat.le_refl _)]
              simp only [Nat.sub_self, List.getElem?_cons_zero]
              by_cases h : x.sum = t <;> simp [h]
        rw [e] at rz
        exact rz
end
end K59
set_option Elab.async false
set_option linter.all false
set_option maxRecDepth 100000
set_option maxHeartbeats 4000000
namespace K59
open PySem PySem.Spec PyProof.Rows L2
/-- as lc_all, where what is got may be a list -/
theorem lc_mut {J : It} {n : Nat} {G : Hp → Prop} {Y : Nat → Hp → V → Hp → Prop} (w : Walk J n G Y) {g : TG} {te : TE} {vs : List Nat} {σ : L2.St} {H1 : Hp} {M : Addr → Prop} {Qd : Addr → Hp → Prop} (R : Addr → Nat → V → Hp → Prop)
    (hn : n ≤ sizeLine) (hM : ∀ b, M b → H1 b ≠ none) (hG : ∀ H, Fm M H1 H → G H) (hR : ∀ D i y H H', H1 D = none → R D i y H → Fm (fun b => M b ∨ b = D) H H' → R D i y H')
    (hs : ∀ D i x H H' (Qy : V → Hp → Prop), H1 D = none → i < n → Fm M H1 H → H D ≠ none → Y i H x H' → (∀ y H4, Fm M H H4 → R D i y H4 → Qy y H4) → g x (wipe σ vs) H' fun σ2 H2 => wipe σ2 vs = wipe σ vs ∧ te σ2 H2 Qy)
    (hd : ∀ D ys H', H1 D = none → Fm M H1 H' → H' D = some (.lst ys) → ys.length = n → (∀ i y, ys[i]? = some y → R D i y H') → Qd D H') :
    ∀ D, H1 D = none → ∃ W : Nat → Nat → Hp → Prop, (∃ m, W 0 m (upd H1 D (.lst []))) ∧ ∀ i m H, W i m H →
      (J.stop i H ∧ Qd D H) ∨ (J.go i H ∧ ∃ Nx : Hp → Prop, (∀ H', Nx H' → ∃ m', m' < m ∧ W (i + 1) m' H') ∧ ∀ x H', J.yld i H x H' → g x (wipe σ vs) H' fun σ2 H2 => wipe σ2 vs = wipe σ vs ∧ tYes σ2 H2 fun b H3 =>
        if b = true then te σ2 H3 fun y H4 => ∃ acc, H4 D = some (.lst acc) ∧ acc.length < sizeLine ∧ Nx (upd H4 D (.lst (acc ++ [y]))) else Nx H3) := by
  intro D nD
  have mD : ¬ M D := fun z => hM D z nD
  refine lc_it w (g := g) (tt := tYes) (te := te) (vs := vs) (σ := σ) (H1 := H1) (D := D) (Qd := Qd D)
    (fun i H => Fm M H1 H ∧ ∃ acc, H D = some (.lst acc) ∧ acc.length = i ∧ ∀ j z, acc[j]? = some z → R D j z H) ?_ (fun i H _ p => hG H p.1) ?_ ?_
  · exact ⟨.new nD, [], upd_same, rfl, fun j z e => by simp at e⟩
  · intro i x H H' hi p yy
    obtain ⟨f, acc, hD, hl, hall⟩ := p
    refine hs D i x H H' _ nD hi f (live_of hD) yy fun y H4 f4 r4 => ?_
    have hD4 := f4.keep _ _ hD mD
    have f2 : Fm (· = D) H4 (upd H4 D (.lst (acc ++ [y]))) := .put hD4 rfl no_lst
    have f2' : Fm (fun b => M b ∨ b = D) H4 (upd H4 D (.lst (acc ++ [y]))) := f2.mono fun b _ h => .inr h
    refine ⟨acc, hD4, by omega, (f.trans f4).over nD, acc ++ [y], upd_same, by rw [List.length_append, hl]; rfl, fun j z e => ?_⟩
    by_cases c : j < acc.length
    · rw [List.getElem?_append_left c] at e
      exact hR D j z _ _ nD (hR D j z _ _ nD (hall j z e) (f4.mono fun b _ h => .inl h)) f2'
    · rw [List.getElem?_append_right (by omega)] at e
      have ej : j - acc.length = 0 := by
        have := (List.getElem?_eq_some_iff.mp e).1
        simp at this; omega
      rw [ej] at e
      have ey : y = z := by simpa using e
      have ei : j = i := by omega
      subst ey; subst ei
      exact hR D j y _ _ nD r4 f2'
  · intro H p
    obtain ⟨f, acc, hD, hl, hall⟩ := p
    exact hd D acc H nD f hD hl hall
/-! ### the model's state, changed in one place -/
section
variable {φ : Addr → Nat} {H H' : Hp} {pa : Nat → Addr × Addr} {a : MA} {c : Core} {d : Dyn} {ah : List Dyn}
theorem MdAt.len (k : MdAt φ H pa a c d ah) {x : List (List Int)} (h : x.length = c.clauses.length) : MdAt φ H pa a { c with clauses := x } d ah :=
  ⟨k.obj, k.t1, k.t2, k.t3, k.t4, k.t5, k.t6, k.hm, k.gl, k.nm, k.nr, k.mc, k.cl.trans h.symm, k.aa, k.dy, k.ks⟩
theorem ntag {φ : Addr → Nat} {b e : Addr} {t u : Nat} (hb : φ b = t) (he : φ e = u) (h : t ≠ u) : b ≠ e := fun z => h (by rw [← hb, z, he])
theorem MdAt.addCl (k : MdAt φ H pa a c d ah) {v : V} (f : Fm (· = a.mc) H H') (q : H' a.mc = some (.lst (a.cv ++ [v]))) (x : List Int) : MdAt φ H' pa { a with cv := a.cv ++ [v] } { c with clauses := c.clauses ++ [x] } d ah :=
  ⟨f.at k.obj (ntag k.t1 k.t3 (by decide)), k.t1, k.t2, k.t3, k.t4, k.t5, k.t6, f.at k.hm (ntag k.t5 k.t3 (by decide)), f.at k.gl (ntag k.t6 k.t3 (by decide)), f.at k.nm (ntag k.t2 k.t3 (by decide)), k.nr.mono fun v x h => h.fm f, q, by rw [List.length_append, List.length_append, k.cl]; rfl,
    f.at k.aa (ntag k.t4 k.t3 (by decide)), k.dy.mono fun v x h => h.fm f fun b hb => by rw [hb, k.t3]; decide, k.ks.fm f fun b hb => by rw [hb, k.t3]; exact ⟨by decide, fun i _ => by unfold tgL; omega⟩⟩
theorem MdAt.addCls (k : MdAt φ H pa a c d ah) {l : List V} (f : Fm (· = a.mc) H H') (q : H' a.mc = some (.lst (a.cv ++ l))) (x : List (List Int)) (hx : l.length = x.length) : MdAt φ H' pa { a with cv := a.cv ++ l } { c with clauses := c.clauses ++ x } d ah :=
  ⟨f.at k.obj (ntag k.t1 k.t3 (by decide)), k.t1, k.t2, k.t3, k.t4, k.t5, k.t6, f.at k.hm (ntag k.t5 k.t3 (by decide)), f.at k.gl (ntag k.t6 k.t3 (by decide)), f.at k.nm (ntag k.t2 k.t3 (by decide)), k.nr.mono fun v x h => h.fm f, q, by rw [List.length_append, List.length_append, k.cl, hx],
    f.at k.aa (ntag k.t4 k.t3 (by decide)), k.dy.mono fun v x h => h.fm f fun b hb => by rw [hb, k.t3]; decide, k.ks.fm f fun b hb => by rw [hb, k.t3]; exact ⟨by decide, fun i _ => by unfold tgL; omega⟩⟩
theorem MdAt.addNm (k : MdAt φ H pa a c d ah) {v : V} {n : Int} (f : Fm (· = a.nm) H H') (q : H' a.nm = some (.lst (a.nv ++ [v]))) (hv : NmAt H' v n) : MdAt φ H' pa { a with nv := a.nv ++ [v] } { c with names := c.names ++ [n] } d ah :=
  ⟨f.at k.obj (ntag k.t1 k.t2 (by decide)), k.t1, k.t2, k.t3, k.t4, k.t5, k.t6, f.at k.hm (ntag k.t5 k.t2 (by decide)), f.at k.gl (ntag k.t6 k.t2 (by decide)), q, (k.nr.mono fun v x h => h.fm f).snoc hv, f.at k.mc (ntag k.t3 k.t2 (by decide)), k.cl,
    f.at k.aa (ntag k.t4 k.t2 (by decide)), k.dy.mono fun v x h => h.fm f fun b hb => by rw [hb, k.t2]; decide, k.ks.fm f fun b hb => by rw [hb, k.t2]; exact ⟨by decide, fun i _ => by unfold tgL; omega⟩⟩
theorem mks_after {n i : Nat} {ks : Nat → Kn} {outs : Nat → List Int} {l : List Int} (hk : MKs φ H pa n ks outs) (hi : i < n) (f : Fm (· = (pa i).2) H H') (h : H' (pa i).2 = some (.lst (isV l))) : MKs φ H' pa n ks (updN outs i l) := by
  have ht := (hk i hi).tag
  intro j hj
  by_cases c : j = i
  · subst c
    rw [updN_same]
    obtain ⟨⟨o, s, h1, h2, h3, h4⟩, h5, h6, h7⟩ := hk j hj
    refine ⟨⟨o, s, f.at h1 fun z => ?_, h2, f.at h3 fun z => ?_, h4⟩, h5, h, h7⟩
    · rw [z, ht] at h5; unfold tgL at h5; omega
    · rw [z, ht] at h4; unfold tgL at h4; omega
  · rw [updN_ne c]
    refine (hk j hj).fm f fun b hb => ?_
    subst hb
    rw [ht]
    unfold tgL
    omega
theorem MdAt.setOuts (k : MdAt φ H pa a c d ah) {i : Nat} {l : List Int} (hi : i < c.g.n) (f : Fm (· = (pa i).2) H H') (q : H' (pa i).2 = some (.lst (isV l))) : MdAt φ H' pa a { c with outs := updN c.outs i l } d ah := by
  have ht := (k.ks i hi).tag
  have ne : ∀ {b : Addr} {t : Nat}, φ b = t → t < 15 → b ≠ (pa i).2 := fun hb hl => ntag hb ht (by unfold tgL; omega)
  exact ⟨f.at k.obj (ne k.t1 (by decide)), k.t1, k.t2, k.t3, k.t4, k.t5, k.t6, f.at k.hm (ne k.t5 (by decide)), f.at k.gl (ne k.t6 (by decide)), f.at k.nm (ne k.t2 (by decide)), k.nr.mono fun v x h => h.fm f, f.at k.mc (ne k.t3 (by decide)), k.cl,
    f.at k.aa (ne k.t4 (by decide)), k.dy.mono fun v x h => h.fm f fun b hb => by rw [hb, ht]; unfold tgL; omega, mks_after k.ks hi f q⟩
theorem MdAt.setObj (k : MdAt φ H pa a c d ah) {d' : Dyn} {n : Int} {hm gl : Addr} (f : Fm (· = a.mh) H H') (q : H' a.mh = some (mhO { a with hm := hm, gl := gl } { c with coming := n } d')) (h1 : H' hm = some (.lst (isV d'.marks))) (h2 : φ hm = 0)
    (h3 : H' gl = some (.lst (curV pa d'.cur))) (h4 : φ gl = 0) : MdAt φ H' pa { a with hm := hm, gl := gl } { c with coming := n } d' ah :=
  ⟨q, k.t1, k.t2, k.t3, k.t4, h2, h4, h1, h3, f.at k.nm (ntag k.t2 k.t1 (by decide)), k.nr.mono fun v x h => h.fm f, f.at k.mc (ntag k.t3 k.t1 (by decide)), k.cl,
    f.at k.aa (ntag k.t4 k.t1 (by decide)), k.dy.mono fun v x h => h.fm f fun b hb => by rw [hb, k.t1]; decide, k.ks.fm f fun b hb => by rw [hb, k.t1]; exact ⟨by decide, fun i _ => by unfold tgL; omega⟩⟩
end
/-- a knot partly grown -/
def cmid (c : Core) (cap i j : Nat) : Core :=
  { g := c.g, outs := updN c.outs i (c.outs i ++ newNm c.coming j), names := c.names ++ newNm c.coming j,
    clauses := c.clauses ++ newCl (rowsK c.g.ks c.outs cap (c.g.ks i)) (lensK c.g.ks cap (c.g.ks i)) (c.outs i).length c.coming j, coming := c.coming + (j : Int) }
/-- the whole row of a source, as the model has it -/
def Src.full (outs : Nat → List Int) : Src → List Int
  | .mk m => [m]
  | .kn j => outs j
/-- what growing changes -/
def GM (i t : Nat) : Prop := t = 6 ∨ t = 7 ∨ t = 11 ∨ t = tgL i
section
variable {P : Program} {w : World} {K : PySem.W.Frag} {mg : Str → Option Value} {base : Heap}
theorem sc_law_grow : FnScope ["_law_one", "_law_cap", "_law_held", "_law_rows", "_law_total", "_law_counts", "_law_source", "_law_name", "_law_meaning", "_law_marks_here", "_law_k", "_law_mark"] ["_law_one", "_law_cap", "_law_held"] (defScope s_law_grow) := ⟨rfl, rfl, rfl, by decide +kernel, rfl, by decide +kernel, by decide +kernel⟩
def spLGrow : Sp := fun vs H Q _ => ∃ (φ : Addr → Nat) (pa : Nat → Addr × Addr) (a : MA) (c : Core) (d : Dyn) (ah : List Dyn) (i cap : Nat), vs = [.ref (pa i).1, iV cap, .ref a.mh] ∧ MdAt φ H pa a c d ah ∧ Live φ H ∧ KsOk c.g.n c.g.ks ∧ OutsLe c ∧ i < c.g.n ∧ 1 ≤ cap ∧
  (∀ s ∈ (c.g.ks i).src, Full c.g.ks c.outs cap s) ∧ c.names.length ≤ 8000 ∧ c.clauses.length ≤ 8000 ∧
  ∀ ncv nnv H', Fm (fun b => LT (φ b)) H H' → MdAt φ H' pa { a with cv := a.cv ++ ncv, nv := a.nv ++ nnv } (growK cap c i) d ah → Q .non H'
theorem cal_law_grow (hd : Hd K mg) : C8.Cal P w K mg base 4 "_law_grow" spLGrow [] := by
  obtain ⟨fd, F⟩ := hd.d_law_grow
  refine mk_cal F hd.g_law_grow (F.bindsN fun _ _ _ _ _ _ us hl => match us, hl with | [_, _, _], _ => rfl) sc_law_grow (fun vs H Q E h => ?_) (fun cdv A outer s H vs Q E hr h => ?_)
  · obtain ⟨_, _, _, _, _, _, _, _, rfl, _⟩ := h; rfl
  · obtain ⟨φ, pa, a, c, d, ah, i, cap, rfl, md, lv, ok, ol, hi, hc, hfull, hnl, hcl, k⟩ := h
    refine ⟨_, (pss_cons (ps_set (i := 3) sc_law_grow.nd rfl (Or.inr rfl) (pe_lc (own := [("_law_source", 6)]) (g := (gName 6)) (tt := tYes) (te := (tIf (tB (tCB (rIsi K) (tCons (tVar 6) (tCons (tC (V.ty "int")) tNil)))) (tLst (tCons (tVar 6) tNil)) (tDGet (tVar 6) (tC (V.str "outs"))))) rfl sc_law_grow.nd (pi_list (pe_dget (hu_of hr) (pv 0) pe_str (fun _ _ => rfl))) (blkOk_by (N := ["_law_one", "_law_cap", "_law_held", "_law_rows", "_law_total", "_law_counts", "_law_source", "_law_name", "_law_meaning", "_law_marks_here", "_law_k", "_law_mark"]) (sc := defScope s_law_grow) (by decide +kernel)) (fun _ _ _ _ _ => (pg_name (i := 6) sc_law_grow.nd rfl (Or.inl rfl))) (fun _ _ _ _ _ => pts_nil) (fun _ _ _ _ _ => (pe_ifExp (pt_val (pe_callB call_isi (by rfl) hd.f_isinstance (by decide +kernel) (pa_cons (pv 6) (pa_cons (pe_bltn (v := .ty "int") rfl hd.f_int (by decide +kernel) rfl) pa_nil)))) (pe_lst (pa_cons (pv 6) pa_nil)) (pe_dget (hu_of hr) (pv 6) pe_str (fun _ _ => rfl))))))
    (pss_one (ps_for PassesOwn.never rfl (pi_list (C8.pe_c (cal_law_lacks hd) hr (by first | decide | omega) rfl (pa_cons (pv 0) (pa_cons (pv 1) pa_nil)))) (pg_name (i := 4) sc_law_grow.nd rfl (Or.inl rfl))
    (pss_cons (ps_par (i := 7) (j := 8) rfl sc_law_grow.nd rfl rfl (by decide) rfl rfl (pa_cons (pe_dget (hu_of hr) (pv 2) pe_str (fun _ _ => rfl)) (pa_cons (pe_lst pa_nil) pa_nil)) rfl)
    (pss_cons (ps_for PassesOwn.never rfl (pi_list (C8.pe_c (cal_law_choices hd) hr (by first | decide | omega) rfl (pa_cons (C8.pe_c (cal_law_lens hd) hr (by first | decide | omega) rfl (pa_cons (pv 0) (pa_cons (pv 1) pa_nil))) (pa_cons (pv 4) pa_nil)))) (pg_name (i := 5) sc_law_grow.nd rfl (Or.inr rfl))
    (pss_cons (ps_setLc (i := 9) (own := [("_law_k", 10)]) (g := (gName 10)) (tt := (tTest (tOp (rI0 fun i j => V.bl (decide (j < i))) (tOp (rIxT K) (tVar 5) (tVar 10)) (tC (V.int 0))))) (te := (tOp (rIxL K) (tOp (rIxL K) (tVar 3) (tVar 10)) (tOp (rI0 fun i j => V.int (i - j)) (tOp (rIxT K) (tVar 5) (tVar 10)) (tC (V.int 1))))) rfl sc_law_grow.nd rfl rfl (sw_true rfl rfl rfl (by decide +kernel)) (pi_range1 rfl hd.f_range (pa_cons (pe_callB call_len_seq (by rfl) hd.f_len PySem.boot_len (pa_cons (pv 3) pa_nil)) pa_nil)) (blkOk_by (N := ["_law_one", "_law_cap", "_law_held", "_law_rows", "_law_total", "_law_counts", "_law_source", "_law_name", "_law_meaning", "_law_marks_here", "_law_k", "_law_mark"]) (sc := defScope s_law_grow) (by decide +kernel)) (fun _ _ _ _ _ => (pg_name (i := 10) sc_law_grow.nd rfl (Or.inl rfl))) (fun _ _ _ _ _ => (pts_one (pt_cmpR op_gt (pe_ix ix_tup (pv 5) (pv 10) (fun _ _ => rfl)) pe_int (nomark _)))) (fun _ _ _ _ _ => (pe_ix ix_list (pe_ix ix_list (pv 3) (pv 10) (fun _ _ => rfl)) (pe_op op_sub (pe_ix ix_tup (pv 5) (pv 10) (fun _ _ => rfl)) pe_int) (fun _ _ => rfl))))
    (pss_cons (ps_expr (pe_bm PySem.F.plainAttrs_list PySem.F.slot_list_append PySem.F.type_list_append mt_append (pv 8) (pa_cons (pe_callTy call_tuple_of (by rfl) hd.f_tuple (by decide +kernel) (pa_cons (pv 9) pa_nil)) pa_nil)))
    (pss_one (ps_expr (pe_bm PySem.F.plainAttrs_list PySem.F.slot_list_append PySem.F.type_list_append mt_append (pe_dget (hu_of hr) (pv 2) pe_str (fun _ _ => rfl)) (pa_cons (pe_callTy call_tuple_of (by rfl) hd.f_tuple (by decide +kernel) (pa_cons (pe_op op_cat (pe_lc (own := [("_law_mark", 11)]) (g := (gName 11)) (tt := tYes) (te := (tOp (rI0 fun i j => V.int (i - j)) (tC (V.int 0)) (tVar 11))) rfl sc_law_grow.nd (pi_list (pv 9)) (blkOk_by (N := ["_law_one", "_law_cap", "_law_held", "_law_rows", "_law_total", "_law_counts", "_law_source", "_law_name", "_law_meaning", "_law_marks_here", "_law_k", "_law_mark"]) (sc := defScope s_law_grow) (by decide +kernel)) (fun _ _ _ _ _ => (pg_name (i := 11) sc_law_grow.nd rfl (Or.inl rfl))) (fun _ _ _ _ _ => pts_nil) (fun _ _ _ _ _ => (pe_op op_sub pe_int (pv 11)))) (pe_lst (pa_cons (pv 7) pa_nil))) pa_nil)) pa_nil)))))))
    (pss_cons (ps_expr (pe_bm PySem.F.plainAttrs_list PySem.F.slot_list_append PySem.F.type_list_append mt_append (pe_dget (hu_of hr) (pv 2) pe_str (fun _ _ => rfl)) (pa_cons (pe_tup (pa_cons (pv 7) (pa_cons (pe_callTy call_tuple_of (by rfl) hd.f_tuple (by decide +kernel) (pa_cons (pv 8) pa_nil)) pa_nil))) pa_nil)))
    (pss_cons (ps_expr (pe_bm PySem.F.plainAttrs_list PySem.F.slot_list_append PySem.F.type_list_append mt_append (pe_dget (hu_of hr) (pv 0) pe_str (fun _ _ => rfl)) (pa_cons (pv 7) pa_nil)))
    (pss_one (ps_dput (hu_of hr) (pv 2) pe_str (pe_op op_add (pv 7) pe_int) rfl))))))))), ?_⟩
    obtain ⟨⟨h, sa, h1, rfl, h3, h4⟩, h5, h6, h7⟩ := md.ks i hi
    refine ⟨_, rfl, _, _, rfl, (mob_get h1).1, sa, rfl, ⟨_, .of h3⟩, lc_mut walk_list (M := No) (fun D j y H' => ∃ s r, (c.g.ks i).src[j]? = some s ∧ y = .ref r ∧ H' r = some (.lst (isV (s.full c.outs))) ∧ (φ r = 0 ∨ ∃ q, q < i ∧ φ r = tgL q) ∧ r ≠ D) ?_ (fun _ z => z.elim) (fun H' f' => .of (Sm.at f' h3)) ?_ ?_ ?_⟩
    · have := ok.few i hi
      rw [List.length_map, sizeLine_eq]; omega
    · rintro D j y Ha Hb nD ⟨s, r, e1, e2, e3, e4, e5⟩ f
      exact ⟨s, r, e1, e2, f.at e3 fun z => z.elim id e5, e4, e5⟩
    · rintro D j y Hc Hd' Qy nD hj fc lD ⟨rfl, hy⟩ kq
      obtain ⟨sj, hsj, rfl⟩ := src_get hy
      have hok := ok.src hi (List.mem_of_getElem? hsj)
      have mdc := md.sm fc
      cases sj with
      | mk m =>
        refine ⟨rfl, _, rfl, _, _, _, _, _, rfl, .ty _, .base (.int _), kit_ty (r := true) (by decide +kernel), _, rfl, ifT rfl ⟨_, rfl, szN, fun p np => upd_new np fun H4 s4 q4 => kq _ H4 s4 ⟨.mk m, p, hsj, rfl, q4, .inl ?_, fun z => lD (by rw [← z]; exact np)⟩⟩⟩
        exact lv.zero (Fm.free fc np)
      | kn q =>
        have hq := ok.low i hi q (List.mem_of_getElem? hsj)
        obtain ⟨⟨h', sa', g1, rfl, g3, g4⟩, g5, g6, g7⟩ := mdc.ks q (hok q rfl)
        refine ⟨rfl, _, rfl, _, _, _, _, _, rfl, .ty _, .base (.dK g1), kit_ty (r := false) (by decide +kernel), _, rfl, ifF rfl ⟨_, rfl, _, _, rfl, (mob_get g1).2.2, kq _ _ .refl ⟨.kn q, _, hsj, rfl, g6, .inr ⟨q, hq, g7⟩, fun z => ?_⟩⟩⟩
        exact ne_live (md.ks q (hok q rfl)).outs nD z
    rintro pr rv H1 npr g1 hpr hrl hrh
    have g1 : Sm H H1 := g1
    have md1 := md.sm g1
    have hin := ol i hi
    have hle := ok.le i hi
    have few := ok.few i hi
    have hrl : rv.length = (c.g.ks i).src.length := by rw [hrl, List.length_map]
    refine ⟨_, rfl, _, rfl, φ, pa, i, c.g.ks i, c.outs i, cap, rfl, md1.ks i hi, by omega, by omega, fun pl H2 nl s2 q2 => ?_⟩
    have md2 := md1.sm s2
    have hpr2 := s2.at hpr
    have f02 : Sm H H2 := g1.trans s2
    have zpr : φ pr = 0 := lv.zero npr
    have zpl : φ pl = 0 := lv.zero (g1.free nl)
    have gz : ∀ b, φ b = 0 → ¬ GM i (φ b) := fun b h z => by rw [h] at z; rcases z with z | z | z | z <;> first | cases z | (unfold tgL at z; omega)
    have gL : ∀ b, GM i (φ b) → LT (φ b) := fun b z => by
      rcases z with z | z | z | z
      · exact .inl z
      · exact .inr (.inl z)
      · exact .inr (.inr (.inl z))
      · exact .inr (.inr (.inr (.inr ⟨i, z⟩)))
    have hrows : ∀ (q : Nat) s, (c.g.ks i).src[q]? = some s → ∃ r, rv[q]? = some (.ref r) ∧ H2 r = some (.lst (isV (s.full c.outs))) ∧ ¬ GM i (φ r) := by
      intro q s hs
      have hql : q < rv.length := by rw [hrl]; exact (List.getElem?_eq_some_iff.mp hs).1
      obtain ⟨s', r, e1, e2, e3, e4, _⟩ := hrh q _ (List.getElem?_eq_getElem hql)
      rw [hs] at e1
      cases e1
      refine ⟨r, by rw [List.getElem?_eq_getElem hql, e2], s2.at e3, ?_⟩
      rcases e4 with e4 | ⟨q', hq', e4⟩
      · exact gz r e4
      · rw [e4]; intro z; rcases z with z | z | z | z <;> unfold tgL at z <;> omega
    have lensum := lens_sum_le c.g.ks cap (c.g.ks i)
    rw [ok.sum i hi] at lensum
    have lenprod := Nat.le_trans (lens_prod_le c.g.ks cap (c.g.ks i)) (ok.prod i hi)
    have ell : (lensK c.g.ks cap (c.g.ks i)).length = (c.g.ks i).src.length := by simp [lensK]
    -- rows are long enough
    have rowlt : ∀ (q : Nat) s m, (c.g.ks i).src[q]? = some s → (lensK c.g.ks cap (c.g.ks i))[q]? = some m → m ≤ (s.full c.outs).length := by
      intro q s m hs hm
      unfold lensK at hm
      rw [List.getElem?_map, hs] at hm
      cases hm
      have hf := hfull s (List.mem_of_getElem? hs)
      cases s with
      | mk x => show min cap 1 ≤ 1; omega
      | kn j => exact hf j rfl
    have hti : φ (pa i).2 = tgL i := h7
    refine ⟨pl, rfl, ⟨_, .of q2⟩, for_it walk_list (fun j σ H' => ∃ (o4 o5 o6 o7 o8 o9 o10 o11 : Option V) (ncv nnv : List V), σ = [some (.ref (pa i).1), some (iV cap), some (.ref a.mh), some (.ref pr), o4, o5, o6, o7, o8, o9, o10, o11] ∧
      Fm (fun b => GM i (φ b)) H2 H' ∧ MdAt φ H' pa { a with cv := a.cv ++ ncv, nv := a.nv ++ nnv } (cmid c cap i j) d ah) ?_ (fun j σ H' _ ⟨_, _, _, _, _, _, _, _, _, _, _, f, _⟩ => .of (f.at q2 (gz _ zpl))) ?_ ?_⟩
    · refine ⟨_, _, _, _, _, _, _, _, [], [], rfl, .refl, ?_⟩
      rw [List.append_nil, List.append_nil]
      have e : cmid c cap i 0 = c := by
        have e1 : updN c.outs i (c.outs i ++ newNm c.coming 0) = c.outs := by
          funext j
          by_cases h : j = i
          · subst h; rw [updN_same]; show _ ++ [] = _; rw [List.append_nil]
          · rw [updN_ne h]
        show Core.mk c.g (updN c.outs i (c.outs i ++ newNm c.coming 0)) (c.names ++ []) (c.clauses ++ []) (c.coming + ((0 : Nat) : Int)) = c
        rw [e1, List.append_nil, List.append_nil, show c.coming + ((0 : Nat) : Int) = c.coming by omega]
      rw [e]; exact md2
    · rintro j y σ Ha Hb hj ⟨o4, o5, o6, o7, o8, o9, o10, o11, ncv, nnv, rfl, fa, mdj⟩ ⟨rfl, hy⟩
      obtain ⟨t, ht, rfl⟩ := nsV_get hy
      have hjl : j < lackN (c.g.ks i) (c.outs i) cap := by simpa [lacks] using hj
      have et : t = (c.outs i).length + 1 + j := by
        unfold lacks at ht
        rw [List.getElem?_map, List.getElem?_range hjl] at ht
        exact (Option.some.inj ht).symm
      have htm : t ≤ 12 := by unfold lackN at hjl; omega
      have wle := Nat.le_trans (ways_le_prod (lensK c.g.ks cap (c.g.ks i)) t) lenprod
      refine ⟨_, rfl, _, _, rfl, mh_coming mdj.obj, szN, fun pm nm => upd_new nm fun H3 s3 q3 => ?_⟩
      refine ⟨_, _, rfl, ?_⟩
      refine ⟨_, rfl, _, rfl, φ, pa, c.g.n, c.g.ks, _, i, cap, rfl, (mdj.sm s3).ks, ok, hi, fun p4 H4 n4 s4 q4 => ?_⟩
      refine ⟨_, rfl, p4, _, t, rfl, q4, by omega, by omega, by omega, fun p5 H5 ys n5 s5 q5 r5 => ?_⟩
      have f35 : Sm H3 H5 := s4.trans s5
      have fb5 : Sm Hb H5 := s3.trans f35
      have pm5 := f35.at q3
      have hyl : ys.length = ways (lensK c.g.ks cap (c.g.ks i)) t := by rw [r5.1, chM_length]
      have nmc : a.mc ≠ pm := ne_live mdj.mc nm
      have nmh : a.mh ≠ pm := ne_live mdj.obj nm
      have mhc : a.mh ≠ a.mc := ntag md.t1 md.t3 (by decide)
      have hcvl : (a.cv ++ ncv).length ≤ 8100 := by
        rw [mdj.cl]
        show (c.clauses ++ newCl _ _ _ _ j).length ≤ _
        rw [List.length_append, newCl_length]
        have := sm_ways_le (lensK c.g.ks cap (c.g.ks i)) ((c.outs i).length + 1) j
        omega
      have hnvl : (a.nv ++ nnv).length ≤ 8100 := by
        rw [mdj.nr.1]
        show (c.names ++ newNm _ j).length ≤ _
        rw [List.length_append, newNm_length]
        unfold lackN at hjl
        omega
      -- the choices
      refine ⟨p5, rfl, ⟨_, .of q5⟩, for_it walk_list (fun u σ H' => ∃ (o5 o9 o10 o11 : Option V) (l mvs : List V), σ = [some (.ref (pa i).1), some (iV cap), some (.ref a.mh), some (.ref pr), some (iV t), o5, o6, some (.int (c.coming + (j : Int))), some (.ref pm), o9, o10, o11] ∧
        Fm (· = a.mc) Hb H' ∧ H' a.mc = some (.lst (a.cv ++ ncv ++ l)) ∧ l.length = u ∧ H' pm = some (.lst mvs) ∧ mvs.length = u ∧ H' p5 = some (.lst ys) ∧ Rel (TN H') ys (chM (lensK c.g.ks cap (c.g.ks i)) t)) ?_ (fun u σ H' _ ⟨_, _, _, _, _, _, _, _, _, _, _, _, h, _⟩ => .of h) ?_ ?_⟩
      · refine ⟨_, _, _, _, [], [], rfl, fb5.to, ?_, rfl, pm5, rfl, q5, r5⟩
        rw [List.append_nil]
        exact fb5.at mdj.mc
      · rintro u x σ Hc Hd' hu ⟨o5, o9, o10, o11, l, mvs, rfl, fc, hmc, hlu, hpm, hmu, hp5, ry⟩ ⟨rfl, hx⟩
        rw [hyl] at hu
        obtain ⟨cc, hcc, b1, rfl, hb1⟩ := ry.get hx
        have hcm := chM_mem (List.mem_of_getElem? hcc)
        have f2c : ∀ {b : Addr} {o : HO}, H2 b = some o → ¬ GM i (φ b) → Hd' b = some o := fun hb hn => fc.at (fa.at hb hn) fun z => hn (by rw [z]; exact .inr (.inr (.inl md.t3)))
        have pr' := f2c hpr2 (gz _ zpr)
        refine ⟨_, rfl, _, _, rfl, .inl (.of pr'), (rv.length : Int), rfl, by omega, by omega, ?_⟩
        refine lc_fil (walk_range (n := rv.length)) (M := No) (fun H v (m : Int) => v = .int m) (fun q => match (c.g.ks i).src[q]?, cc[q]? with | some s, some (z + 1) => (s.full c.outs)[z]? | _, _ => none) (by rw [sizeLine_eq]; omega) (fun _ z => z.elim) (fun _ _ => trivial) (fun _ _ _ _ _ h _ => h) ?_ ?_
        · rintro q y He Hf Qy Qn hq fe yy ky kn
          obtain ⟨e2, e1⟩ := yy
          have e1 : y = iV q := by rw [e1]; exact congrArg V.int (Int.zero_add _)
          subst e1 e2
          have hqs : q < (c.g.ks i).src.length := by omega
          have hs := List.getElem?_eq_getElem hqs
          obtain ⟨r, hr1, hr2, hr3⟩ := hrows q _ hs
          have hqc : q < cc.length := by rw [hcm.1, ell]; exact hqs
          have hcq := List.getElem?_eq_getElem hqc
          have hb' := Sm.at fe hb1
          have atc : atI (nsV cc) (q : Int) = some (iV cc[q]) := atI_nat (by rw [List.getElem?_map, hcq]; rfl)
          refine ⟨rfl, _, rfl, _, rfl, b1, _, _, _, rfl, rfl, .of hb', atc, _, _, rfl, rfl, _, rfl, ite2 (fun c0 => ?pos) (fun c0 => ?neg)⟩
          case' neg =>
            refine kn _ ?_ .refl
            have z0 : cc[q] = 0 := by
              cases h : cc[q] with
              | zero => rfl
              | succ m => exact absurd (decide_eq_true (by rw [h]; omega)) c0
            rw [hs, hcq, z0]
          case' pos =>
            obtain ⟨z, hz⟩ : ∃ z, cc[q] = z + 1 := ⟨cc[q] - 1, by have := of_decide_eq_true c0; omega⟩
            have hql : q < (lensK c.g.ks cap (c.g.ks i)).length := by rw [ell]; exact hqs
            have hlq := List.getElem?_eq_getElem hql
            have hzl : z < ((c.g.ks i).src[q].full c.outs).length := by
              have h1 := rowlt q _ _ hs hlq
              have h2 := hcm.2.2 q _ _ hcq hlq
              omega
            have prf := Sm.at fe pr'
            have hrf := Sm.at fe (f2c hr2 hr3)
            refine ⟨_, rfl, _, rfl, pr, _, _, _, rfl, rfl, .of prf, atI_nat hr1, _, rfl, _, rfl, b1, _, _, _, rfl, rfl, .of hb', atc, _, _, rfl, rfl, r, _, _, V.int (((c.g.ks i).src[q].full c.outs)[z]), rfl, rfl, .of hrf, at_of (j := z) (by rw [hz]; omega) (by rw [List.getElem?_map, List.getElem?_eq_getElem hzl]; rfl), ?_⟩
            refine ky _ (((c.g.ks i).src[q].full c.outs)[z]) _ ?_ .refl rfl
            rw [hs, hcq, hz]
            exact List.getElem?_eq_getElem hzl
        rintro p9 zs9 H9 n9 s9 q9 hz9
        have s9 : Sm Hd' H9 := s9
        obtain ⟨mh, hmh⟩ : ∃ mh, mh = (List.range rv.length).filterMap (fun q => match (c.g.ks i).src[q]?, cc[q]? with | some s, some (z + 1) => (s.full c.outs)[z]? | _, _ => none) := ⟨_, rfl⟩
        rw [← hmh] at hz9
        have ez9 : zs9 = isV mh := hz9.eq_map (g := V.int)
        have hmhl : mh.length ≤ 12 := by
          rw [hmh]
          refine Nat.le_trans (List.length_filterMap_le _ _) ?_
          rw [List.length_range]; omega
        rw [ez9] at q9
        have pm9 := s9.at hpm
        refine ⟨_, rfl, .inl ⟨rfl, _, .of pm9⟩, _, rfl, p9, _, rfl, .inl ⟨.of q9, fun p10 n10 => upd_new n10 fun H10 s10 q10 => ?_⟩⟩
        have pm10 := s10.at pm9
        refine ⟨pm, _, _, rfl, rfl, pm10, by rw [hmu, sizeLine_eq]; omega, upd_put pm10 no_lst fun H11 f11 q11 => ?_⟩
        have npm : Hb pm = none := nm
        have g11 : Fm (· = a.mc) Hb H11 := ((fc.trans s9.to).trans s10.to).over1 npm f11
        have o11' : H11 a.mh = _ := g11.at mdj.obj mhc
        have mc11 := f11.at (s10.at (s9.at hmc)) nmc
        have np9 : p9 ≠ pm := fun z => by rw [z, hpm] at n9; cases n9
        have q9' := f11.at (s10.at q9) np9
        refine ⟨_, rfl, _, _, rfl, mh_clauses o11', .inl ⟨rfl, _, .of mc11⟩, _, rfl, p9, rfl, ⟨_, .of q9'⟩, lc_all walk_list (M := No) (fun r y H' => ∃ x, (mh.map fun m => 0 - m)[r]? = some x ∧ y = .int x) ?_ (fun _ z => z.elim) (fun H' f' => .of (Sm.at f' q9')) (fun i y N H H' h f => h) ?_ ?_⟩
        · rw [isV_len, sizeLine_eq]; omega
        · rintro r y He Hf Qy hr fe ⟨rfl, hy⟩ kr
          obtain ⟨m, hm, rfl⟩ := isV_get hy
          exact ⟨rfl, _, rfl, _, _, rfl, rfl, kr _ _ .refl ⟨0 - m, by rw [List.getElem?_map, hm]; rfl, rfl⟩⟩
        rintro p12 zs12 H12 n12 s12 q12 hz12 hh12
        have s12 : Sm H11 H12 := s12
        have e12 := ext_isV (ns := mh.map fun m => 0 - m) (by rw [hz12]; simp) hh12
        rw [e12] at q12
        refine ⟨_, rfl, szN, fun p13 n13 => upd_new n13 fun H13 s13 q13 => ?_⟩
        refine ⟨p12, p13, _, _, rfl, rfl, s13.at q12, q13, ?_, fun p14 n14 => upd_new n14 fun H14 s14 q14 => ?_⟩
        · rw [isV_len, List.length_map, sizeLine_eq]
          show _ + 1 ≤ _
          omega
        refine ⟨p14, _, rfl, .inl ⟨.of q14, fun p15 n15 => upd_new n15 fun H15 s15 q15 => ?_⟩⟩
        have s1115 : Sm H11 H15 := ((s12.trans s13).trans s14).trans s15
        have mc15 := s1115.at mc11
        refine ⟨a.mc, _, _, rfl, rfl, mc15, ?_, upd_put mc15 no_lst fun H16 f16 q16 => ?_⟩
        · have := hcvl
          rw [List.length_append, hlu, sizeLine_eq]; omega
        have fd16 : Fm (fun b => b = pm ∨ b = a.mc) Hd' H16 := (((s9.to.trans s10.to).trans (f11.mono fun b _ h => .inl h)).trans s1115.to).trans (f16.mono fun b _ h => .inr h)
        have p5m : p5 ≠ pm := fun z => by rw [z, pm5] at q5; cases (q5 : some (HO.lst []) = some (HO.lst ys)); rw [z] at hp5; rw [hpm] at hp5; cases hp5; exact absurd hx (by simp)
        have p5c : p5 ≠ a.mc := fun z => ne_live (s4.at (s3.at mdj.mc)) n5 z.symm
        refine ⟨some (.ref b1), some (.ref p9), o10, o11, l ++ [.ref p15], mvs ++ [.ref p10], rfl, (g11.trans s1115.to).trans f16, ?_, by rw [List.length_append, hlu]; rfl, f16.at (s1115.at q11) nmc.symm, by rw [List.length_append, hmu]; rfl, fd16.at hp5 fun z => z.elim p5m p5c, ry.mono fun v x h => h.fm fd16⟩
        rw [q16, List.append_assoc]
      · rintro σ Hc ⟨o5, o9, o10, o11, l, mvs, rfl, fc, hmc, hlu, hpm, hmu, hp5, ry⟩
        rw [hyl] at hlu hmu
        have mdc := mdj.addCls (l := l) fc hmc ((chM (lensK c.g.ks cap (c.g.ks i)) t).map (clK (rowsK c.g.ks c.outs cap (c.g.ks i)) (c.coming + (j : Int)))) (by rw [List.length_map, chM_length, hlu])
        refine ⟨_, rfl, _, _, rfl, mh_names mdc.obj, .inl ⟨rfl, _, .of mdc.nm⟩, _, rfl, _, rfl, pm, _, rfl, .inl ⟨.of hpm, fun p17 n17 => upd_new n17 fun H17 s17 q17 => ?_⟩⟩
        refine ⟨szN, fun p18 n18 => upd_new n18 fun H18 s18 q18 => ?_⟩
        have md18 := (mdc.sm s17).sm s18
        refine ⟨a.nm, _, _, rfl, rfl, md18.nm, by show (a.nv ++ nnv).length < _; rw [sizeLine_eq]; omega, upd_put md18.nm no_lst fun H19 f19 q19 => ?_⟩
        have md19 := md18.addNm (n := c.coming + (j : Int)) f19 q19 ⟨p18, p17, rfl, f19.tups _ _ q18⟩
        obtain ⟨⟨h', sa', u1, rfl, u3, u4⟩, u5, u6, u7⟩ := md19.ks i hi
        refine ⟨_, rfl, _, _, rfl, (mob_get u1).2.2, .inl ⟨rfl, _, .of u6⟩, _, rfl, (pa i).2, _, _, rfl, rfl, u6, ?_, upd_put u6 no_lst fun H20 f20 q20 => ?_⟩
        · rw [isV_len]
          show (updN c.outs i (c.outs i ++ newNm c.coming j) i).length < _
          rw [updN_same, List.length_append, newNm_length, sizeLine_eq]; omega
        have q20' : H20 (pa i).2 = some (.lst (isV ((c.outs i ++ newNm c.coming j) ++ [c.coming + (j : Int)]))) := by
          rw [q20]
          show some (HO.lst (isV (updN c.outs i (c.outs i ++ newNm c.coming j) i) ++ [V.int (c.coming + (j : Int))])) = _
          rw [updN_same]
          simp [isV]
        have md20 := md19.setOuts hi f20 q20'
        refine ⟨_, rfl, _, _, rfl, rfl, _, rfl, _, _, rfl, mh_set_coming md20.obj _, upd_put md20.obj no_mh fun H21 f21 q21 => ?_⟩
        have md21 := md20.setObj f21 q21 (f21.at md20.hm (ntag md20.t5 md20.t1 (by decide))) md20.t5 (f21.at md20.gl (ntag md20.t6 md20.t1 (by decide))) md20.t6
        refine ⟨_, _, _, _, _, _, _, _, ncv ++ l, nnv ++ [.ref p18], rfl, ?_, ?_⟩
        · refine fa.trans ((((((fc.mono fun b _ h => ?_).trans s17.to).trans s18.to).trans (f19.mono fun b _ h => ?_)).trans (f20.mono fun b _ h => ?_)).trans (f21.mono fun b _ h => ?_))
          · rw [h]; exact .inr (.inr (.inl md.t3))
          · rw [h]; exact .inr (.inl md.t2)
          · rw [h]; exact .inr (.inr (.inr hti))
          · rw [h]; exact .inl md.t1
        · have e1 : updN (updN c.outs i (c.outs i ++ newNm c.coming j)) i ((c.outs i ++ newNm c.coming j) ++ [c.coming + (j : Int)]) = updN c.outs i (c.outs i ++ newNm c.coming (j + 1)) := by
            funext q
            by_cases h : q = i
            · subst h; rw [updN_same, updN_same, newNm_succ, List.append_assoc]
            · rw [updN_ne h, updN_ne h, updN_ne h]
          have ec : cmid c cap i (j + 1) = Core.mk c.g (updN (updN c.outs i (c.outs i ++ newNm c.coming j)) i ((c.outs i ++ newNm c.coming j) ++ [c.coming + (j : Int)])) ((c.names ++ newNm c.coming j) ++ [c.coming + (j : Int)])
              ((c.clauses ++ newCl (rowsK c.g.ks c.outs cap (c.g.ks i)) (lensK c.g.ks cap (c.g.ks i)) (c.outs i).length c.coming j) ++ (chM (lensK c.g.ks cap (c.g.ks i)) t).map (clK (rowsK c.g.ks c.outs cap (c.g.ks i)) (c.coming + (j : Int)))) (c.coming + (j : Int) + 1) := by
            rw [e1, List.append_assoc, List.append_assoc, ← newNm_succ, et]
            show Core.mk _ _ _ (c.clauses ++ (newCl _ _ _ _ j ++ _)) (c.coming + ((j + 1 : Nat) : Int)) = _
            rw [show c.coming + ((j + 1 : Nat) : Int) = c.coming + (j : Int) + 1 by omega]
          rw [ec, ← List.append_assoc, ← List.append_assoc]
          exact md21
    · rintro σ Ha ⟨o4, o5, o6, o7, o8, o9, o10, o11, ncv, nnv, rfl, fa, mdj⟩
      have el : (nsV (lacks (c.g.ks i) (c.outs i) cap)).length = lackN (c.g.ks i) (c.outs i) cap := by simp [lacks]
      rw [el] at mdj
      exact k ncv nnv Ha (f02.to.trans (fa.mono fun b _ h => gL b h)) mdj
end
end K59
set_option Elab.async false
set_option linter.all false
set_option maxRecDepth 100000
set_option maxHeartbeats 4000000
namespace K59
open PySem PySem.Spec PyProof.Rows L2
section
variable {P : Program} {w : World} {K : PySem.W.Frag} {mg : Str → Option Value} {base : Heap}
theorem sc_law_modelled : FnScope ["_law_marks_here", "_law_cap", "_law_part", "_law_first", "_law_held", "_law_one"] ["_law_marks_here", "_law_cap", "_law_part", "_law_first"] (defScope s_law_modelled) := ⟨rfl, rfl, rfl, by decide +kernel, rfl, by decide +kernel, by decide +kernel⟩
def spModelled : Sp := fun vs H Q _ => ∃ (am : Addr) (v : V) (cap : Nat) (fresh : Option Int) (ms : List Int) (ps : List Part) (φ : Addr → Nat), vs = [.ref am, iV cap, v, .int (freshI ms fresh)] ∧ Live φ H ∧ (∀ b, ¬ LT (φ b)) ∧ H am = some (.lst (isV ms)) ∧ PartAt H v (.sums ps) ∧ InitOk ms (.sums ps) cap fresh ∧
  ∀ φ' pa a H', Ext φ φ' H → Live φ' H' → Sm H H' → H a.mh = none → MdAt φ' H' pa a (growAll cap (core0 ms (.sums ps) fresh) (newIx 0 ((Part.sums ps).gat ms g0).1.n)) (dyn0 ms (.sums ps) cap) [] → Q (.ref a.mh) H'
theorem cal_law_modelled (hd : Hd K mg) : C8.Cal P w K mg base 27 "_law_modelled" spModelled [] := by
  obtain ⟨fd, F⟩ := hd.d_law_modelled
  refine mk_cal F hd.g_law_modelled (F.bindsN fun _ _ _ _ _ _ us hl => match us, hl with | [_, _, _, _], _ => rfl) sc_law_modelled (fun vs H Q E h => ?_) (fun cdv A outer s H vs Q E hr h => ?_)
  · obtain ⟨_, _, _, _, _, _, _, rfl, _⟩ := h; rfl
  · obtain ⟨am, v, cap, fresh, ms, ps, φ, rfl, lv, hnp, ham, hpa, o, k⟩ := h
    refine ⟨_, (pss_cons (ps_set (i := 4) sc_law_modelled.nd rfl (Or.inl rfl) (pe_disp (pps_cons pe_str (pe_callTy call_list_of (by rfl) hd.f_list (by decide +kernel) (pa_cons (pv 0) pa_nil)) (pps_cons pe_str (pv 1) (pps_cons pe_str pe_non (pps_cons pe_str (pe_lst pa_nil) (pps_cons pe_str (pe_lst pa_nil) (pps_cons pe_str (pe_lst pa_nil) (pps_cons pe_str (pv 3) pps_nil))))))) rfl rfl (fun z => nomatch z) (by decide)))
    (pss_cons (ps_dput (hu_of hr) (pv 4) pe_str (pe_lst pa_nil) rfl)
    (pss_cons (ps_expr (C8.pe_c (cal_law_gather hd) hr (by first | decide | omega) rfl (pa_cons (pv 2) (pa_cons (pe_callTy call_list_of (by rfl) hd.f_list (by decide +kernel) (pa_cons (pv 0) pa_nil)) (pa_cons (pe_dget (hu_of hr) (pv 4) pe_str (fun _ _ => rfl)) pa_nil)))))
    (pss_cons (ps_for PassesOwn.never rfl (pi_list (pe_dget (hu_of hr) (pv 4) pe_str (fun _ _ => rfl))) (pg_name (i := 5) sc_law_modelled.nd rfl (Or.inl rfl))
    (pss_one (ps_expr (C8.pe_c (cal_law_grow hd) hr (by first | decide | omega) rfl (pa_cons (pv 5) (pa_cons (pv 1) (pa_cons (pv 4) pa_nil)))))))
    (pss_one (ps_ret (pv 4))))))), ?_⟩
    have hml := o.mo.few
    refine fun x nx => upd_new nx fun H1 s1 q1 => ?_
    refine ⟨_, rfl, am, _, rfl, .inl (.of (s1.at ham)), fun p2 n2 => upd_new n2 fun H2 s2 q2 => ?_⟩
    refine ⟨_, rfl, szN, fun pg ng => upd_new ng fun H3 s3 q3 => ?_⟩
    refine ⟨szN, fun pm nm => upd_new nm fun H4 s4 q4 => ?_⟩
    refine ⟨szN, fun pc nc => upd_new nc fun H5 s5 q5 => ?_⟩
    have s25 : Sm H2 H5 := (s3.trans s4).trans s5
    have x5 : H5 x = some (.dK []) := s25.at (s2.at q1)
    have f5 : Sm H H5 := (s1.trans s2).trans s25
    refine ⟨_, rfl, x5, [(Sum.inr "marks", .ref p2), (Sum.inr "cap", iV cap), (Sum.inr "top", .non), (Sum.inr "knots", .ref pg), (Sum.inr "names", .ref pm), (Sum.inr "clauses", .ref pc), (Sum.inr "coming", .int (freshI ms fresh))], rfl, le15, upd_put x5 no_dK fun H6 f6 q6 => ?_⟩
    have f6' : Sm H H6 := f5.over1 nx f6
    refine ⟨szN, fun px npx => upd_new npx fun H7 s7 q7 => ?_⟩
    have x7 : H7 x = some (.dK [(Sum.inr "marks", .ref p2), (Sum.inr "cap", iV cap), (Sum.inr "top", .non), (Sum.inr "knots", .ref pg), (Sum.inr "names", .ref pm), (Sum.inr "clauses", .ref pc), (Sum.inr "coming", .int (freshI ms fresh))]) := s7.at q6
    refine ⟨_, rfl, x, _, rfl, DPut.k (k := Sum.inr "ahead") x7 (by rw [sizeLine_eq]; show 7 < _; decide), upd_put x7 no_dK fun H8 f8 q8 => ?_⟩
    have f8' : Sm H H8 := (f6'.trans s7).over1 nx f8
    obtain ⟨a, ha⟩ : ∃ a : MA, a = ⟨x, p2, pg, pm, pc, px, [], [], []⟩ := ⟨_, rfl⟩
    have o8 : H8 x = some (mhO a (core0 ms (.sums ps) fresh) (dyn0 ms (.sums ps) cap)) := by rw [ha]; exact q8
    -- who is who
    have xh : x ≠ p2 := ne_live q1 n2
    have x2 : H2 x = _ := s2.at q1
    have xg : x ≠ pg := ne_live x2 ng
    have xm : x ≠ pm := ne_live (s3.at x2) nm
    have xc : x ≠ pc := ne_live (s4.at (s3.at x2)) nc
    have xx : x ≠ px := ne_live q6 npx
    have hg : p2 ≠ pg := ne_live q2 ng
    have hm' : p2 ≠ pm := ne_live (s3.at q2) nm
    have hc : p2 ≠ pc := ne_live (s4.at (s3.at q2)) nc
    have gm : pg ≠ pm := ne_live q3 nm
    have gc : pg ≠ pc := ne_live (s4.at q3) nc
    have mc : pm ≠ pc := ne_live q4 nc
    have h6 := f6.at (s25.at q2) xh.symm
    have g6 := f6.at (s5.at (s4.at q3)) xg.symm
    have m6 := f6.at (s5.at q4) xm.symm
    have c6 := f6.at q5 xc.symm
    have hx : p2 ≠ px := ne_live h6 npx
    have gx : pg ≠ px := ne_live g6 npx
    have mx : pm ≠ px := ne_live m6 npx
    have cx : pc ≠ px := ne_live c6 npx
    have h8 := f8.at (s7.at h6) xh.symm
    have g8 := f8.at (s7.at g6) xg.symm
    have m8 := f8.at (s7.at m6) xm.symm
    have c8 := f8.at (s7.at c6) xc.symm
    have x8 : H8 px = some (.lst []) := f8.at q7 xx.symm
    have n0h : H p2 = none := s1.free n2
    have n0g : H pg = none := (s1.trans s2).free ng
    have n0m : H pm = none := ((s1.trans s2).trans s3).free nm
    have n0c : H pc = none := (((s1.trans s2).trans s3).trans s4).free nc
    have n0x : H px = none := f6'.free npx
    obtain ⟨φ1, hφ1⟩ : ∃ φ1, φ1 = updA (updA (updA (updA (updA φ pg 9) pm 7) pc 11) px 13) x 6 := ⟨_, rfl⟩
    have t1 : φ1 x = 6 := by rw [hφ1, updA_same]
    have t4 : φ1 px = 13 := by rw [hφ1, updA_ne xx.symm, updA_same]
    have t3 : φ1 pc = 11 := by rw [hφ1, updA_ne xc.symm, updA_ne cx, updA_same]
    have t2 : φ1 pm = 7 := by rw [hφ1, updA_ne xm.symm, updA_ne mx, updA_ne mc, updA_same]
    have t9 : φ1 pg = 9 := by rw [hφ1, updA_ne xg.symm, updA_ne gx, updA_ne gc, updA_ne gm, updA_same]
    have t0 : φ1 p2 = 0 := by rw [hφ1, updA_ne xh.symm, updA_ne hx, updA_ne hc, updA_ne hm', updA_ne hg]; exact lv.zero n0h
    have ex1 : Ext φ φ1 H := fun b hb => by
      have q : ∀ {y}, H y = none → b ≠ y := fun hy z => hb (by rw [z]; exact hy)
      rw [hφ1, updA_ne (q nx), updA_ne (q n0x), updA_ne (q n0c), updA_ne (q n0m), updA_ne (q n0g)]
    have lv1 : Live φ1 H8 := by
      rw [hφ1]
      exact (((((lv.fm f8').one (live_of g8)).one (live_of m8)).one (live_of c8)).one (live_of x8)).one (live_of o8)
    refine ⟨_, rfl, _, rfl, am, _, rfl, .inl (.of (f8'.at ham)), fun p17 n17 => upd_new n17 fun H9 s9 q17 => ?_⟩
    have g17 : pg ≠ p17 := ne_live g8 n17
    have f9' : Sm H H9 := f8'.trans s9
    have o9 := s9.at o8
    have agl : a.gl = pg := by rw [ha]
    refine ⟨_, rfl, x, _, rfl, mh_knots o9, _, Part.sums ps, p17, pg, ms, [], φ1, fun _ => (x, x), g0, by rw [agl]; rfl, o.okp, by decide, hpa.fm f9', q17, by rw [o.sz]; exact Nat.le_refl _, by omega, s9.at g8, by have := o.nk; show 0 + _ ≤ _; omega, t9, g17.symm, lv1.fm s9, fun φ2 pa2 H18 G => ?_⟩
    obtain ⟨r, hr0⟩ : ∃ r, r = ((Part.sums ps).gat ms g0).1 := ⟨_, rfl⟩
    have hrn : r.n = 0 + (Part.sums ps).nk := by rw [hr0]; exact gat_n (Part.sums ps) ms g0
    have ook := o.ok
    have ord := o.rd
    rw [← hr0] at G ook ord
    have tr : ∀ {b : Addr} {ob : HO} {t : Nat}, H9 b = some ob → φ1 b = t → φ2 b = t := fun hb ht => by rw [G.ext _ (live_of hb)]; exact ht
    have u1 := tr o9 t1
    have u2 := tr (s9.at m8) t2
    have u3 := tr (s9.at c8) t3
    have u4 := tr (s9.at x8) t4
    have u9 := tr (s9.at g8) t9
    have u0 := tr (s9.at h8) t0
    obtain ⟨φ3, hφ3⟩ : ∃ φ3, φ3 = updA φ2 pg 0 := ⟨_, rfl⟩
    have w1 : φ3 x = 6 := by rw [hφ3, updA_ne xg]; exact u1
    have w2 : φ3 pm = 7 := by rw [hφ3, updA_ne gm.symm]; exact u2
    have w3 : φ3 pc = 11 := by rw [hφ3, updA_ne gc.symm]; exact u3
    have w4 : φ3 px = 13 := by rw [hφ3, updA_ne gx.symm]; exact u4
    have w5 : φ3 p2 = 0 := by rw [hφ3, updA_ne hg]; exact u0
    have w6 : φ3 pg = 0 := by rw [hφ3, updA_same]
    have mks : MKs φ3 H18 pa2 r.n r.ks (fun _ => []) := fun i hi => (G.new i (Nat.zero_le _) hi).retag fun b hb => by
      by_cases e : b = pg
      · rw [e, u9] at hb
        rcases hb with hb | hb
        · cases hb
        · unfold tgL at hb; omega
      · rw [hφ3, updA_ne e]
    have hgl : H18 pg = some (.lst (curV pa2 (newIx 0 r.n))) := by
      rw [G.found]
      show some (HO.lst ([] ++ knV pa2 0 (r.n - 0))) = _
      rw [List.nil_append]
      unfold curV newIx knV
      rw [List.map_map]; rfl
    have md : MdAt φ3 H18 pa2 a (core0 ms (.sums ps) fresh) (dyn0 ms (.sums ps) cap) [] := by
      have o18 := G.fm.at o9 xg
      rw [ha] at o18 ⊢
      refine ⟨o18, w1, w2, w3, w4, w5, w6, G.fm.at (s9.at h8) hg, ?_, G.fm.at (s9.at m8) gm.symm, .nil, G.fm.at (s9.at c8) gc.symm, rfl, G.fm.at (s9.at x8) gx.symm, .nil, ?_⟩
      · show H18 pg = some (.lst (curV pa2 (newIx 0 ((Part.sums ps).gat ms g0).1.n)))
        rw [← hr0]; exact hgl
      · show MKs φ3 H18 pa2 ((Part.sums ps).gat ms g0).1.n ((Part.sums ps).gat ms g0).1.ks (fun _ => [])
        rw [← hr0]; exact mks
    have amh : a.mh = x := by rw [ha]
    have hobj := md.obj
    rw [amh] at hobj
    have lv3 : Live φ3 H18 := fun b hb => by
      rw [hφ3] at hb
      by_cases e : b = pg
      · rw [e]; exact live_of hgl
      · rw [updA_ne e] at hb
        exact G.live b hb
    have ex3 : Ext φ φ3 H := fun b hb => by
      have q : ∀ {y}, H y = none → b ≠ y := fun hy z => hb (by rw [z]; exact hy)
      rw [hφ3, updA_ne (q n0g), G.ext b (f9'.live b hb)]
      exact ex1 b hb
    have f18 : Sm H H18 := f9'.over1 n0g G.fm
    have hixl : (newIx 0 r.n).length ≤ 30 := by
      have := o.nk
      simp only [newIx, List.length_map, List.length_range]; omega
    have hixn : ∀ i ∈ newIx 0 r.n, i < r.n := by
      intro i hi
      obtain ⟨j, hj, rfl⟩ := List.mem_map.mp hi
      have := List.mem_range.mp hj
      omega
    have z0 : ∀ b, φ3 b = 0 → ¬ LT (φ3 b) := fun b h p => p.ne h
    have cg : (core0 ms (.sums ps) fresh).g = r := hr0.symm
    refine ⟨_, rfl, x, _, rfl, mh_knots hobj, a.gl, rfl, ⟨_, .of (by rw [agl]; exact hgl)⟩, for_it walk_list (fun j σ H' => ∃ (o5 : Option V) (ncv nnv : List V), σ = [some (.ref am), some (iV cap), some v, some (.int (freshI ms fresh)), some (.ref x), o5] ∧
      Fm (fun b => LT (φ3 b)) H18 H' ∧ MdAt φ3 H' pa2 { a with cv := a.cv ++ ncv, nv := a.nv ++ nnv } (growAll cap (core0 ms (.sums ps) fresh) ((newIx 0 r.n).take j)) (dyn0 ms (.sums ps) cap) []) ?_ (fun j σ H' _ ⟨_, _, _, _, f, _⟩ => .of (f.at (by rw [agl]; exact hgl) (by rw [agl]; exact z0 _ w6))) ?_ ?_⟩
    · refine ⟨none, [], [], rfl, .refl, ?_⟩
      rw [List.append_nil, List.append_nil]
      exact md
    · rintro j y σ Ha Hb hj ⟨o5, ncv, nnv, rfl, fa, mdj⟩ ⟨rfl, hy⟩
      obtain ⟨i, hi, rfl⟩ := curV_get hy
      obtain ⟨hin, hfull⟩ := ord.at hi
      have eg := growAll_g cap ((newIx 0 r.n).take j) (core0 ms (.sums ps) fresh)
      have few := growAll_few (cap := cap) ((newIx 0 r.n).take j) (core0 ms (.sums ps) fresh) (by rw [cg]; exact ook) fun i' hi' => by
        rw [cg]; exact hixn i' (List.mem_of_mem_take hi')
      have hjl : ((newIx 0 r.n).take j).length ≤ (newIx 0 r.n).length := by rw [List.length_take]; omega
      have ol : OutsLe (growAll cap (core0 ms (.sums ps) fresh) ((newIx 0 r.n).take j)) := OutsLe.all fun i _ => Nat.zero_le _
      have few1 : (growAll cap (core0 ms (.sums ps) fresh) ((newIx 0 r.n).take j)).clauses.length ≤ 0 + 64 * ((newIx 0 r.n).take j).length := few.1
      have few2 : (growAll cap (core0 ms (.sums ps) fresh) ((newIx 0 r.n).take j)).names.length ≤ 0 + 12 * ((newIx 0 r.n).take j).length := few.2
      refine ⟨_, rfl, _, rfl, _, rfl, φ3, pa2, _, _, _, [], i, cap, by rw [← amh]; rfl, mdj, (lv3.fm fa), by rw [eg, cg]; exact ook, ol, by rw [eg]; exact hin, o.cap1, by rw [eg]; exact hfull, by omega, by omega, fun ncv2 nnv2 H2' f2 md2 => ?_⟩
      refine ⟨_, ncv ++ ncv2, nnv ++ nnv2, rfl, fa.trans f2, ?_⟩
      rw [take_snoc hi, growAll_snoc, ← List.append_assoc, ← List.append_assoc]
      exact md2
    · rintro σ Ha ⟨o5, ncv, nnv, rfl, fa, mdj⟩
      have el : (curV pa2 (newIx 0 r.n)).length = (newIx 0 r.n).length := by simp [curV]
      rw [el, List.take_length] at mdj
      refine ⟨_, rfl, ?_⟩
      rw [hr0] at mdj
      have kk := k φ3 pa2 { a with cv := a.cv ++ ncv, nv := a.nv ++ nnv } Ha ex3 (lv3.fm fa) (f18.step fa fun b hb h => by rw [ex3 b hb] at h; exact absurd h (hnp b)) (by show H a.mh = none; rw [amh]; exact nx) mdj
      have kk : Q (.ref a.mh) Ha := kk
      rw [amh] at kk
      exact kk
end
end K59
set_option Elab.async false
set_option linter.all false
set_option maxRecDepth 100000
set_option maxHeartbeats 4000000
namespace K59
open PySem PySem.Spec PyProof.Rows L2
section
variable {φ φ' : Addr → Nat} {H H' : Hp} {pa : Nat → Addr × Addr} {a : MA} {c : Core} {d : Dyn} {ah : List Dyn}
theorem MdAt.retag (k : MdAt φ H pa a c d ah) (h : ∀ b, φ b = 0 ∨ LT (φ b) → φ' b = φ b) : MdAt φ' H pa a c d ah := by
  obtain ⟨h1, t1, t2, t3, t4, t5, t6, h2, h3, h4, h5, h6, h7, h8, h9, h10⟩ := k
  have e : ∀ {b t}, φ b = t → (t = 0 ∨ LT t) → φ' b = t := fun hb ht => by rw [h _ (by rw [hb]; exact ht)]; exact hb
  refine ⟨h1, e t1 (.inr (.inl rfl)), e t2 (.inr (.inr (.inl rfl))), e t3 (.inr (.inr (.inr (.inl rfl)))), e t4 (.inr (.inr (.inr (.inr (.inl rfl))))), e t5 (.inl rfl), e t6 (.inl rfl), h2, h3, h4, h5, h6, h7, h8, h9.mono fun v x q => ?_, fun i hi => (h10 i hi).retag fun b hb => h b ?_⟩
  · obtain ⟨t, hm, gl, e1, q1, q2, q3, q4, q5⟩ := q
    exact ⟨t, hm, gl, e1, q1, q2, e q3 (.inl rfl), q4, e q5 (.inl rfl)⟩
  · rcases hb with hb | hb
    · exact .inl hb
    · exact .inr (.inr (.inr (.inr (.inr ⟨i, hb⟩))))
theorem MdAt.withG {g : KS} (k : MdAt φ H pa a c d ah) (h : MKs φ H pa g.n g.ks c.outs) : MdAt φ H pa a { c with g := g } d ah :=
  ⟨k.obj, k.t1, k.t2, k.t3, k.t4, k.t5, k.t6, k.hm, k.gl, k.nm, k.nr, k.mc, k.cl, k.aa, k.dy, h⟩
end
theorem nLT9 : ¬ LT 9 := fun z => by
  rcases z with z | z | z | z | ⟨i, z⟩
  · cases z
  · cases z
  · cases z
  · cases z
  · unfold tgL at z; omega
section
variable {P : Program} {w : World} {K : PySem.W.Frag} {mg : Str → Option Value} {base : Heap}
theorem sc_law_puts : FnScope ["_law_held"] ["_law_held"] (defScope s_law_puts) := ⟨rfl, rfl, rfl, by decide +kernel, rfl, by decide +kernel, by decide +kernel⟩
def spLPuts : Sp := fun vs H Q _ => ∃ (φ : Addr → Nat) (pa : Nat → Addr × Addr) (a : MA) (c : Core) (d : Dyn) (ah : List Dyn), vs = [.ref a.mh] ∧ MdAt φ H pa a c d ah ∧ LastOk c d ∧ TopOk d ∧ ∀ p H', Sm H H' → Q (.ref p) H'
theorem cal_law_puts (hd : Hd K mg) : C8.Cal P w K mg base 2 "_law_puts" spLPuts [] := by
  obtain ⟨fd, F⟩ := hd.d_law_puts
  refine mk_cal F hd.g_law_puts (F.bindsN fun _ _ _ _ _ _ us hl => match us, hl with | [_], _ => rfl) sc_law_puts (fun vs H Q E h => ?_) (fun cdv A outer s H vs Q E hr h => ?_)
  · obtain ⟨_, _, _, _, _, _, rfl, _⟩ := h; rfl
  · obtain ⟨φ, pa, a, c, d, ah, rfl, md, ⟨l, L, hcur, hL, hsz, hfull⟩, top, k⟩ := h
    refine ⟨_, (pss_cons (ps_if (PW.pt (pw_or (pt_cmpR op_isN (pe_dget (hu_of hr) (pv 0) pe_str (fun _ _ => rfl)) pe_non (nomark _)) (pw_or1 (pt_cmpR op_ge (pe_dget (hu_of hr) (pv 0) pe_str (fun _ _ => rfl)) (pe_callB call_len_seq (by rfl) hd.f_len PySem.boot_len (pa_cons (pe_dget (hu_of hr) (pv 0) pe_str (fun _ _ => rfl)) pa_nil)) (nomark _))))) (pss_one (ps_ret (pe_lst pa_nil))) pss_nil)
    (pss_one (ps_ret (pe_lst (pa_cons (pe_op op_sub pe_int (pe_ix ix_list (pe_dget (hu_of hr) (pe_ix ix_list (pe_dget (hu_of hr) (pv 0) pe_str (fun _ _ => rfl)) (pe_un un_neg pe_int) (fun _ _ => rfl)) pe_str (fun _ _ => rfl)) (pe_dget (hu_of hr) (pv 0) pe_str (fun _ _ => rfl)) (fun _ _ => rfl))) pa_nil))))), ?_⟩
    refine ⟨_, rfl, _, _, rfl, mh_top md.obj, rfl, ?_⟩
    cases ht : d.top with
    | none => exact ⟨_, rfl, ifT rfl ⟨szN, fun p np => upd_new np fun H1 s1 q1 => k p H1 s1⟩⟩
    | some t =>
      obtain ⟨h0, h1⟩ := top t ht
      have etop : oV d.top = .int t := by rw [ht]; rfl
      refine ⟨_, rfl, ifF rfl ?_⟩
      refine ⟨_, rfl, _, _, rfl, mh_top md.obj, _, rfl, _, _, rfl, mh_marks md.obj, _, _, rfl, .inl (.of md.hm), t, _, etop, rfl, _, rfl, ?_⟩
      rw [isV_len]
      refine ite2 (fun c => ⟨szN, fun p np => upd_new np fun H1 s1 q1 => k p H1 s1⟩) fun c' => ?_
      have hlt : t < (d.marks.length : Int) := by
        have := of_decide_eq_false (Bool.eq_false_iff.mpr c')
        omega
      have hgl := md.gl
      rw [hcur] at hgl
      have hgl : H a.gl = some (.lst (curV pa l ++ [.ref (pa L).1])) := by rw [hgl]; simp [curV]
      obtain ⟨⟨h, sa, h1', rfl, h3, h4⟩, h5, h6, h7⟩ := md.ks L hL
      have hlen : t.toNat < (c.outs L).length := by omega
      refine ⟨_, rfl, _, _, rfl, mh_knots md.obj, _, rfl, a.gl, _, _, _, rfl, rfl, .of hgl, atI_last _ _, _, _, rfl, (mob_get h1').2.2, _, rfl, _, _, rfl, mh_top md.obj, (pa L).2, _, _, V.int ((c.outs L)[t.toNat]), rfl, etop, .of h6, at_of (j := t.toNat) (by omega) ?_, _, _, rfl, rfl, szN, fun p2 n2 => upd_new n2 fun H2 s2 q2 => k p2 H2 s2⟩
      rw [List.getElem?_map, List.getElem?_eq_getElem hlen]; rfl
theorem sc_law_joined : FnScope ["_law_held", "_law_marks_here", "_law_part", "_law_found", "_law_source", "_law_size_here"] ["_law_held", "_law_marks_here", "_law_part"] (defScope s_law_joined) := ⟨rfl, rfl, rfl, by decide +kernel, rfl, by decide +kernel, by decide +kernel⟩
/-- what more marks ask, as far as knots go -/
structure JoinOk (c : Core) (d : Dyn) (ah : List Dyn) (L : Nat) (ms : List Int) (p : Part) : Prop where
  okp : okD DP p
  sz : p.sz = ms.length
  msl : ms.length ≤ 60
  nk : p.nk ≤ 10
  last : ∃ l, d.cur = l ++ [L]
  cur : ∀ i ∈ d.cur, i < c.g.n
  aha : ∀ e ∈ ah, ∀ i ∈ e.cur, i < c.g.n
  ok : KsOk c.g.n c.g.ks
  out0 : ∀ i, c.g.n ≤ i → c.outs i = []
  ok2 : KsOk (moreG c.g L ms p).n (moreG c.g L ms p).ks
def spJoined : Sp := fun vs H Q _ => ∃ (am : Addr) (v : V) (ms : List Int) (p : Part) (L : Nat) (φ : Addr → Nat) (pa : Nat → Addr × Addr) (a : MA) (c : Core) (d : Dyn) (ah : List Dyn), vs = [.ref a.mh, .ref am, v] ∧ MdAt φ H pa a c d ah ∧ Live φ H ∧ H am = some (.lst (isV ms)) ∧ PartAt H v p ∧ JoinOk c d ah L ms p ∧
  ∀ q φ' pa' H', Ext φ φ' H → Live φ' H' → (∀ j, j < c.g.n → pa' j = pa j) → Sm H H' → MdAt φ' H' pa' a { c with g := moreG c.g L ms p } d ah → H' q = some (.lst (curV pa' (newIx c.g.n (moreG c.g L ms p).n))) → φ' q = 0 → Q (.ref q) H'
theorem cal_law_joined (hd : Hd K mg) : C8.Cal P w K mg base 27 "_law_joined" spJoined [] := by
  obtain ⟨fd, F⟩ := hd.d_law_joined
  refine mk_cal F hd.g_law_joined (F.bindsN fun _ _ _ _ _ _ us hl => match us, hl with | [_, _, _], _ => rfl) sc_law_joined (fun vs H Q E h => ?_) (fun cdv A outer s H vs Q E hr h => ?_)
  · obtain ⟨_, _, _, _, _, _, _, _, _, _, _, rfl, _⟩ := h; rfl
  · obtain ⟨am, v, ms, p, L, φ, pa, a, c, d, ah, rfl, md, lv, ham, hpa, o, k⟩ := h
    refine ⟨_, (pss_cons (ps_set (i := 3) sc_law_joined.nd rfl (Or.inl rfl) (pe_lst pa_nil))
    (pss_cons (ps_set (i := 4) sc_law_joined.nd rfl (Or.inl rfl) (C8.pe_c (cal_law_gather hd) hr (by first | decide | omega) rfl (pa_cons (pv 2) (pa_cons (pe_callTy call_list_of (by rfl) hd.f_list (by decide +kernel) (pa_cons (pv 1) pa_nil)) (pa_cons (pv 3) pa_nil)))))
    (pss_cons (ps_set (i := 5) sc_law_joined.nd rfl (Or.inl rfl) (pe_op op_add (pe_dget (hu_of hr) (pe_ix ix_list (pe_dget (hu_of hr) (pv 0) pe_str (fun _ _ => rfl)) (pe_un un_neg pe_int) (fun _ _ => rfl)) pe_str (fun _ _ => rfl)) (pe_callB call_len_seq (by rfl) hd.f_len PySem.boot_len (pa_cons (pv 1) pa_nil))))
    (pss_one (ps_ret (pe_op op_cat (pv 3) (pe_lst (pa_cons (pe_disp (pps_cons pe_str (pe_lst (pa_cons (pe_ix ix_list (pe_dget (hu_of hr) (pv 0) pe_str (fun _ _ => rfl)) (pe_un un_neg pe_int) (fun _ _ => rfl)) (pa_cons (pv 4) pa_nil))) (pps_cons pe_str (pv 5) (pps_cons pe_str (pe_lst pa_nil) pps_nil))) rfl rfl (fun z => nomatch z) (by decide)) pa_nil)))))))), ?_⟩
    obtain ⟨l, hcur⟩ := o.last
    have hLn : L < c.g.n := o.cur L (by rw [hcur]; simp)
    have hml := o.msl
    refine ⟨szN, fun pf nf => upd_new nf fun H2 s2 q2 => ?_⟩
    have md2 : MdAt (updA φ pf 9) H2 pa a c d ah := (md.mv (M := No) o.ok.low o.cur o.aha .refl (fun _ z => z.elim) (Ext.one nf) fun _ _ => rfl).sm s2
    have lv2 : Live (updA φ pf 9) H2 := (lv.fm s2).one (live_of q2)
    refine ⟨_, rfl, _, rfl, am, _, rfl, .inl (.of (s2.at ham)), fun pl nl => upd_new nl fun H3 s3 q3 => ?_⟩
    have hfl : pf ≠ pl := ne_live q2 nl
    refine ⟨_, rfl, v, p, pl, pf, ms, [], updA φ pf 9, pa, c.g, rfl, o.okp, by decide, (hpa.fm s2).fm s3, q3, by rw [o.sz]; exact Nat.le_refl _, by omega, s3.at q2, by have := o.nk; show 0 + _ ≤ _; omega, updA_same, hfl.symm, lv2.fm s3, fun φ2 pa2 H4 G => ?_⟩
    have n9 : ¬ LT 9 := nLT9
    have hpf9 : φ2 pf = 9 := by rw [G.ext pf (live_of (s3.at q2))]; exact updA_same
    obtain ⟨r, hr0⟩ : ∃ r, r = p.gat ms c.g := ⟨_, rfl⟩
    have hrn := gat_n p ms c.g
    have hrk := gat_keep p ms c.g
    have hrs := gat_src p ms c.g
    have hrz := gat_sz p ms c.g
    rw [← hr0] at G hrn hrk hrs hrz
    have md4 : MdAt φ2 H4 pa2 a c d ah := (md2.sm s3).mv o.ok.low o.cur o.aha G.fm (fun b hb => by rw [hb, updA_same]; exact ⟨by decide, n9⟩) G.ext G.same
    have mks4 : MKs φ2 H4 pa2 r.1.n r.1.ks c.outs := by
      intro i hi
      by_cases h : i < c.g.n
      · rw [hrk i h]; exact md4.ks i h
      · rw [o.out0 i (by omega)]; exact G.new i (by omega) hi
    have md4' := md4.withG (g := r.1) mks4
    have hgl4 := md4.gl
    have egl : curV pa2 d.cur = curV pa2 l ++ [.ref (pa2 L).1] := by rw [hcur]; simp [curV]
    rw [egl] at hgl4
    obtain ⟨⟨h, sa, h1', rfl, h3, h4⟩, h5, h6, h7⟩ := md4.ks L hLn
    have f04 : Sm H H4 := (s2.trans s3).over1 nf G.fm
    have am4 := f04.at ham
    refine ⟨_, rfl, _, _, rfl, mh_knots md4.obj, _, rfl, a.gl, _, _, _, rfl, rfl, .of hgl4, atI_last _ _, _, _, rfl, (mob_get h1').2.1, _, rfl, _, _, rfl, .inl (.of am4), ((c.g.ks L).size : Int), (ms.length : Int), rfl, by rw [isV_len], ?_⟩
    -- the new knot's dict
    refine ⟨_, rfl, fun x nx => upd_new nx fun H5 s5 q5 => ?_⟩
    have md5 := md4.sm s5
    refine ⟨_, rfl, _, _, rfl, mh_knots md5.obj, _, rfl, a.gl, _, _, _, rfl, rfl, .of (s5.at hgl4), atI_last _ _, _, rfl, szN, fun ps ns => upd_new ns fun H6 s6 q6 => ?_⟩
    refine ⟨_, rfl, szN, fun oo no => upd_new no fun H7 s7 q7 => ?_⟩
    have x7 : H7 x = some (.dK []) := s7.at (s6.at q5)
    refine ⟨x7, [(Sum.inr "under", .ref ps), (Sum.inr "size", iV ((c.g.ks L).size + p.sz)), (Sum.inr "outs", .ref oo)], ?_, le15, upd_put x7 no_dK fun H8 f8 q8 => ?_⟩
    · show [(V.str "under", V.ref ps), (V.str "size", V.int (((c.g.ks L).size : Int) + (ms.length : Int))), (V.str "outs", V.ref oo)] = [(V.str "under", V.ref ps), (V.str "size", V.int (((c.g.ks L).size + p.sz : Nat) : Int)), (V.str "outs", V.ref oo)]
      rw [o.sz]; rfl
    refine ⟨szN, fun p9 n9' => upd_new n9' fun H9 s9 q9 => ?_⟩
    have f48 : Sm H4 H8 := ((s5.trans s6).trans s7).over1 nx f8
    have f49 : Sm H4 H9 := f48.trans s9
    have pf9 := f49.at G.found
    have hnl : (knV pa2 c.g.n (r.1.n - c.g.n)).length ≤ 10 := by
      have := o.nk
      simp only [knV, List.length_map, List.length_range]
      omega
    refine ⟨pf, p9, _, _, rfl, rfl, pf9, q9, by rw [sizeLine_eq]; show (knV pa2 c.g.n (r.1.n - c.g.n)).length + 1 ≤ _; omega, fun p10 n10 => upd_new n10 fun H10 s10 q10 => ?_⟩
    have f410 : Sm H4 H10 := f49.trans s10
    have n4o : H4 oo = none := (s5.trans s6).free no
    have oox : oo ≠ x := fun z => ne_live (s6.at q5) no z.symm
    have oops : oo ≠ ps := fun z => ne_live q6 no z.symm
    have xps : x ≠ ps := ne_live q5 ns
    have e4 : Ext φ2 (updA φ2 oo (tgL r.1.n)) H4 := Ext.one n4o
    have low2 : Low r.1.ks r.1.n := fun i hi j hj => by
      have := o.ok2.low i (by show i < (p.gat ms c.g).1.n + 1; rw [← hr0]; omega) j
      rw [show (moreG c.g L ms p).ks i = r.1.ks i from by show updN (p.gat ms c.g).1.ks (p.gat ms c.g).1.n _ i = _; rw [← hr0, updN_ne (by omega)]] at this
      exact this hj
    have md10 : MdAt (updA φ2 oo (tgL r.1.n)) H10 (updN pa2 r.1.n (x, oo)) a { c with g := r.1 } d ah :=
      md4'.mv (M := No) low2 (fun i hi => by have := o.cur i hi; show i < r.1.n; omega) (fun e he i hi => by have := o.aha e he i hi; show i < r.1.n; omega) f410 (fun _ z => z.elim) e4 fun i hi => updN_ne (Nat.ne_of_lt hi)
    obtain ⟨φ3, hφ3⟩ : ∃ φ3, φ3 = updA φ2 oo (tgL r.1.n) := ⟨_, rfl⟩
    obtain ⟨pa3, hpa3⟩ : ∃ pa3, pa3 = updN pa2 r.1.n (x, oo) := ⟨_, rfl⟩
    rw [← hφ3, ← hpa3] at md10
    have hx3 : pa3 r.1.n = (x, oo) := by rw [hpa3, updN_same]
    have hlt3 : ∀ i, i < r.1.n → pa3 i = pa2 i := fun i hi => by rw [hpa3, updN_ne (Nat.ne_of_lt hi)]
    have eg : moreG c.g L ms p = ⟨r.1.n + 1, updN r.1.ks r.1.n ⟨[.kn L, r.2], (c.g.ks L).size + p.sz⟩⟩ := by rw [hr0]; rfl
    have hsrc : ∀ j, Src.kn j ∈ [Src.kn L, r.2] → j < r.1.n := by
      intro j hj
      rcases List.mem_cons.mp hj with e | hj
      · cases e; omega
      · rcases List.mem_cons.mp hj with e | hj
        · exact (hrs j e.symm).2
        · exact absurd hj List.not_mem_nil
    have lv4 := G.live
    have q6' : H6 ps = some (.lst ([Src.kn L, r.2].map (srcV pa2))) := by rw [hr0]; exact q6
    have mks : MKs φ3 H10 pa3 (moreG c.g L ms p).n (moreG c.g L ms p).ks c.outs := by
      rw [eg]
      intro i hi
      have hi : i < r.1.n + 1 := hi
      by_cases e : i = r.1.n
      · subst e
        show KnAt _ _ _ _ _ _ (updN _ _ _ _) _
        rw [updN_same, o.out0 _ (by omega)]
        refine ⟨⟨_, ps, ?_, rfl, ?_, ?_⟩, ?_, ?_, ?_⟩
        · rw [hx3]; exact s10.at (s9.at q8)
        · rw [s10.at (s9.at (f8.at (s7.at q6') xps.symm))]
          exact congrArg (fun z => some (HO.lst z)) (srcV_eq (k := ⟨[Src.kn L, r.2], 0⟩) fun j hj => hlt3 j (hsrc j hj)).symm
        · rw [hφ3, updA_ne oops.symm]; exact (lv4.fm s5).zero ns
        · rw [hx3, hφ3]
          show updA φ2 oo _ x = 0
          rw [updA_ne oox.symm]; exact lv4.zero nx
        · rw [hx3]; exact s10.at (s9.at (f8.at q7 oox))
        · rw [hx3, hφ3]
          exact updA_same
      · have h := md10.ks i (by show i < r.1.n; omega)
        show KnAt _ _ _ _ _ _ (updN _ _ _ _) _
        rw [updN_ne e]
        exact h
    have md11 := md10.withG mks
    have eix : newIx c.g.n (moreG c.g L ms p).n = newIx c.g.n (r.1.n + 1) := by rw [eg]
    have f10 : Sm H H10 := f04.trans f410
    refine k p10 φ3 pa3 H10 (fun b hb => ?_) (fun b hb => ?_) (fun j hj => by rw [hlt3 j (by omega)]; exact G.same j hj) f10 md11 ?_ ?_
    · have hbp : b ≠ pf := fun z => hb (by rw [z]; exact nf)
      have hbo : b ≠ oo := fun z => f04.live b hb (by rw [z]; exact n4o)
      rw [hφ3, updA_ne hbo, G.ext b ((s2.trans s3).live b hb), updA_ne hbp]
    · rw [hφ3] at hb
      by_cases e : b = oo
      · rw [e]; exact live_of (s10.at (s9.at (f8.at q7 oox)))
      · rw [updA_ne e] at hb
        exact f410.live b (lv4 b hb)
    · rw [q10, eix]
      show some (HO.lst (knV pa2 c.g.n (r.1.n - c.g.n) ++ [V.ref x])) = _
      have e1 : curV pa3 (newIx c.g.n (r.1.n + 1)) = knV pa3 c.g.n ((r.1.n - c.g.n) + 1) := by
        unfold curV newIx knV
        rw [List.map_map, show r.1.n + 1 - c.g.n = (r.1.n - c.g.n) + 1 by omega]; rfl
      rw [e1, ← knV_app, knV_eq (pa' := pa3) (pa := pa2) fun j hj => hlt3 j (by omega)]
      have e2 : c.g.n + (r.1.n - c.g.n) = r.1.n := by omega
      rw [e2]
      show _ = some (HO.lst (_ ++ [V.ref (pa3 (r.1.n + 0)).1]))
      rw [Nat.add_zero, hx3]
    · have n9o : H9 oo ≠ none := live_of (s9.at (f8.at q7 oox))
      have h10o : p10 ≠ oo := fun z => n9o (by rw [← z]; exact n10)
      rw [hφ3, updA_ne h10o]
      exact lv4.zero (f49.free n10)
end
end K59
set_option Elab.async false
set_option linter.all false
set_option maxRecDepth 100000
set_option maxHeartbeats 4000000
namespace K59
open PySem PySem.Spec PyProof.Rows L2
/-! ### deeds -/
inductive Deed where
  | back
  | bound (o : Option Int)
  | wider (n : Nat)
  | more (ms : List Int) (p : Part)
def DeedAt (φ : Addr → Nat) (H : Hp) (v : V) : Deed → Prop
  | .back => ∃ t, v = .ref t ∧ H t = some (.tup [.str "back"])
  | .bound o => ∃ t, v = .ref t ∧ H t = some (.tup [.str "bound", oV o])
  | .wider n => ∃ t, v = .ref t ∧ H t = some (.tup [.str "wider", iV n])
  | .more ms p => ∃ t am vp, v = .ref t ∧ H t = some (.tup [.str "more", .ref am, vp]) ∧ H am = some (.lst (isV ms)) ∧ φ am = 0 ∧ PartAt H vp p
/-- what wider asks -/
structure WiderOk (c : Core) (d : Dyn) (ah : List Dyn) (cap : Nat) : Prop where
  ahl : ah.length ≤ 1000
  lt : d.cap < cap
  ok : KsOk c.g.n c.g.ks
  ol : OutsLe c
  rd : Ready cap c d.cur
  cur : ∀ i ∈ d.cur, i < c.g.n
  cul : d.cur.length ≤ 100
  nms : c.names.length ≤ 5000
  room : c.clauses.length + (d.cur.map fun i => aheadN c.g.ks (c.g.ks i) (c.outs i) cap).sum ≤ 1500
section
variable {P : Program} {w : World} {K : PySem.W.Frag} {mg : Str → Option Value} {base : Heap}
theorem sc_law_do : FnScope ["_law_held", "_law_deed_here", "_law_one", "_law_begun_here", "_law_some", "_law_mark"] ["_law_held", "_law_deed_here"] (defScope s_law_do) := ⟨rfl, rfl, rfl, by decide +kernel, rfl, by decide +kernel, by decide +kernel⟩
def DoBack (φ : Addr → Nat) (H : Hp) (pa : Nat → Addr × Addr) (a : MA) (c : Core) (ah : List Dyn) (v : V) (Q : VK) : Prop := ∃ e ah', ah = ah' ++ [e] ∧ ah'.length ≤ 1000 ∧ DeedAt φ H v .back ∧ ∀ hm gl av H', Fm (fun b => LT (φ b)) H H' → MdAt φ H' pa { a with hm := hm, gl := gl, av := av } c e ah' → Q .non H'
def DoBound (φ : Addr → Nat) (H : Hp) (pa : Nat → Addr × Addr) (a : MA) (c : Core) (d : Dyn) (ah : List Dyn) (v : V) (Q : VK) : Prop := ∃ o, DeedAt φ H v (.bound o) ∧ ah.length ≤ 1000 ∧ LastOk c d ∧ TopOk { d with top := o } ∧
  ∀ r t H', Fm (fun b => LT (φ b)) H H' → MdAt φ H' pa { a with av := a.av ++ [t] } c { d with top := o } (ah ++ [d]) → Q r H'
def DoWider (φ : Addr → Nat) (H : Hp) (pa : Nat → Addr × Addr) (a : MA) (c : Core) (d : Dyn) (ah : List Dyn) (v : V) (Q : VK) : Prop := ∃ cap, DeedAt φ H v (.wider cap) ∧ WiderOk c d ah cap ∧
  ∀ r t ncv nnv H', Fm (fun b => LT (φ b)) H H' → MdAt φ H' pa { a with av := a.av ++ [t], cv := a.cv ++ ncv, nv := a.nv ++ nnv } (growAll cap c d.cur) { d with cap := cap } (ah ++ [d]) → Q r H'
def DoMore (φ : Addr → Nat) (H : Hp) (pa : Nat → Addr × Addr) (a : MA) (c : Core) (d : Dyn) (ah : List Dyn) (v : V) (Q : VK) : Prop := ∃ ms p L, DeedAt φ H v (.more ms p) ∧ MoreOk c d ah L ms p ∧
  ∀ r t hm gl ncv nnv φ' pa' H', Ext φ φ' H → Live φ' H' → (∀ j, j < c.g.n → pa' j = pa j) → Fm (fun b => LT (φ b)) H H' →
    MdAt φ' H' pa' { a with hm := hm, gl := gl, av := a.av ++ [t], cv := a.cv ++ ncv, nv := a.nv ++ nnv } (growAll d.cap (moreC c L ms p) (newIx c.g.n (moreG c.g L ms p).n)) (moreD c d L ms p) (ah ++ [d]) → Q r H'
def spDo : Sp := fun vs H Q _ => ∃ (φ : Addr → Nat) (pa : Nat → Addr × Addr) (a : MA) (c : Core) (d : Dyn) (ah : List Dyn) (v : V), vs = [.ref a.mh, v] ∧ MdAt φ H pa a c d ah ∧ Live φ H ∧
  (DoBack φ H pa a c ah v Q ∨ DoBound φ H pa a c d ah v Q ∨ DoWider φ H pa a c d ah v Q ∨ DoMore φ H pa a c d ah v Q)
theorem tup0 {x : V} {xs : List V} : atI (x :: xs) 0 = some x := atI_nat (j := 0) rfl
theorem tup1 {x y : V} {xs : List V} : atI (x :: y :: xs) 1 = some y := atI_nat (j := 1) rfl
theorem tup2 {x y z : V} {xs : List V} : atI (x :: y :: z :: xs) 2 = some z := atI_nat (j := 2) rfl
theorem MdAt.addAh {φ : Addr → Nat} {H H' : Hp} {pa : Nat → Addr × Addr} {a : MA} {c : Core} {d e : Dyn} {ah : List Dyn} (k : MdAt φ H pa a c d ah) {v : V} (f : Fm (· = a.aa) H H') (q : H' a.aa = some (.lst (a.av ++ [v]))) (hv : DyAt φ H' pa v e) : MdAt φ H' pa { a with av := a.av ++ [v] } c d (ah ++ [e]) :=
  ⟨f.at k.obj (ntag k.t1 k.t4 (by decide)), k.t1, k.t2, k.t3, k.t4, k.t5, k.t6, f.at k.hm (ntag k.t5 k.t4 (by decide)), f.at k.gl (ntag k.t6 k.t4 (by decide)), f.at k.nm (ntag k.t2 k.t4 (by decide)), k.nr.mono fun v x h => h.fm f, f.at k.mc (ntag k.t3 k.t4 (by decide)), k.cl,
    q, (k.dy.mono fun v x h => h.fm f fun b hb => by rw [hb, k.t4]; decide).snoc hv, k.ks.fm f fun b hb => by rw [hb, k.t4]; exact ⟨by decide, fun i _ => by unfold tgL; omega⟩⟩
theorem cal_law_do (hd : Hd K mg) : C8.Cal P w K mg base 28 "_law_do" spDo [] := by
  obtain ⟨fd, F⟩ := hd.d_law_do
  refine mk_cal F hd.g_law_do (F.bindsN fun _ _ _ _ _ _ us hl => match us, hl with | [_, _], _ => rfl) sc_law_do (fun vs H Q E h => ?_) (fun cdv A outer s H vs Q E hr h => ?_)
  · obtain ⟨_, _, _, _, _, _, _, rfl, _⟩ := h; rfl
  · obtain ⟨φ, pa, a, c, d, ah, v, rfl, md, lv, h⟩ := h
    refine ⟨_, (pss_cons (ps_if (pt_cmpR op_eq (pe_ix ix_tup (pv 1) pe_int (fun _ _ => rfl)) pe_str (nomark _)) (pss_cons (ps_asg (pe_bm0 PySem.F.plainAttrs_list PySem.F.slot_list_pop PySem.F.type_list_pop mt_pop (pe_dget (hu_of hr) (pv 0) pe_str (fun _ _ => rfl))) (pg_tup rfl (pgs_cons (pg_sub (pv 0) pe_str (set_dict (hu_of hr))) (pgs_cons (pg_sub (pv 0) pe_str (set_dict (hu_of hr))) (pgs_cons (pg_sub (pv 0) pe_str (set_dict (hu_of hr))) (pgs_cons (pg_sub (pv 0) pe_str (set_dict (hu_of hr))) pgs_nil))))))
    (pss_one (ps_ret pe_non))) pss_nil)
    (pss_cons (ps_expr (pe_bm PySem.F.plainAttrs_list PySem.F.slot_list_append PySem.F.type_list_append mt_append (pe_dget (hu_of hr) (pv 0) pe_str (fun _ _ => rfl)) (pa_cons (pe_tup (pa_cons (pe_dget (hu_of hr) (pv 0) pe_str (fun _ _ => rfl)) (pa_cons (pe_dget (hu_of hr) (pv 0) pe_str (fun _ _ => rfl)) (pa_cons (pe_dget (hu_of hr) (pv 0) pe_str (fun _ _ => rfl)) (pa_cons (pe_dget (hu_of hr) (pv 0) pe_str (fun _ _ => rfl)) pa_nil))))) pa_nil)))
    (pss_cons (ps_par (i := 3) (j := 4) rfl sc_law_do.nd rfl rfl (by decide) rfl rfl (pa_cons (pe_callB call_len_seq (by rfl) hd.f_len PySem.boot_len (pa_cons (pe_dget (hu_of hr) (pv 0) pe_str (fun _ _ => rfl)) pa_nil)) (pa_cons (pe_dget (hu_of hr) (pv 0) pe_str (fun _ _ => rfl)) pa_nil)) rfl)
    (pss_cons (ps_if (pt_cmpR op_eq (pe_ix ix_tup (pv 1) pe_int (fun _ _ => rfl)) pe_str (nomark _)) (pss_cons (ps_dput (hu_of hr) (pv 0) pe_str (pe_ix ix_tup (pv 1) pe_int (fun _ _ => rfl)) rfl)
    (pss_one (ps_ret (C8.pe_c (cal_law_puts hd) hr (by first | decide | omega) rfl (pa_cons (pv 0) pa_nil))))) pss_nil)
    (pss_cons (ps_if (pt_cmpR op_eq (pe_ix ix_tup (pv 1) pe_int (fun _ _ => rfl)) pe_str (nomark _)) (pss_one (ps_dput (hu_of hr) (pv 0) pe_str (pe_ix ix_tup (pv 1) pe_int (fun _ _ => rfl)) rfl)) pss_nil)
    (pss_cons (ps_if (pt_cmpR op_eq (pe_ix ix_tup (pv 1) pe_int (fun _ _ => rfl)) pe_str (nomark _)) (pss_cons (ps_set (i := 4) sc_law_do.nd rfl (Or.inl rfl) (C8.pe_c (cal_law_joined hd) hr (by first | decide | omega) rfl (pa_cons (pv 0) (pa_cons (pe_ix ix_tup (pv 1) pe_int (fun _ _ => rfl)) (pa_cons (pe_ix ix_tup (pv 1) pe_int (fun _ _ => rfl)) pa_nil)))))
    (pss_cons (ps_dput (hu_of hr) (pv 0) pe_str (pe_op op_cat (pe_dget (hu_of hr) (pv 0) pe_str (fun _ _ => rfl)) (pe_ix ix_tup (pv 1) pe_int (fun _ _ => rfl))) rfl)
    (pss_cons (ps_dput (hu_of hr) (pv 0) pe_str (pe_op op_cat (pe_dget (hu_of hr) (pv 0) pe_str (fun _ _ => rfl)) (pv 4)) rfl)
    (pss_one (ps_dput (hu_of hr) (pv 0) pe_str (pe_callB (cr_max rfl) (by rfl) hd.f_max (by decide +kernel) (pa_cons (pe_op op_cat (pe_lst (pa_cons (pe_dget (hu_of hr) (pv 0) pe_str (fun _ _ => rfl)) pa_nil)) (pe_lc (own := [("_law_mark", 5)]) (g := (gName 5)) (tt := tYes) (te := (tOp (rI0 fun i j => V.int (i + j)) (tCB bAbs (tCons (tVar 5) tNil)) (tC (V.int 1)))) rfl sc_law_do.nd (pi_list (pe_ix ix_tup (pv 1) pe_int (fun _ _ => rfl))) (blkOk_by (N := ["_law_held", "_law_deed_here", "_law_one", "_law_begun_here", "_law_some", "_law_mark"]) (sc := defScope s_law_do) (by decide +kernel)) (fun _ _ _ _ _ => (pg_name (i := 5) sc_law_do.nd rfl (Or.inl rfl))) (fun _ _ _ _ _ => pts_nil) (fun _ _ _ _ _ => (pe_op op_add (pe_callB call_abs (by rfl) hd.f_abs (by decide +kernel) (pa_cons (pv 5) pa_nil)) pe_int)))) pa_nil)) rfl))))) pss_nil)
    (pss_cons (ps_for PassesOwn.never rfl (pi_list (pv 4)) (pg_name (i := 2) sc_law_do.nd rfl (Or.inl rfl))
    (pss_one (ps_expr (C8.pe_c (cal_law_grow hd) hr (by first | decide | omega) rfl (pa_cons (pv 2) (pa_cons (pe_dget (hu_of hr) (pv 0) pe_str (fun _ _ => rfl)) (pa_cons (pv 0) pa_nil)))))))
    (pss_one (ps_ret (pe_slice sl_list (pe_dget (hu_of hr) (pv 0) pe_str (fun _ _ => rfl)) (po_some (pv 3)) po_none)))))))))), ?_⟩
    have z0 : ∀ b, φ b = 0 → ¬ LT (φ b) := fun b h p => p.ne h
    rcases h with ⟨e, ah', rfl, hl, ⟨t, rfl, ht⟩, k⟩ | h
    · have hav := md.dy.1
      rw [List.length_append] at hav
      have hav : a.av.length = ah'.length + 1 := hav
      have hlast : (ah' ++ [e])[a.av.length - 1]? = some e := by rw [hav]; simp
      obtain ⟨v, hv, hde⟩ := md.dy.get2 hlast
      obtain ⟨u, hm, gl, rfl, hu, hhm, zhm, hgl, zgl⟩ := hde
      refine ⟨_, rfl, t, _, _, _, rfl, rfl, .of ht, tup0, rfl, _, rfl, ifT (by decide +kernel) ?_⟩
      refine ⟨_, rfl, _, _, rfl, mh_ahead md.obj, .inl ⟨rfl, _, .of md.aa⟩, a.aa, _, _, rfl, rfl, md.aa, hv, upd_put md.aa no_lst fun H2 f2 q2 => ?_⟩
      have hu2 := f2.tups _ _ hu
      have o2 := f2.at md.obj (ntag md.t1 md.t4 (by decide))
      refine ⟨u, _, rfl, .of hu2, rfl, _, _, rfl, ?_⟩
      refine ⟨_, rfl, a.mh, _, rfl, mh_set_top o2 _, upd_put o2 no_mh fun H3 f3 q3 => ?_⟩
      refine ⟨_, _, rfl, _, rfl, a.mh, _, rfl, mh_set_cap q3 _, upd_put q3 no_mh fun H4 f4 q4 => ?_⟩
      refine ⟨_, _, rfl, _, rfl, a.mh, _, rfl, mh_set_marks q4 _, upd_put q4 no_mh fun H5 f5 q5 => ?_⟩
      refine ⟨_, _, rfl, _, rfl, a.mh, _, rfl, mh_set_knots q5 _, upd_put q5 no_mh fun H6 f6 q6 => ?_⟩
      refine ⟨rfl, ?_⟩
      have f26 : Fm (· = a.mh) H2 H6 := ((f3.trans f4).trans f5).trans f6
      have f16 : Fm (fun b => LT (φ b)) H H6 := (f2.mono fun b _ h => by rw [h, md.t4]; exact .inr (.inr (.inr (.inl rfl)))).trans (f26.mono fun b _ h => by rw [h, md.t1]; exact .inl rfl)
      refine k hm gl a.av.dropLast H6 f16 ⟨q6, md.t1, md.t2, md.t3, md.t4, zhm, zgl, f16.at hhm (z0 _ zhm), f16.at hgl (z0 _ zgl), f26.at (f2.at md.nm (ntag md.t2 md.t4 (by decide))) (ntag md.t2 md.t1 (by decide)), md.nr.mono fun v x h => h.fm f16,
        f26.at (f2.at md.mc (ntag md.t3 md.t4 (by decide))) (ntag md.t3 md.t1 (by decide)), md.cl, f26.at q2 (ntag md.t4 md.t1 (by decide)), ⟨by show a.av.dropLast.length = _; rw [List.length_dropLast, hav]; rfl, fun i v x hv hx => ?_⟩, ?_⟩
      · have hi := (List.getElem?_eq_some_iff.mp hx).1
        have hv : a.av.dropLast[i]? = some v := hv
        rw [List.getElem?_dropLast, if_pos (by omega)] at hv
        exact (md.dy.2 i v x hv (by rw [List.getElem?_append_left hi]; exact hx)).fm f16 fun b p => p.ne
      · exact (md.ks.fm f2 fun b hb => by rw [hb, md.t4]; exact ⟨by decide, fun i _ => by unfold tgL; omega⟩).fm f26 fun b hb => by rw [hb, md.t1]; exact ⟨by decide, fun i _ => by unfold tgL; omega⟩
    -- what is there is noted
    have note : ∀ p H1, Sm H H1 → H1 p = some (.tup [oV d.top, iV d.cap, .ref a.hm, .ref a.gl]) → ∀ H2, Fm (· = a.aa) H1 H2 → H2 a.aa = some (.lst (a.av ++ [.ref p])) → MdAt φ H2 pa { a with av := a.av ++ [.ref p] } c d (ah ++ [d]) := by
      intro p H1 s1 q1 H2 f2 q2
      have md1 := md.sm s1
      exact md1.addAh f2 q2 ⟨p, a.hm, a.gl, rfl, f2.tups _ _ q1, f2.at md1.hm (ntag md.t5 md.t4 (by decide)), md.t5, f2.at md1.gl (ntag md.t6 md.t4 (by decide)), md.t6⟩
    have fL : ∀ {H1 H2 : Hp}, Fm (· = a.aa) H1 H2 → Fm (fun b => LT (φ b)) H1 H2 := fun f => f.mono fun b _ h => by rw [h, md.t4]; exact .inr (.inr (.inr (.inl rfl)))
    have fO : ∀ {H1 H2 : Hp}, Fm (· = a.mh) H1 H2 → Fm (fun b => LT (φ b)) H1 H2 := fun f => f.mono fun b _ h => by rw [h, md.t1]; exact .inl rfl
    rcases h with ⟨o, ⟨t, rfl, ht⟩, hl, last, top, k⟩ | ⟨cap, ⟨t, rfl, ht⟩, wo, k⟩ | ⟨ms, p, L, ⟨t, am, vp, rfl, ht, ham, zam, hp⟩, mo, k⟩
    · refine ⟨_, rfl, t, _, _, _, rfl, rfl, .of ht, tup0, rfl, _, rfl, ifF (by decide +kernel) ?_⟩
      refine ⟨_, rfl, _, _, rfl, mh_ahead md.obj, .inl ⟨rfl, _, .of md.aa⟩, _, rfl, _, _, rfl, mh_top md.obj, _, rfl, _, _, rfl, mh_cap md.obj, _, rfl, _, _, rfl, mh_marks md.obj, _, rfl, _, _, rfl, mh_knots md.obj, szN, fun p1 n1 => upd_new n1 fun H1 s1 q1 => ?_⟩
      have md1 := md.sm s1
      refine ⟨a.aa, _, _, rfl, rfl, md1.aa, by rw [md1.dy.1, sizeLine_eq]; omega, upd_put md1.aa no_lst fun H2 f2 q2 => ?_⟩
      have md2 := note p1 H1 s1 q1 H2 f2 q2
      have ht2 := f2.tups _ _ (s1.at ht)
      refine ⟨_, rfl, _, _, rfl, mh_clauses md2.obj, _, _, rfl, .inl (.of md2.mc), _, rfl, _, _, rfl, mh_knots md2.obj, _, _, rfl, ?_⟩
      refine ⟨_, rfl, t, _, _, _, rfl, rfl, .of ht2, tup0, rfl, _, rfl, ifT (by decide +kernel) ?_⟩
      refine ⟨_, rfl, t, _, _, _, rfl, rfl, .of ht2, tup1, _, rfl, a.mh, _, rfl, mh_set_top md2.obj o, upd_put md2.obj no_mh fun H3 f3 q3 => ?_⟩
      have md3 : MdAt φ H3 pa { a with av := a.av ++ [.ref p1] } c { d with top := o } (ah ++ [d]) := md2.setObj (hm := a.hm) (gl := a.gl) (n := c.coming) (d' := { d with top := o }) f3 q3 (f3.at md2.hm (ntag md.t5 md.t1 (by decide))) md.t5 (f3.at md2.gl (ntag md.t6 md.t1 (by decide))) md.t6
      refine ⟨_, rfl, φ, pa, { a with av := a.av ++ [.ref p1] }, c, { d with top := o }, _, rfl, md3, ⟨last.ex⟩, top, fun p4 H4 s4 => ?_⟩
      exact k _ _ H4 (((s1.to.trans (fL f2)).trans (fO f3)).trans s4.to) (md3.sm s4)
    · have hcap1 : 1 ≤ cap := by have := wo.lt; omega
      refine ⟨_, rfl, t, _, _, _, rfl, rfl, .of ht, tup0, rfl, _, rfl, ifF (by decide +kernel) ?_⟩
      refine ⟨_, rfl, _, _, rfl, mh_ahead md.obj, .inl ⟨rfl, _, .of md.aa⟩, _, rfl, _, _, rfl, mh_top md.obj, _, rfl, _, _, rfl, mh_cap md.obj, _, rfl, _, _, rfl, mh_marks md.obj, _, rfl, _, _, rfl, mh_knots md.obj, szN, fun p1 n1 => upd_new n1 fun H1 s1 q1 => ?_⟩
      have md1 := md.sm s1
      have hahl := wo.ahl
      refine ⟨a.aa, _, _, rfl, rfl, md1.aa, by rw [md1.dy.1, sizeLine_eq]; omega, upd_put md1.aa no_lst fun H2 f2 q2 => ?_⟩
      have md2 := note p1 H1 s1 q1 H2 f2 q2
      have ht2 := f2.tups _ _ (s1.at ht)
      refine ⟨_, rfl, _, _, rfl, mh_clauses md2.obj, _, _, rfl, .inl (.of md2.mc), _, rfl, _, _, rfl, mh_knots md2.obj, _, _, rfl, ?_⟩
      refine ⟨_, rfl, t, _, _, _, rfl, rfl, .of ht2, tup0, rfl, _, rfl, ifF (by decide +kernel) ?_⟩
      refine ⟨_, rfl, t, _, _, _, rfl, rfl, .of ht2, tup0, rfl, _, rfl, ifT (by decide +kernel) ?_⟩
      refine ⟨_, rfl, t, _, _, _, rfl, rfl, .of ht2, tup1, _, rfl, a.mh, _, rfl, mh_set_cap md2.obj cap, upd_put md2.obj no_mh fun Hs f3 q3 => ?_⟩
      have mds : MdAt φ Hs pa { a with av := a.av ++ [.ref p1] } c { d with cap := cap } (ah ++ [d]) := md2.setObj (hm := a.hm) (gl := a.gl) (n := c.coming) (d' := { d with cap := cap }) f3 q3 (f3.at md2.hm (ntag md.t5 md.t1 (by decide))) md.t5 (f3.at md2.gl (ntag md.t6 md.t1 (by decide))) md.t6
      refine ⟨_, rfl, t, _, _, _, rfl, rfl, .of (f3.tups _ _ ht2), tup0, rfl, _, rfl, ifF (by decide +kernel) ?_⟩
      have f03 : Fm (fun b => LT (φ b)) H Hs := (s1.to.trans (fL f2)).trans (fO f3)
      have lvs : Live φ Hs := lv.fm f03
      have hgl : Hs a.gl = some (.lst (curV pa d.cur)) := mds.gl
      have zgl : φ a.gl = 0 := md.t6
      have rd := wo.rd
      have hixn := wo.cur
      have ol := wo.ol
      have hcul := wo.cul
      have hnms := wo.nms
      have hroom := wo.room
      -- the knots grow
      have ok' := wo.ok
      refine ⟨_, rfl, a.gl, rfl, ⟨_, .of hgl⟩, for_it walk_list (fun j σ H' => ∃ (o2 : Option V) (ncv nnv : List V), σ = [some (.ref a.mh), some (.ref t), o2, some (iV a.cv.length), some (.ref a.gl), none] ∧
        Fm (fun b => LT (φ b)) Hs H' ∧ MdAt φ H' pa { a with av := a.av ++ [.ref p1], cv := a.cv ++ ncv, nv := a.nv ++ nnv } (growAll cap c (d.cur.take j)) { d with cap := cap } (ah ++ [d])) ?_ (fun j σ H' _ ⟨_, _, _, _, f, _⟩ => .of (f.at hgl (fun z => z.ne zgl))) ?_ ?_⟩
      · refine ⟨_, [], [], rfl, .refl, ?_⟩
        rw [List.append_nil, List.append_nil]
        exact mds
      · rintro j y σ Ha Hb hj ⟨o2, ncv, nnv, rfl, fa, mdj⟩ ⟨rfl, hy⟩
        obtain ⟨i, hi, rfl⟩ := curV_get hy
        obtain ⟨hin, hfl⟩ := rd.at hi
        have eg := growAll_g cap (d.cur.take j) c
        have few := growAll_few (cap := cap) (d.cur.take j) c ok' fun i' hi' => hixn i' (List.mem_of_mem_take hi')
        have hjl : (d.cur.take j).length ≤ d.cur.length := by rw [List.length_take]; omega
        have olj : OutsLe (growAll cap c (d.cur.take j)) := OutsLe.all ol
        refine ⟨_, rfl, _, rfl, _, _, rfl, mh_cap mdj.obj, _, rfl, φ, pa, { a with av := a.av ++ [.ref p1], cv := a.cv ++ ncv, nv := a.nv ++ nnv }, _, { d with cap := cap }, ah ++ [d], i, cap, rfl, mdj, lvs.fm fa, by rw [eg]; exact ok', olj, by rw [eg]; exact hin, hcap1, by rw [eg]; exact hfl, by omega, by omega, fun ncv2 nnv2 H2' f2 md2 => ?_⟩
        refine ⟨_, ncv ++ ncv2, nnv ++ nnv2, rfl, fa.trans f2, ?_⟩
        rw [take_snoc hi, growAll_snoc, ← List.append_assoc, ← List.append_assoc]
        exact md2
      · rintro σ Ha ⟨o2, ncv, nnv, rfl, fa, mdj⟩
        have el : (curV pa d.cur).length = d.cur.length := by simp [curV]
        rw [el, List.take_length] at mdj
        refine ⟨_, rfl, _, _, rfl, mh_clauses mdj.obj, _, rfl, _, rfl, a.mc, _, rfl, .of mdj.mc, fun p np => upd_new np fun H1 s1 q1 => ?_⟩
        exact k _ _ ncv nnv H1 ((f03.trans fa).trans s1.to) (mdj.sm s1)
    · have hcap1 := mo.cap
      refine ⟨_, rfl, t, _, _, _, rfl, rfl, .of ht, tup0, rfl, _, rfl, ifF (by decide +kernel) ?_⟩
      refine ⟨_, rfl, _, _, rfl, mh_ahead md.obj, .inl ⟨rfl, _, .of md.aa⟩, _, rfl, _, _, rfl, mh_top md.obj, _, rfl, _, _, rfl, mh_cap md.obj, _, rfl, _, _, rfl, mh_marks md.obj, _, rfl, _, _, rfl, mh_knots md.obj, szN, fun p1 n1 => upd_new n1 fun H1 s1 q1 => ?_⟩
      have md1 := md.sm s1
      have hahl := mo.ahl
      refine ⟨a.aa, _, _, rfl, rfl, md1.aa, by rw [md1.dy.1, sizeLine_eq]; omega, upd_put md1.aa no_lst fun H2 f2 q2 => ?_⟩
      have md2 := note p1 H1 s1 q1 H2 f2 q2
      have ht2 := f2.tups _ _ (s1.at ht)
      refine ⟨_, rfl, _, _, rfl, mh_clauses md2.obj, _, _, rfl, .inl (.of md2.mc), _, rfl, _, _, rfl, mh_knots md2.obj, _, _, rfl, ?_⟩
      refine ⟨_, rfl, t, _, _, _, rfl, rfl, .of ht2, tup0, rfl, _, rfl, ifF (by decide +kernel) ?_⟩
      refine ⟨_, rfl, t, _, _, _, rfl, rfl, .of ht2, tup0, rfl, _, rfl, ifF (by decide +kernel) ?_⟩
      refine ⟨_, rfl, t, _, _, _, rfl, rfl, .of ht2, tup0, rfl, _, rfl, ifT (by decide +kernel) ?_⟩
      have f02 : Fm (fun b => LT (φ b)) H H2 := s1.to.trans (fL f2)
      have ham2 := f02.at ham (z0 _ zam)
      have hp2 := hp.fm f02
      have lv2 := lv.fm f02
      have aha2 : ∀ e ∈ ah ++ [d], ∀ i ∈ e.cur, i < c.g.n := fun e he i hi => by
        rcases List.mem_append.mp he with he | he
        · exact mo.aha e he i hi
        · rw [List.mem_singleton.mp he] at hi; exact mo.cur i hi
      refine ⟨_, rfl, _, rfl, t, _, _, _, rfl, rfl, .of ht2, tup1, _, rfl, t, _, _, _, rfl, rfl, .of ht2, tup2, am, vp, ms, p, L, φ, pa, { a with av := a.av ++ [.ref p1] }, c, d, ah ++ [d], rfl, md2, lv2, ham2, hp2, ⟨mo.okp, mo.sz, mo.mo.few, mo.nk, mo.last, mo.cur, aha2, mo.ok, mo.out0, mo.ok2⟩, fun q φ' pa' H3 ex3 lv3 hpa3 s3 md3 hq zq => ?_⟩
      have ht3 := s3.at ht2
      have ham3 := s3.at ham2
      have tr : ∀ {b : Addr} {o : HO} {t : Nat}, H2 b = some o → φ b = t → φ' b = t := fun hb ht => by rw [ex3 _ (live_of hb)]; exact ht
      have zam' : φ' am = 0 := tr ham2 zam
      have hfew := mo.few
      refine ⟨_, rfl, _, _, rfl, mh_marks md3.obj, _, rfl, t, _, _, _, rfl, rfl, .of ht3, tup1, a.hm, am, _, _, rfl, rfl, md3.hm, ham3, by rw [isV_len, isV_len, sizeLine_eq]; omega, fun p4 n4 => upd_new n4 fun H4 s4 q4 => ?_⟩
      have md4 := md3.sm s4
      refine ⟨_, rfl, a.mh, _, rfl, mh_set_marks md4.obj p4, upd_put md4.obj no_mh fun H5 f5 q5 => ?_⟩
      have nt : ∀ {b t}, φ' b = t → t ≠ 6 → b ≠ a.mh := fun hb ht => ntag hb md3.t1 ht
      have gl5 := f5.at md4.gl (nt md3.t6 (by decide))
      have hq5 := f5.at (s4.at hq) (nt zq (by decide))
      have hcul := mo.cul
      have hixl : (newIx c.g.n (moreG c.g L ms p).n).length ≤ 11 := by
        have e := gat_n p ms c.g
        have := mo.nk
        simp only [newIx, List.length_map, List.length_range, moreG]; omega
      refine ⟨_, rfl, _, _, rfl, mh_knots q5, _, rfl, a.gl, q, _, _, rfl, rfl, gl5, hq5, by simp only [curV, List.length_map]; rw [sizeLine_eq]; omega, fun p6 n6 => upd_new n6 fun H6 s6 q6 => ?_⟩
      have o6 := s6.at q5
      refine ⟨_, rfl, a.mh, _, rfl, mh_set_knots o6 p6, upd_put o6 no_mh fun H7 f7 q7 => ?_⟩
      refine ⟨_, rfl, _, _, rfl, mh_coming q7, szN, fun p8 n8 => upd_new n8 fun H8 s8 q8 => ?_⟩
      have am8 := s8.at (f7.at (s6.at (f5.at (s4.at ham3) (nt zam' (by decide)))) (nt zam' (by decide)))
      have ht8 := s8.at (f7.tups _ _ (s6.at (f5.tups _ _ (s4.at ht3))))
      have hml := mo.mo.few
      refine ⟨_, rfl, t, _, _, _, rfl, rfl, .of ht8, tup1, am, rfl, ⟨_, .of am8⟩, lc_all walk_list (M := No) (fun i y H' => ∃ m, ((ms.map absI).map fun m => m + 1)[i]? = some m ∧ y = .int m) (by rw [isV_len, sizeLine_eq]; omega) (fun _ z => z.elim) (fun H' f' => .of (Sm.at f' am8)) (fun i y N H H' h f => h) ?_ ?_⟩
      · rintro j y Hc Hd' Qy hj fc ⟨rfl, hy⟩ kq
        obtain ⟨m, hm, rfl⟩ := isV_get hy
        exact ⟨rfl, _, rfl, _, rfl, _, _, rfl, rfl, kq _ _ .refl ⟨absI m + 1, by rw [List.getElem?_map, List.getElem?_map, hm]; rfl, rfl⟩⟩
      rintro p9 zs H9 n9 s9 q9 hz9 hh9
      have s9 : Sm H8 H9 := s9
      have e9 := ext_isV (ns := (ms.map absI).map fun m => m + 1) (by rw [hz9, isV_len, List.length_map, List.length_map]) hh9
      rw [e9] at q9
      have q8' : H9 p8 = some (.lst [V.int c.coming]) := s9.at q8
      refine ⟨p8, p9, _, _, rfl, rfl, q8', q9, by rw [isV_len, List.length_map, List.length_map, sizeLine_eq]; show 1 + _ ≤ _; omega, fun p10 n10 => upd_new n10 fun H10 s10 q10 => ?_⟩
      refine ⟨p10, c.coming :: (ms.map absI).map fun m => m + 1, rfl, .of q10, Nat.succ_pos _, fun m hm hle => ?_⟩
      have em : m = topN c.coming ms := by
        obtain ⟨t1, t2, t3⟩ := topN_facts ms c.coming
        have h1 : m ≤ topN c.coming ms := by
          rcases List.mem_cons.mp hm with rfl | hm
          · exact t1
          · obtain ⟨x, hx, rfl⟩ := List.mem_map.mp hm
            obtain ⟨y, hy, rfl⟩ := List.mem_map.mp hx
            exact t2 y hy
        have h2 : topN c.coming ms ≤ m := by
          rcases t3 with t3 | ⟨y, hy, t3⟩
          · rw [t3]; exact hle _ (List.mem_cons_self ..)
          · rw [t3]; exact hle _ (List.mem_cons_of_mem _ (List.mem_map_of_mem (List.mem_map_of_mem hy)))
        omega
      subst em
      have o10 := s10.at (s9.at (s8.at q7))
      refine ⟨_, rfl, a.mh, _, rfl, mh_set_coming o10 _, upd_put o10 no_mh fun Hs f11 q11 => ?_⟩
      have z4 : φ' p4 = 0 := lv3.zero n4
      have z6 : φ' p6 = 0 := ((lv3.fm s4).fm f5).zero n6
      have f4s : Fm (· = a.mh) H4 Hs := ((((((f5.trans s6.to).trans f7).trans s8.to).trans s9.to).trans s10.to).trans f11)
      have f7s : Fm (· = a.mh) H7 Hs := (((s8.to.trans s9.to).trans s10.to).trans f11)
      have mds : MdAt φ' Hs pa' { a with hm := p4, gl := p6, av := a.av ++ [.ref p1] } (moreC c L ms p) (moreD c d L ms p) (ah ++ [d]) := by
        refine md4.setObj (hm := p4) (gl := p6) (n := topN c.coming ms) (d' := moreD c d L ms p) f4s q11 ?_ z4 ?_ z6
        · refine (f4s.at q4 (nt z4 (by decide))).trans ?_
          show some (HO.lst (isV d.marks ++ isV ms)) = some (HO.lst (isV (d.marks ++ ms)))
          rw [isV, isV, isV, List.map_append]
        · refine (f7s.at (f7.at q6 (nt z6 (by decide))) (nt z6 (by decide))).trans ?_
          show some (HO.lst (curV pa' d.cur ++ curV pa' _)) = some (HO.lst (curV pa' (d.cur ++ _)))
          unfold curV
          rw [List.map_append]
      have f3s : Fm (fun b => LT (φ' b)) H2 Hs := (s3.to.trans s4.to).trans (f4s.mono fun b _ h => by rw [h, md3.t1]; exact .inl rfl)
      have f0s : Fm (fun b => LT (φ b)) H Hs := f02.step f3s fun b hb h => by rw [ex3 b (f02.live b hb)] at h; exact h
      have lvs : Live φ' Hs := (lv3.fm s4).fm f4s
      have hgl : Hs q = some (.lst (curV pa' (newIx c.g.n (moreG c.g L ms p).n))) := f4s.at (s4.at hq) (nt zq (by decide))
      have zgl : φ' q = 0 := zq
      have rd := mo.rd
      have hixn : ∀ i ∈ newIx c.g.n (moreG c.g L ms p).n, i < (moreC c L ms p).g.n := by
        intro i hi
        obtain ⟨j, hj, rfl⟩ := List.mem_map.mp hi
        have := List.mem_range.mp hj
        show _ < (moreG c.g L ms p).n
        omega
      have ol : OutsLe (moreC c L ms p) := by
        intro i hi
        by_cases h : i < c.g.n
        · have e : (moreC c L ms p).g.ks i = c.g.ks i := by
            have hrn := gat_n p ms c.g
            show updN (p.gat ms c.g).1.ks (p.gat ms c.g).1.n _ i = _
            rw [updN_ne (by omega), gat_keep p ms c.g i h]
          rw [e]; exact mo.ol i h
        · show (c.outs i).length ≤ _
          rw [mo.out0 i (by omega)]; exact Nat.zero_le _
      have hnms : (moreC c L ms p).names.length ≤ 5000 := mo.nms
      have hcls : (moreC c L ms p).clauses.length ≤ 2000 := mo.cls
      -- the knots grow
      have ok' := mo.ok2
      refine ⟨_, rfl, q, rfl, ⟨_, .of hgl⟩, for_it walk_list (fun j σ H' => ∃ (o2 : Option V) (ncv nnv : List V), σ = [some (.ref a.mh), some (.ref t), o2, some (iV a.cv.length), some (.ref q), none] ∧
        Fm (fun b => LT (φ' b)) Hs H' ∧ MdAt φ' H' pa' { a with hm := p4, gl := p6, av := a.av ++ [.ref p1], cv := a.cv ++ ncv, nv := a.nv ++ nnv } (growAll d.cap (moreC c L ms p) ((newIx c.g.n (moreG c.g L ms p).n).take j)) (moreD c d L ms p) (ah ++ [d])) ?_ (fun j σ H' _ ⟨_, _, _, _, f, _⟩ => .of (f.at hgl (fun z => z.ne zgl))) ?_ ?_⟩
      · refine ⟨_, [], [], rfl, .refl, ?_⟩
        rw [List.append_nil, List.append_nil]
        exact mds
      · rintro j y σ Ha Hb hj ⟨o2, ncv, nnv, rfl, fa, mdj⟩ ⟨rfl, hy⟩
        obtain ⟨i, hi, rfl⟩ := curV_get hy
        obtain ⟨hin, hfl⟩ := rd.at hi
        have eg := growAll_g d.cap ((newIx c.g.n (moreG c.g L ms p).n).take j) (moreC c L ms p)
        have few := growAll_few (cap := d.cap) ((newIx c.g.n (moreG c.g L ms p).n).take j) (moreC c L ms p) ok' fun i' hi' => hixn i' (List.mem_of_mem_take hi')
        have hjl : ((newIx c.g.n (moreG c.g L ms p).n).take j).length ≤ (newIx c.g.n (moreG c.g L ms p).n).length := by rw [List.length_take]; omega
        have olj : OutsLe (growAll d.cap (moreC c L ms p) ((newIx c.g.n (moreG c.g L ms p).n).take j)) := OutsLe.all ol
        refine ⟨_, rfl, _, rfl, _, _, rfl, mh_cap mdj.obj, _, rfl, φ', pa', { a with hm := p4, gl := p6, av := a.av ++ [.ref p1], cv := a.cv ++ ncv, nv := a.nv ++ nnv }, _, (moreD c d L ms p), ah ++ [d], i, d.cap, rfl, mdj, lvs.fm fa, by rw [eg]; exact ok', olj, by rw [eg]; exact hin, hcap1, by rw [eg]; exact hfl, by omega, by omega, fun ncv2 nnv2 H2' f2 md2 => ?_⟩
        refine ⟨_, ncv ++ ncv2, nnv ++ nnv2, rfl, fa.trans f2, ?_⟩
        rw [take_snoc hi, growAll_snoc, ← List.append_assoc, ← List.append_assoc]
        exact md2
      · rintro σ Ha ⟨o2, ncv, nnv, rfl, fa, mdj⟩
        have el : (curV pa' (newIx c.g.n (moreG c.g L ms p).n)).length = (newIx c.g.n (moreG c.g L ms p).n).length := by simp [curV]
        rw [el, List.take_length] at mdj
        refine ⟨_, rfl, _, _, rfl, mh_clauses mdj.obj, _, rfl, _, rfl, a.mc, _, rfl, .of mdj.mc, fun p np => upd_new np fun H1 s1 q1 => ?_⟩
        have F1 : Fm (fun b => LT (φ b)) H H1 := f0s.step (fa.trans s1.to) fun b hb h => by rw [ex3 b (f02.live b hb)] at h; exact h
        exact k _ _ p4 p6 ncv nnv φ' pa' H1 (fun b hb => ex3 b (f02.live b hb)) ((lvs.fm fa).fm s1) hpa3 F1 (mdj.sm s1)
end
end K59
set_option Elab.async false
set_option linter.all false
set_option maxRecDepth 100000
set_option maxHeartbeats 4000000
namespace K59
open PySem PySem.Spec PyProof.Rows L2
section
variable {P : Program} {w : World} {K : PySem.W.Frag} {mg : Str → Option Value} {base : Heap}
theorem sc_law_there : FnScope ["_law_held", "_law_mark", "_law_name", "_law_meaning"] ["_law_held"] (defScope s_law_there) := ⟨rfl, rfl, rfl, by decide +kernel, rfl, by decide +kernel, by decide +kernel⟩
def spThere : Sp := fun vs H Q _ => ∃ (φ : Addr → Nat) (pa : Nat → Addr × Addr) (a : MA) (c : Core) (d : Dyn) (ah : List Dyn), vs = [.ref a.mh] ∧ MdAt φ H pa a c d ah ∧ d.marks.length ≤ 1000 ∧ c.names.length ≤ 8000 ∧
  ∀ p H', H p = none → Sm H H' → H' p = some (.lst (isV (d.marks.map absI ++ c.names))) → Q (.ref p) H'
theorem cal_law_there (hd : Hd K mg) : C8.Cal P w K mg base 1 "_law_there" spThere [] := by
  obtain ⟨fd, F⟩ := hd.d_law_there
  refine mk_cal F hd.g_law_there (F.bindsN fun _ _ _ _ _ _ us hl => match us, hl with | [_], _ => rfl) sc_law_there (fun vs H Q E h => ?_) (fun cdv A outer s H vs Q E hr h => ?_)
  · obtain ⟨_, _, _, _, _, _, rfl, _⟩ := h; rfl
  · obtain ⟨φ, pa, a, c, d, ah, rfl, md, hml, hnl, k⟩ := h
    refine ⟨_, (pss_one (ps_ret (pe_op op_cat (pe_lc (own := [("_law_mark", 1)]) (g := (gName 1)) (tt := tYes) (te := (tCB bAbs (tCons (tVar 1) tNil))) rfl sc_law_there.nd (pi_list (pe_dget (hu_of hr) (pv 0) pe_str (fun _ _ => rfl))) (blkOk_by (N := ["_law_held", "_law_mark", "_law_name", "_law_meaning"]) (sc := defScope s_law_there) (by decide +kernel)) (fun _ _ _ _ _ => (pg_name (i := 1) sc_law_there.nd rfl (Or.inl rfl))) (fun _ _ _ _ _ => pts_nil) (fun _ _ _ _ _ => (pe_callB call_abs (by rfl) hd.f_abs (by decide +kernel) (pa_cons (pv 1) pa_nil)))) (pe_lc (own := [("_law_name", 2), ("_law_meaning", 3)]) (g := (gTup K 2 (gCons (gName 2) (gCons (gName 3) gNil)))) (tt := tYes) (te := (tVar 2)) rfl sc_law_there.nd (pi_list (pe_dget (hu_of hr) (pv 0) pe_str (fun _ _ => rfl))) (blkOk_by (N := ["_law_held", "_law_mark", "_law_name", "_law_meaning"]) (sc := defScope s_law_there) (by decide +kernel)) (fun _ _ _ _ _ => (pg_tup rfl (pgs_cons (pg_name (i := 2) sc_law_there.nd rfl (Or.inl rfl)) (pgs_cons (pg_name (i := 3) sc_law_there.nd rfl (Or.inl rfl)) pgs_nil)))) (fun _ _ _ _ _ => pts_nil) (fun _ _ _ _ _ => (pv 2)))))), ?_⟩
    refine ⟨_, rfl, _, _, rfl, mh_marks md.obj, a.hm, rfl, ⟨_, .of md.hm⟩, lc_all walk_list (M := No) (fun i y H' => ∃ m, (d.marks.map absI)[i]? = some m ∧ y = .int m) (by rw [isV_len, sizeLine_eq]; omega) (fun _ z => z.elim) (fun H' f' => .of (Sm.at f' md.hm)) (fun i y N H H' h f => h) ?_ ?_⟩
    · rintro j y Hc Hd' Qy hj fc ⟨rfl, hy⟩ kq
      obtain ⟨m, hm, rfl⟩ := isV_get hy
      exact ⟨rfl, _, rfl, _, rfl, kq _ _ .refl ⟨absI m, by rw [List.getElem?_map, hm]; rfl, rfl⟩⟩
    rintro p1 zs H1 n1 s1 q1 hz1 hh1
    have s1 : Sm H H1 := s1
    have e1 := ext_isV (ns := d.marks.map absI) (by rw [hz1, isV_len, List.length_map]) hh1
    rw [e1] at q1
    have md1 := md.sm s1
    have hnv := md1.nr.1
    refine ⟨_, rfl, _, _, rfl, mh_names md1.obj, a.nm, rfl, ⟨_, .of md1.nm⟩, lc_all walk_list (M := No) (fun i y H' => ∃ m, c.names[i]? = some m ∧ y = .int m) (by rw [hnv, sizeLine_eq]; omega) (fun _ z => z.elim) (fun H' f' => .of (Sm.at f' md1.nm)) (fun i y N H H' h f => h) ?_ ?_⟩
    · rintro j y Hc Hd' Qy hj fc ⟨rfl, hy⟩ kq
      obtain ⟨nm, hnm, t, mt, rfl, ht⟩ := md1.nr.get hy
      exact ⟨t, _, rfl, .of (Sm.at fc ht), rfl, _, _, rfl, _, _, rfl, rfl, rfl, _, rfl, kq _ _ .refl ⟨nm, hnm, rfl⟩⟩
    rintro p2 ws H2 n2 s2 q2 hz2 hh2
    have s2 : Sm H1 H2 := s2
    have e2 := ext_isV (ns := c.names) (by rw [hz2, hnv]) hh2
    rw [e2] at q2
    refine ⟨p1, p2, _, _, rfl, rfl, s2.at q1, q2, by rw [isV_len, isV_len, List.length_map, sizeLine_eq]; omega, fun p3 n3 => upd_new n3 fun H3 s3 q3 => ?_⟩
    refine k p3 H3 ((s1.trans s2).free n3) ((s1.trans s2).trans s3) ?_
    rw [q3]
    show some (HO.lst (isV _ ++ isV _)) = _
    simp [isV]
theorem sc_law_told_deed : FnScope ["_law_keeper", "_law_deed_here", "_law_marks_here", "_law_found"] ["_law_keeper", "_law_deed_here"] (defScope s_law_told_deed) := ⟨rfl, rfl, rfl, by decide +kernel, rfl, by decide +kernel, by decide +kernel⟩
/-- a deed told to the program's keeper -/
def ToldBack (φ : Addr → Nat) (H : Hp) (pa : Nat → Addr × Addr) (a : KA) (c : Core) (d : Dyn) (ah : List Dyn) (v : V) (Q : VK) : Prop := ∃ e ah', ah = ah' ++ [e] ∧ ah'.length ≤ 1000 ∧ DeedAt φ H v .back ∧ ∀ hm gl av H', Fm (fun b => PT (φ b)) H H' → KpAt K φ H' pa { a with hm := hm, gl := gl, av := av } c e ah' → Q .non H'
def ToldBound (φ : Addr → Nat) (H : Hp) (pa : Nat → Addr × Addr) (a : KA) (c : Core) (d : Dyn) (ah : List Dyn) (v : V) (Q : VK) : Prop := ∃ o, DeedAt φ H v (.bound o) ∧ ah.length ≤ 1000 ∧ LastOk c d ∧ TopOk { d with top := o } ∧
  ∀ r t H', Fm (fun b => PT (φ b)) H H' → KpAt K φ H' pa { a with av := a.av ++ [t] } c { d with top := o } (ah ++ [d]) → Q r H'
def ToldWider (φ : Addr → Nat) (H : Hp) (pa : Nat → Addr × Addr) (a : KA) (c : Core) (d : Dyn) (ah : List Dyn) (v : V) (Q : VK) : Prop := ∃ cap, DeedAt φ H v (.wider cap) ∧ WiderOk c d ah cap ∧
  ∀ p t ncv nmv H', H p = none → Fm (fun b => PT (φ b)) H H' → KpAt K φ H' pa { a with av := a.av ++ [t], cv := a.cv ++ ncv, mv := a.mv ++ nmv } (growAll cap c d.cur) { d with cap := cap } (ah ++ [d]) → H' p = some (.lst ncv) → Q (.ref p) H'
def ToldMore (φ : Addr → Nat) (H : Hp) (pa : Nat → Addr × Addr) (a : KA) (c : Core) (d : Dyn) (ah : List Dyn) (v : V) (Q : VK) : Prop := ∃ ms p L, DeedAt φ H v (.more ms p) ∧ MoreOk c d ah L ms p ∧ Live φ H ∧
  ∀ q t hm gl ncv nmv φ' pa' H', H q = none → Ext φ φ' H → Live φ' H' → (∀ j, j < c.g.n → pa' j = pa j) → Fm (fun b => PT (φ b)) H H' →
    KpAt K φ' H' pa' { a with hm := hm, gl := gl, av := a.av ++ [t], cv := a.cv ++ ncv, mv := a.mv ++ nmv } (growAll d.cap (moreC c L ms p) (newIx c.g.n (moreG c.g L ms p).n)) (moreD c d L ms p) (ah ++ [d]) → H' q = some (.lst ncv) → Q (.ref q) H'
def spTold : Sp := fun vs H Q _ => ∃ (φ : Addr → Nat) (pa : Nat → Addr × Addr) (a : KA) (c : Core) (d : Dyn) (ah : List Dyn) (v : V), vs = [.ref a.kp, v] ∧ KpAt K φ H pa a c d ah ∧
  (ToldBack (K := K) φ H pa a c d ah v Q ∨ ToldBound (K := K) φ H pa a c d ah v Q ∨ ToldWider (K := K) φ H pa a c d ah v Q ∨ ToldMore (K := K) φ H pa a c d ah v Q)
theorem dp_isV {H : Hp} : ∀ ns : List Int, DpAll K H (isV ns) (ns.map PyData.int)
  | [] => .nil
  | n :: ns => .cons (.int n) (dp_isV ns)
theorem lay_ints : ∀ ns : List Int, PyData.canLayAll0 (ns.map PyData.int) = true ∧ PyData.depthAll (ns.map PyData.int) = 0
  | [] => ⟨rfl, rfl⟩
  | n :: ns => by
    obtain ⟨h1, h2⟩ := lay_ints ns
    constructor
    · rw [List.map_cons, PyData.canLayAll0, h1]; rfl
    · rw [List.map_cons, PyData.depthAll, h2]; rfl
theorem shaped_ints (ns : List Int) : SeqAt.shaped (.list (ns.map PyData.int)) = true := shaped_list (lay_ints ns).1 (by rw [(lay_ints ns).2]; exact Nat.zero_le _)
theorem eqv_ints (ns : List Int) : PyData.eqv (.list (ns.map PyData.int)) (.list (ns.map PyData.int)) = true := SeqAt.eqv_refl _ (SeqAt.canLay_of_shaped (shaped_ints ns))
theorem cal_law_told_deed (hd : Hd K mg) : C8.Cal P w K mg base 31 "_law_told_deed" (spTold (K := K)) [] := by
  obtain ⟨fd, F⟩ := hd.d_law_told_deed
  refine mk_cal F hd.g_law_told_deed (F.bindsN fun _ _ _ _ _ _ us hl => match us, hl with | [_, _], _ => rfl) sc_law_told_deed (fun vs H Q E h => ?_) (fun cdv A outer s H vs Q E hr h => ?_)
  · obtain ⟨_, _, _, _, _, _, _, rfl, _⟩ := h; rfl
  · obtain ⟨φ, pa, a, c, d, ah, v, rfl, kp, h⟩ := h
    refine ⟨_, (pss_cons (ps_if (pt_cmpR op_eq (pe_ix ix_tup (pv 1) pe_int (fun _ _ => rfl)) pe_str (nomark _)) (pss_one (ps_ret (C8.pe_mt0 (cal_Keeper_back hd) hr (by first | decide | omega) (pv 0)))) pss_nil)
    (pss_cons (ps_if (pt_cmpR op_eq (pe_ix ix_tup (pv 1) pe_int (fun _ _ => rfl)) pe_str (nomark _)) (pss_one (ps_ret (C8.pe_mt (cal_Keeper_bound hd) hr (by first | decide | omega) (pv 0) (pa_cons (pe_ix ix_tup (pv 1) pe_int (fun _ _ => rfl)) pa_nil)))) pss_nil)
    (pss_cons (ps_if (pt_cmpR op_eq (pe_ix ix_tup (pv 1) pe_int (fun _ _ => rfl)) pe_str (nomark _)) (pss_one (ps_ret (C8.pe_mt (cal_Keeper_wider hd) hr (by first | decide | omega) (pv 0) (pa_cons (pe_ix ix_tup (pv 1) pe_int (fun _ _ => rfl)) pa_nil)))) pss_nil)
    (pss_cons (ps_set (i := 2) sc_law_told_deed.nd rfl (Or.inl rfl) (pe_callTy call_list_of (by rfl) hd.f_list (by decide +kernel) (pa_cons (pe_ix ix_tup (pv 1) pe_int (fun _ _ => rfl)) pa_nil)))
    (pss_cons (ps_set (i := 3) sc_law_told_deed.nd rfl (Or.inl rfl) (C8.pe_mt (cal_Keeper_more hd) hr (by first | decide | omega) (pv 0) (pa_cons (pv 2) (pa_cons (pe_ix ix_tup (pv 1) pe_int (fun _ _ => rfl)) pa_nil))))
    (pss_cons (ps_if (pt_cmpR (op_neD hr.units) (pv 2) (pe_ix ix_tup (pv 1) pe_int (fun _ _ => rfl)) (nomark _)) (pss_one (ps_ret (pe_tup (pa_cons pe_str pa_nil)))) pss_nil)
    (pss_cons (ps_expr (pe_bm0 PySem.F.plainAttrs_list PySem.F.slot_list_clear PySem.F.type_list_clear mt_clear (pv 2)))
    (pss_one (ps_ret (pv 3)))))))))), ?_⟩
    rcases h with ⟨e, ah', rfl, hl, ⟨t, rfl, ht⟩, k⟩ | ⟨o, ⟨t, rfl, ht⟩, hl, last, top, k⟩ | ⟨cap, ⟨t, rfl, ht⟩, wo, k⟩ | ⟨ms, p, L, ⟨t, am, vp, rfl, ht, ham, zam, hp⟩, mo, lv, k⟩
    · refine ⟨_, rfl, t, _, _, _, rfl, rfl, .of ht, tup0, rfl, _, rfl, ifT (by decide +kernel) ?_⟩
      exact ⟨_, rfl, _, _, _, rfl, kp.obj, rfl, φ, pa, a, c, d, e, ah', rfl, kp, hl, fun hm gl av H' f kp' => k hm gl av H' f kp'⟩
    · refine ⟨_, rfl, t, _, _, _, rfl, rfl, .of ht, tup0, rfl, _, rfl, ifF (by decide +kernel) ?_⟩
      refine ⟨_, rfl, t, _, _, _, rfl, rfl, .of ht, tup0, rfl, _, rfl, ifT (by decide +kernel) ?_⟩
      exact ⟨_, rfl, _, _, _, rfl, kp.obj, rfl, _, rfl, t, _, _, _, rfl, rfl, .of ht, tup1, φ, pa, a, c, d, ah, o, rfl, kp, hl, last, top, fun p u H' f kp' => k _ u H' f kp'⟩
    · refine ⟨_, rfl, t, _, _, _, rfl, rfl, .of ht, tup0, rfl, _, rfl, ifF (by decide +kernel) ?_⟩
      refine ⟨_, rfl, t, _, _, _, rfl, rfl, .of ht, tup0, rfl, _, rfl, ifF (by decide +kernel) ?_⟩
      refine ⟨_, rfl, t, _, _, _, rfl, rfl, .of ht, tup0, rfl, _, rfl, ifT (by decide +kernel) ?_⟩
      exact ⟨_, rfl, _, _, _, rfl, kp.obj, rfl, _, rfl, t, _, _, _, rfl, rfl, .of ht, tup1, φ, pa, a, c, d, ah, cap, rfl, kp, wo.ahl, wo.lt, wo.ok, wo.ol, wo.rd, wo.cur, wo.cul, wo.nms, Nat.le_trans wo.room (by decide), fun p u ncv nmv H' np f kp' hp => k p u ncv nmv H' np f kp' hp⟩
    · refine ⟨_, rfl, t, _, _, _, rfl, rfl, .of ht, tup0, rfl, _, rfl, ifF (by decide +kernel) ?_⟩
      refine ⟨_, rfl, t, _, _, _, rfl, rfl, .of ht, tup0, rfl, _, rfl, ifF (by decide +kernel) ?_⟩
      refine ⟨_, rfl, t, _, _, _, rfl, rfl, .of ht, tup0, rfl, _, rfl, ifF (by decide +kernel) ?_⟩
      refine ⟨_, rfl, t, _, _, _, rfl, rfl, .of ht, tup1, am, _, rfl, .inl (.of ham), fun p1 n1 => upd_new n1 fun H1 s1 q1 => ?_⟩
      have kp1 := kp.sm s1
      have ht1 := s1.at ht
      have n8 : ¬ PT 8 := fun z => by
        rcases z with z | z | z | z | ⟨i, z⟩
        · cases z
        · cases z
        · cases z
        · cases z
        · unfold tgP at z; omega
      have kp1' : KpAt K (updA φ p1 8) H1 pa a c d ah := (kp.mv (M := No) mo.ok.low mo.cur mo.aha .refl (fun _ z => z.elim) (Ext.one n1) fun _ _ => rfl).sm s1
      have lv1 : Live (updA φ p1 8) H1 := (lv.fm s1).one (live_of q1)
      refine ⟨_, rfl, _, _, _, rfl, kp1.obj, rfl, _, rfl, _, rfl, t, _, _, _, rfl, rfl, .of ht1, tup2, p1, vp, ms, p, L, updA φ p1 8, pa, a, c, d, ah, rfl, kp1', lv1, q1, hp.fm s1, mo, (by rw [updA_same]; exact n8), fun q u hm gl ncv nmv φ' pa' H2 nq ex2 lv2 hpa2 f2 kp2 hq => ?_⟩
      have z0 : ¬ PT (updA φ p1 8 p1) := by rw [updA_same]; exact n8
      have amp : am ≠ p1 := ne_live ham n1
      have za : ¬ PT (updA φ p1 8 am) := by rw [updA_ne amp]; exact fun z => z.ne zam
      have q2 := f2.at q1 z0
      have am2 := f2.at (s1.at ham) za
      have ht2 := f2.tups _ _ ht1
      refine ⟨_, rfl, _, rfl, t, _, _, _, rfl, rfl, .of ht2, tup1, .list (ms.map .int), .list (ms.map .int), .lst (.of q2) (dp_isV ms), .lst (.of am2) (dp_isV ms), shaped_ints ms, shaped_ints ms, _, rfl, ifF (by rw [eqv_ints]; rfl) ?_⟩
      refine ⟨_, rfl, .inl ⟨rfl, _, .of q2⟩, p1, _, rfl, rfl, q2, upd_put q2 no_lst fun H3 f3 q3 => ?_⟩
      have e8 : φ' p1 = 8 := by rw [ex2 p1 (live_of q1)]; exact updA_same
      have qp : q ≠ p1 := fun z => by rw [z, q1] at nq; cases nq
      have F2 : Fm (fun b => PT (φ b)) H H2 := (s1.to).step f2 fun b hb h => by
        rw [updA_ne fun z => hb (by rw [z]; exact n1)] at h; exact h
      refine ⟨_, rfl, k q u hm gl ncv nmv φ' pa' H3 (s1.free nq) (fun b hb => ?_) (lv2.fm f3) hpa2 (F2.over1 n1 f3) (kp2.fm f3 fun b hb => by rw [hb, e8]; exact ⟨by decide, n8⟩) (f3.at hq qp)⟩
      rw [ex2 b (s1.live b hb), updA_ne fun z => hb (by rw [z]; exact n1)]
end
end K59
set_option Elab.async false
set_option linter.all false
set_option maxRecDepth 100000
set_option maxHeartbeats 4000000
namespace K59
open PySem PySem.Spec PyProof.Rows L2
section
variable {P : Program} {w : World} {K : PySem.W.Frag} {mg : Str → Option Value} {base : Heap}
/-- what is drawn first -/
def FirstAt (φ : Addr → Nat) (H : Hp) (v : V) (ms : List Int) (cap : Nat) (ps : List Part) (fresh : Option Int) : Prop :=
  ∃ t am vp, v = .ref t ∧ H t = some (.tup [.ref am, iV cap, vp, oV fresh]) ∧ H am = some (.lst (isV ms)) ∧ φ am = 0 ∧ PartAt H vp (.sums ps)
theorem sc_law_first_things : FnScope ["_law_tape", "_law_most", "_law_part", "_law_first_new", "_law_many", "_law_deep", "_law_marks_here", "_law_mark"] ["_law_tape", "_law_most"] (defScope s_law_first_things) := ⟨rfl, rfl, rfl, by decide +kernel, rfl, by decide +kernel, by decide +kernel⟩
def spFirst : Sp := fun vs H Q _ => ∃ (t cl : Addr) (φ : Addr → Nat) (n : Nat), vs = [.ref t, iV 6] ∧ Tp φ H t cl n ∧ Live φ H ∧ n ≤ 1000 ∧
  ∀ v ms cap ps fresh H', Fm (· = t) H H' → Tp φ H' t cl (n + 100) → FirstAt φ H' v ms cap ps fresh → MarksOk ms → ms.length ≤ 6 → okD 10 (.sums ps) → (Part.sums ps).sz = ms.length → (Part.sums ps).nk ≤ 13 → 1 ≤ cap → cap ≤ 5 → (∀ x, fresh = some x → topI ms + 1 ≤ x) → Q v H'
theorem cal_law_first_things (hd : Hd K mg) : C8.Cal P w K mg base 18 "_law_first_things" spFirst [] := by
  obtain ⟨fd, F⟩ := hd.d_law_first_things
  refine mk_cal F hd.g_law_first_things (F.bindsN fun _ _ _ _ _ _ us hl => match us, hl with | [_, _], _ => rfl) sc_law_first_things (fun vs H Q E h => ?_) (fun cdv A outer s H vs Q E hr h => ?_)
  · obtain ⟨_, _, _, _, rfl, _⟩ := h; rfl
  · obtain ⟨t, cl, φ, n, rfl, tp, lv, hn, k⟩ := h
    refine ⟨_, (pss_cons (ps_par (i := 4) (j := 5) rfl sc_law_first_things.nd rfl rfl (by decide) rfl rfl (pa_cons (pe_op op_add pe_int (C8.pe_c (cal_law_draw hd) hr (by first | decide | omega) rfl (pa_cons (pv 0) (pa_cons (pv 1) pa_nil)))) (pa_cons pe_int pa_nil)) rfl)
    (pss_cons (ps_par (i := 6) (j := 2) rfl sc_law_first_things.nd rfl rfl (by decide) rfl rfl (pa_cons (C8.pe_c (cal_law_marks hd) hr (by first | decide | omega) rfl (pa_cons (pv 0) (pa_cons (pv 4) pa_nil))) (pa_cons (C8.pe_c (cal_law_sums hd) hr (by first | decide | omega) rfl (pa_cons (pv 0) (pa_cons (pv 4) (pa_cons (pv 5) pa_nil)))) pa_nil)) rfl)
    (pss_cons (ps_set (i := 2) sc_law_first_things.nd rfl (Or.inl rfl) (pe_ifExp (pt_cmpR (op_eqD hr.units) (pv 2) pe_int (nomark _)) (pe_tup (pa_cons pe_str (pa_cons (pv 2) pa_nil))) (pv 2)))
    (pss_cons (ps_set (i := 3) sc_law_first_things.nd rfl (Or.inl rfl) (pe_op op_add (pe_callB (cr_max rfl) (by rfl) hd.f_max (by decide +kernel) (pa_cons (pe_lc (own := [("_law_mark", 7)]) (g := (gName 7)) (tt := tYes) (te := (tCB bAbs (tCons (tVar 7) tNil))) rfl sc_law_first_things.nd (pi_list (pv 6)) (blkOk_by (N := ["_law_tape", "_law_most", "_law_part", "_law_first_new", "_law_many", "_law_deep", "_law_marks_here", "_law_mark"]) (sc := defScope s_law_first_things) (by decide +kernel)) (fun _ _ _ _ _ => (pg_name (i := 7) sc_law_first_things.nd rfl (Or.inl rfl))) (fun _ _ _ _ _ => pts_nil) (fun _ _ _ _ _ => (pe_callB call_abs (by rfl) hd.f_abs (by decide +kernel) (pa_cons (pv 7) pa_nil)))) pa_nil)) pe_int))
    (pss_one (ps_ret (pe_tup (pa_cons (pv 6) (pa_cons (pe_op op_add pe_int (C8.pe_c (cal_law_draw hd) hr (by first | decide | omega) rfl (pa_cons (pv 0) (pa_cons pe_int pa_nil)))) (pa_cons (pv 2) (pa_cons (C8.pe_c (cal_law_pick hd) hr (by first | decide | omega) rfl (pa_cons (pv 0) (pa_cons (pe_lst (pa_cons pe_non (pa_cons (pv 3) (pa_cons (pe_op op_add (pv 3) (C8.pe_c (cal_law_draw hd) hr (by first | decide | omega) rfl (pa_cons (pv 0) (pa_cons pe_int pa_nil)))) (pa_cons (pe_op op_pow pe_int pe_int) pa_nil))))) pa_nil))) pa_nil))))))))))), ?_⟩
    refine ⟨_, rfl, _, rfl, t, cl, 6, φ, n, rfl, tp, by omega, by decide, by decide, fun r1 H1 f1 tp1 hr1 => ?_⟩
    refine ⟨_, _, rfl, rfl, _, _, rfl, ?_⟩
    have em : ((1 + r1 : Nat) : Int) = 1 + (r1 : Int) := rfl
    refine ⟨_, rfl, _, rfl, t, cl, φ, n + 1, 1 + r1, rfl, tp1, by omega, by omega, by omega, fun am ms H2 f2 tp2 nam ham mo hml => ?_⟩
    have zam : φ am = 0 := lv.zero (f1.free nam)
    refine ⟨_, rfl, _, rfl, _, rfl, t, cl, φ, n + 1 + 20, 1 + r1, 1, rfl, tp2, by omega, by omega, by omega, by decide, by omega, fun vp p H3 f3 tp3 hp okp hsz hnk => ?_⟩
    have f13 : Fm (· = t) H H3 := (f1.trans f2).trans f3
    have am3 := f3.at ham (tp2.ne ham)
    refine ⟨_, _, rfl, ?_⟩
    refine ⟨_, rfl, p.dat, .int 1, hp.dp, .int 1, dat_shaped okp (by omega), rfl, _, rfl, ?_⟩
    cases p with
    | one =>
      refine ifT rfl ⟨_, rfl, szN, fun p4 n4 => upd_new n4 fun H4 s4 q4 => ?_⟩
      have hp4 : PartAt H4 (.ref p4) (.sums [.one]) := .tup q4 (.one (hp.fm s4))
      have ok4 : okD 10 (.sums [.one]) := ⟨by simp, by simp, fun q hq => by rw [List.mem_singleton.mp hq]; trivial⟩
      have sz4 : (Part.sums [Part.one]).sz = 1 + r1 := by rw [← hsz]; rfl
      have nk4 : (Part.sums [Part.one]).nk ≤ 13 := by decide
      have am4 := s4.at am3
      have tp4 := tp3.sm s4
      have hpos := mo.pos
      have f14 : Fm (· = t) H H4 := f13.trans s4.to
      refine ⟨_, rfl, am, rfl, ⟨_, .of am4⟩, lc_all walk_list (M := No) (fun i y H' => ∃ m, (ms.map absI)[i]? = some m ∧ y = .int m) (by rw [isV_len, sizeLine_eq]; omega) (fun _ z => z.elim) (fun H' f' => .of (Sm.at f' am4)) (fun i y N H H' h f => h) ?_ ?_⟩
      · rintro j y Hc Hd' Qy hj fc ⟨rfl, hy⟩ kq
        obtain ⟨m, hm, rfl⟩ := isV_get hy
        exact ⟨rfl, _, rfl, _, rfl, kq _ _ .refl ⟨absI m, by rw [List.getElem?_map, hm]; rfl, rfl⟩⟩
      rintro p5 zs H5 n5 s5 q5 hz5 hh5
      have s5 : Sm H4 H5 := s5
      have e5 := ext_isV (ns := ms.map absI) (by rw [hz5, isV_len, List.length_map]) hh5
      rw [e5] at q5
      refine ⟨p5, _, rfl, .of q5, by rw [List.length_map]; omega, fun m hm hle => ?_⟩
      have em := topI_eq hm hle
      subst em
      refine ⟨_, _, rfl, rfl, ?_⟩
      refine ⟨_, rfl, _, rfl, t, cl, 5, φ, _, rfl, tp4.sm s5, by omega, by decide, by decide, fun r6 H6 f6 tp6 hr6 => ?_⟩
      refine ⟨_, _, rfl, rfl, _, rfl, _, rfl, _, rfl, _, rfl, _, rfl, t, cl, 100, φ, _, rfl, tp6, by omega, by decide, by decide, fun r7 H7 f7 tp7 hr7 => ?_⟩
      refine ⟨_, _, rfl, rfl, _, _, rfl, rfl, ⟨by decide, by decide, by decide⟩, szN, fun p8 n8 => upd_new n8 fun H8 s8 q8 => ?_⟩
      refine ⟨t, cl, p8, φ, _, _, rfl, tp7.sm s8, by omega, q8, Nat.succ_pos _, by show 4 ≤ 1000; decide, fun i v H9 hv f9 tp9 => ?_⟩
      have fr : ∃ fresh : Option Int, v = oV fresh ∧ ∀ x, fresh = some x → topI ms + 1 ≤ x := by
        have hv := List.mem_of_getElem? hv
        simp only [List.mem_cons, List.not_mem_nil, or_false] at hv
        rcases hv with rfl | rfl | rfl | rfl
        · exact ⟨none, rfl, fun x z => nomatch z⟩
        · exact ⟨some (topI ms + 1), rfl, fun x z => by cases z; exact Int.le_refl _⟩
        · exact ⟨some (topI ms + 1 + (r7 : Int)), rfl, fun x z => by cases z; omega⟩
        · refine ⟨some ((10 : Int) ^ (10 : Int).toNat), rfl, fun x z => ?_⟩
          cases z
          have h1 : topI ms ≤ 1000000000 := by
            rcases (foldl_max (ms.map absI) 0).2.2 with e | e
            · show List.foldl _ _ _ ≤ _; rw [e]; decide
            · obtain ⟨y, hy, ey⟩ := List.mem_map.mp e
              have := mo.le y hy
              show List.foldl _ _ _ ≤ _
              rw [← ey]; exact this
          have h2 : (10 : Int) ^ (10 : Int).toNat = 10000000000 := by decide
          rw [h2]; omega
      obtain ⟨fresh, rfl, hfr⟩ := fr
      refine ⟨szN, fun p10 n10 => upd_new n10 fun H10 s10 q10 => ?_⟩
      have f49 : Fm (· = t) H4 H10 := ((((s5.to.trans f6).trans f7).trans s8.to).trans f9).trans s10.to
      refine k (.ref p10) ms (1 + r6) [.one] fresh H10 (f14.trans f49) ((tp9.sm s10).mono (by omega)) ⟨p10, am, _, rfl, ?_, f49.at am4 (tp4.ne am4), zam, hp4.fm f49⟩ mo (by omega) ok4 (by rw [sz4]; omega) nk4 (by omega) (by omega) hfr
      rw [q10]; rfl
    | sums ps =>
      refine ifF rfl ⟨_, rfl, ?_⟩
      have s4 : Sm H3 H3 := .refl
      have hp4 := hp
      have ok4 : okD 10 (.sums ps) := okp.le (by omega)
      have sz4 : (Part.sums ps).sz = 1 + r1 := hsz
      have nk4 : (Part.sums ps).nk ≤ 13 := by omega
      have am4 := s4.at am3
      have tp4 := tp3.sm s4
      have hpos := mo.pos
      have f14 : Fm (· = t) H H3 := f13.trans s4.to
      refine ⟨_, rfl, am, rfl, ⟨_, .of am4⟩, lc_all walk_list (M := No) (fun i y H' => ∃ m, (ms.map absI)[i]? = some m ∧ y = .int m) (by rw [isV_len, sizeLine_eq]; omega) (fun _ z => z.elim) (fun H' f' => .of (Sm.at f' am4)) (fun i y N H H' h f => h) ?_ ?_⟩
      · rintro j y Hc Hd' Qy hj fc ⟨rfl, hy⟩ kq
        obtain ⟨m, hm, rfl⟩ := isV_get hy
        exact ⟨rfl, _, rfl, _, rfl, kq _ _ .refl ⟨absI m, by rw [List.getElem?_map, hm]; rfl, rfl⟩⟩
      rintro p5 zs H5 n5 s5 q5 hz5 hh5
      have s5 : Sm H3 H5 := s5
      have e5 := ext_isV (ns := ms.map absI) (by rw [hz5, isV_len, List.length_map]) hh5
      rw [e5] at q5
      refine ⟨p5, _, rfl, .of q5, by rw [List.length_map]; omega, fun m hm hle => ?_⟩
      have em := topI_eq hm hle
      subst em
      refine ⟨_, _, rfl, rfl, ?_⟩
      refine ⟨_, rfl, _, rfl, t, cl, 5, φ, _, rfl, tp4.sm s5, by omega, by decide, by decide, fun r6 H6 f6 tp6 hr6 => ?_⟩
      refine ⟨_, _, rfl, rfl, _, rfl, _, rfl, _, rfl, _, rfl, _, rfl, t, cl, 100, φ, _, rfl, tp6, by omega, by decide, by decide, fun r7 H7 f7 tp7 hr7 => ?_⟩
      refine ⟨_, _, rfl, rfl, _, _, rfl, rfl, ⟨by decide, by decide, by decide⟩, szN, fun p8 n8 => upd_new n8 fun H8 s8 q8 => ?_⟩
      refine ⟨t, cl, p8, φ, _, _, rfl, tp7.sm s8, by omega, q8, Nat.succ_pos _, by show 4 ≤ 1000; decide, fun i v H9 hv f9 tp9 => ?_⟩
      have fr : ∃ fresh : Option Int, v = oV fresh ∧ ∀ x, fresh = some x → topI ms + 1 ≤ x := by
        have hv := List.mem_of_getElem? hv
        simp only [List.mem_cons, List.not_mem_nil, or_false] at hv
        rcases hv with rfl | rfl | rfl | rfl
        · exact ⟨none, rfl, fun x z => nomatch z⟩
        · exact ⟨some (topI ms + 1), rfl, fun x z => by cases z; exact Int.le_refl _⟩
        · exact ⟨some (topI ms + 1 + (r7 : Int)), rfl, fun x z => by cases z; omega⟩
        · refine ⟨some ((10 : Int) ^ (10 : Int).toNat), rfl, fun x z => ?_⟩
          cases z
          have h1 : topI ms ≤ 1000000000 := by
            rcases (foldl_max (ms.map absI) 0).2.2 with e | e
            · show List.foldl _ _ _ ≤ _; rw [e]; decide
            · obtain ⟨y, hy, ey⟩ := List.mem_map.mp e
              have := mo.le y hy
              show List.foldl _ _ _ ≤ _
              rw [← ey]; exact this
          have h2 : (10 : Int) ^ (10 : Int).toNat = 10000000000 := by decide
          rw [h2]; omega
      obtain ⟨fresh, rfl, hfr⟩ := fr
      refine ⟨szN, fun p10 n10 => upd_new n10 fun H10 s10 q10 => ?_⟩
      have f49 : Fm (· = t) H3 H10 := ((((s5.to.trans f6).trans f7).trans s8.to).trans f9).trans s10.to
      refine k (.ref p10) ms (1 + r6) ps fresh H10 (f14.trans f49) ((tp9.sm s10).mono (by omega)) ⟨p10, am, _, rfl, ?_, f49.at am4 (tp4.ne am4), zam, hp4.fm f49⟩ mo (by omega) ok4 (by rw [sz4]; omega) nk4 (by omega) (by omega) hfr
      rw [q10]; rfl
end
end K59
set_option Elab.async false
set_option linter.all false
set_option maxRecDepth 100000
set_option maxHeartbeats 4000000
namespace K59
open PySem PySem.Spec PyProof.Rows L2
section
variable {P : Program} {w : World} {K : PySem.W.Frag} {mg : Str → Option Value} {base : Heap}
theorem sc_law_made : FnScope ["_law_first", "_law_some", "_law_keeper", "_law_marks_here", "_law_cap", "_law_part", "_law_first_new"] ["_law_first"] (defScope s_law_made) := ⟨rfl, rfl, rfl, by decide +kernel, rfl, by decide +kernel, by decide +kernel⟩
def spMade : Sp := fun vs H Q _ => ∃ (φ : Addr → Nat) (v : V) (ms : List Int) (cap : Nat) (ps : List Part) (fresh : Option Int), vs = [v] ∧ FirstAt φ H v ms cap ps fresh ∧ Live φ H ∧ (∀ b, ¬ PT (φ b)) ∧ InitOk ms (.sums ps) cap fresh ∧
  ∀ φ' pa a H', Ext φ φ' H → Live φ' H' → Sm H H' → KpAt K φ' H' pa a (growAll cap (core0 ms (.sums ps) fresh) (newIx 0 ((Part.sums ps).gat ms g0).1.n)) (dyn0 ms (.sums ps) cap) [] → Q (.ref a.kp) H'
theorem nPT8 : ¬ PT 8 := fun z => by
  rcases z with z | z | z | z | ⟨i, z⟩
  · cases z
  · cases z
  · cases z
  · cases z
  · unfold tgP at z; omega
theorem cal_law_made (hd : Hd K mg) : C8.Cal P w K mg base 32 "_law_made" (spMade (K := K)) [] := by
  obtain ⟨fd2, g2, okK, kb⟩ := kb_Keeper (P := P) (w := w) (base := base) hd
  obtain ⟨fd, F⟩ := hd.d_law_made
  refine mk_cal F hd.g_law_made (F.bindsN fun _ _ _ _ _ _ us hl => match us, hl with | [_], _ => rfl) sc_law_made (fun vs H Q E h => ?_) (fun cdv A outer s H vs Q E hr h => ?_)
  · obtain ⟨_, _, _, _, _, _, rfl, _⟩ := h; rfl
  · obtain ⟨φ, v, ms, cap, ps, fresh, rfl, ⟨t, am, vp, rfl, ht, ham, zam, hp⟩, lv, hnp, o, k⟩ := h
    refine ⟨_, (pss_cons (ps_asg (pv 0) (pg_tup rfl (pgs_cons (pg_name (i := 3) sc_law_made.nd rfl (Or.inl rfl)) (pgs_cons (pg_name (i := 4) sc_law_made.nd rfl (Or.inl rfl)) (pgs_cons (pg_name (i := 5) sc_law_made.nd rfl (Or.inl rfl)) (pgs_cons (pg_name (i := 6) sc_law_made.nd rfl (Or.inl rfl)) pgs_nil))))))
    (pss_cons (ps_set (i := 1) sc_law_made.nd rfl (Or.inl rfl) (pe_callTy call_list_of (by rfl) hd.f_list (by decide +kernel) (pa_cons (pv 3) pa_nil)))
    (pss_cons (ps_set (i := 2) sc_law_made.nd rfl (Or.inl rfl) (pe_ifExp (pt_cmpR op_isN (pv 6) pe_non (nomark _)) (C8.pe_mk (cal_Keeper hd) hr (by first | decide | omega) rfl (pa_cons (pv 1) (pa_cons (pv 4) (pa_cons (pv 5) pa_nil)))) (pe_makeN hd.k_Keeper okK hr rfl hd.g_Keeper kb pass0 (pa_cons (pv 1) (pa_cons (pv 4) (pa_cons (pv 5) pa_nil))) (pk_cons (pv 6) pk_nil))))
    (pss_cons (ps_expr (pe_bm0 PySem.F.plainAttrs_list PySem.F.slot_list_clear PySem.F.type_list_clear mt_clear (pv 1)))
    (pss_one (ps_ret (pv 2))))))), ?_⟩
    refine ⟨_, rfl, t, _, rfl, .of ht, rfl, _, _, rfl, _, _, rfl, _, _, rfl, _, _, rfl, rfl, ?_⟩
    refine ⟨_, rfl, am, _, rfl, .inl (.of ham), fun p1 n1 => upd_new n1 fun H1 s1 q1 => ?_⟩
    have lv1 : Live (updA φ p1 8) H1 := (lv.fm s1).one (live_of q1)
    have np1 : ∀ b, ¬ PT (updA φ p1 8 b) := fun b => by
      by_cases e : b = p1
      · rw [e, updA_same]; exact nPT8
      · rw [updA_ne e]; exact hnp b
    have fin : ∀ φ' pa (a : KA) H2, Ext (updA φ p1 8) φ' H1 → Live φ' H2 → Sm H1 H2 → KpAt K φ' H2 pa a (growAll cap (core0 ms (.sums ps) fresh) (newIx 0 ((Part.sums ps).gat ms g0).1.n)) (dyn0 ms (.sums ps) cap) [] →
        H2 p1 = some (.lst (isV ms)) ∧ ∀ H3, Fm (· = p1) H2 H3 → Q (.ref a.kp) H3 := by
      intro φ' pa a H2 ex2 lv2 s2 kp2
      have e8 : φ' p1 = 8 := by rw [ex2 p1 (live_of q1)]; exact updA_same
      refine ⟨s2.at q1, fun H3 f3 => k φ' pa a H3 (fun b hb => ?_) (lv2.fm f3) ((s1.trans s2).over1 n1 f3) (kp2.fm f3 fun b hb => by rw [hb, e8]; exact ⟨by decide, nPT8⟩)⟩
      rw [ex2 b (s1.live b hb), updA_ne fun z => hb (by rw [z]; exact n1)]
    have hp1 := hp.fm s1
    cases hf : fresh with
    | none =>
      rw [hf] at fin o
      refine ⟨_, rfl, rfl, _, rfl, ifT rfl ?_⟩
      refine ⟨_, rfl, _, rfl, _, rfl, fun x dx nx ndx hdx => ?_⟩
      have nx' : upd H1 dx (.own x) x = none := by rw [upd_ne (Ne.symm hdx)]; exact nx
      refine ⟨H1, x, dx, p1, vp, cap, none, ms, ps, updA φ p1 8, rfl, upd_same, nx, (Fm.new ndx).trans (.new nx'), lv1, np1, q1, hp1, o, fun φ' pa a H2 ea ex2 lv2 s2 kp2 => ⟨rfl, ?_⟩⟩
      obtain ⟨q2, k2⟩ := fin φ' pa a H2 ex2 lv2 s2 kp2
      rw [ea] at k2
      exact ⟨_, rfl, .inl ⟨rfl, _, .of q2⟩, p1, _, rfl, rfl, q2, upd_put q2 no_lst fun H3 f3 q3 => ⟨_, rfl, k2 H3 f3⟩⟩
    | some n =>
      rw [hf] at fin o
      refine ⟨_, rfl, rfl, _, rfl, ifF rfl ?_⟩
      refine ⟨_, rfl, _, rfl, _, rfl, _, rfl, rfl, rfl, fun x dx nx ndx hdx => ?_⟩
      have nx' : upd H1 dx (.own x) x = none := by rw [upd_ne (Ne.symm hdx)]; exact nx
      refine ⟨H1, x, dx, p1, vp, cap, some n, ms, ps, updA φ p1 8, rfl, upd_same, nx, (Fm.new ndx).trans (.new nx'), lv1, np1, q1, hp1, o, fun φ' pa a H2 ea ex2 lv2 s2 kp2 => ⟨rfl, ?_⟩⟩
      obtain ⟨q2, k2⟩ := fin φ' pa a H2 ex2 lv2 s2 kp2
      rw [ea] at k2
      exact ⟨_, rfl, .inl ⟨rfl, _, .of q2⟩, p1, _, rfl, rfl, q2, upd_put q2 no_lst fun H3 f3 q3 => ⟨_, rfl, k2 H3 f3⟩⟩
theorem sc_law_model : FnScope ["_law_first", "_law_marks_here", "_law_cap", "_law_part", "_law_first_new", "_law_mark"] ["_law_first"] (defScope s_law_model) := ⟨rfl, rfl, rfl, by decide +kernel, rfl, by decide +kernel, by decide +kernel⟩
def spModel : Sp := fun vs H Q _ => ∃ (φ : Addr → Nat) (v : V) (ms : List Int) (cap : Nat) (ps : List Part) (fresh : Option Int), vs = [v] ∧ FirstAt φ H v ms cap ps fresh ∧ Live φ H ∧ (∀ b, ¬ LT (φ b)) ∧ InitOk ms (.sums ps) cap fresh ∧
  ∀ φ' pa a H', Ext φ φ' H → Live φ' H' → Sm H H' → MdAt φ' H' pa a (growAll cap (core0 ms (.sums ps) fresh) (newIx 0 ((Part.sums ps).gat ms g0).1.n)) (dyn0 ms (.sums ps) cap) [] → Q (.ref a.mh) H'
theorem cal_law_model (hd : Hd K mg) : C8.Cal P w K mg base 28 "_law_model" spModel [] := by
  obtain ⟨fd, F⟩ := hd.d_law_model
  refine mk_cal F hd.g_law_model (F.bindsN fun _ _ _ _ _ _ us hl => match us, hl with | [_], _ => rfl) sc_law_model (fun vs H Q E h => ?_) (fun cdv A outer s H vs Q E hr h => ?_)
  · obtain ⟨_, _, _, _, _, _, rfl, _⟩ := h; rfl
  · obtain ⟨φ, v, ms, cap, ps, fresh, rfl, ⟨t, am, vp, rfl, ht, ham, zam, hp⟩, lv, hnp, o, k⟩ := h
    refine ⟨_, (pss_cons (ps_asg (pv 0) (pg_tup rfl (pgs_cons (pg_name (i := 1) sc_law_model.nd rfl (Or.inl rfl)) (pgs_cons (pg_name (i := 2) sc_law_model.nd rfl (Or.inl rfl)) (pgs_cons (pg_name (i := 3) sc_law_model.nd rfl (Or.inl rfl)) (pgs_cons (pg_name (i := 4) sc_law_model.nd rfl (Or.inl rfl)) pgs_nil))))))
    (pss_one (ps_ret (C8.pe_c (cal_law_modelled hd) hr (by first | decide | omega) rfl (pa_cons (pv 1) (pa_cons (pv 2) (pa_cons (pv 3) (pa_cons (pe_ifExp (pt_cmpR op_isN (pv 4) pe_non (nomark _)) (pe_op op_add (pe_callB (cr_max rfl) (by rfl) hd.f_max (by decide +kernel) (pa_cons (pe_lc (own := [("_law_mark", 5)]) (g := (gName 5)) (tt := tYes) (te := (tCB bAbs (tCons (tVar 5) tNil))) rfl sc_law_model.nd (pi_list (pv 1)) (blkOk_by (N := ["_law_first", "_law_marks_here", "_law_cap", "_law_part", "_law_first_new", "_law_mark"]) (sc := defScope s_law_model) (by decide +kernel)) (fun _ _ _ _ _ => (pg_name (i := 5) sc_law_model.nd rfl (Or.inl rfl))) (fun _ _ _ _ _ => pts_nil) (fun _ _ _ _ _ => (pe_callB call_abs (by rfl) hd.f_abs (by decide +kernel) (pa_cons (pv 5) pa_nil)))) pa_nil)) pe_int) (pv 4)) pa_nil)))))))), ?_⟩
    have hml := o.mo.few
    have hpos := o.mo.pos
    refine ⟨_, rfl, t, _, rfl, .of ht, rfl, _, _, rfl, _, _, rfl, _, _, rfl, _, _, rfl, rfl, ?_⟩
    refine ⟨_, rfl, _, rfl, _, rfl, _, rfl, rfl, ?_⟩
    cases hf : fresh with
    | some n =>
      rw [hf] at k o
      refine ⟨_, rfl, ifF rfl ⟨_, rfl, am, vp, cap, some n, ms, ps, φ, rfl, lv, hnp, ham, hp, o, fun φ' pa a H' e l s _ m => k φ' pa a H' e l s m⟩⟩
    | none =>
      rw [hf] at k o
      refine ⟨_, rfl, ifT rfl ?_⟩
      refine ⟨_, rfl, am, rfl, ⟨_, .of ham⟩, lc_all walk_list (M := No) (fun i y H' => ∃ m, (ms.map absI)[i]? = some m ∧ y = .int m) (by rw [isV_len, sizeLine_eq]; omega) (fun _ z => z.elim) (fun H' f' => .of (Sm.at f' ham)) (fun i y N H H' h f => h) ?_ ?_⟩
      · rintro j y Hc Hd' Qy hj fc ⟨rfl, hy⟩ kq
        obtain ⟨m, hm, rfl⟩ := isV_get hy
        exact ⟨rfl, _, rfl, _, rfl, kq _ _ .refl ⟨absI m, by rw [List.getElem?_map, hm]; rfl, rfl⟩⟩
      rintro p5 zs H5 n5 s5 q5 hz5 hh5
      have s5 : Sm H H5 := s5
      have e5 := ext_isV (ns := ms.map absI) (by rw [hz5, isV_len, List.length_map]) hh5
      rw [e5] at q5
      refine ⟨p5, _, rfl, .of q5, by rw [List.length_map]; omega, fun m hm hle => ?_⟩
      have em := topI_eq hm hle
      subst em
      exact ⟨_, _, rfl, rfl, am, vp, cap, none, ms, ps, φ, rfl, lv.fm s5, hnp, s5.at ham, hp.fm s5, o, fun φ' pa a H' e l s _ m => k φ' pa a H' (fun b hb => e b (s5.live b hb)) l (s5.trans s) m⟩
end
end K59
set_option Elab.async false
set_option linter.all false
set_option maxRecDepth 100000
set_option maxHeartbeats 4000000
namespace K59
open PySem PySem.Spec PyProof.Rows L2
theorem DS.of_map (v : V) : ∀ ns : List Int, DS (ns.map fun n => ((Sum.inl n : Key), v)) ns
  | [] => .nil
  | n :: ns => by
    refine ⟨fun m => ?_, by simp⟩
    rw [List.map_cons]
    by_cases e : n = m
    · subst e; rw [valV_pos rfl]; simp
    · rw [valV_neg fun z => e (Sum.inl.inj z), (DS.of_map v ns).is]
      simp [Ne.symm e]
theorem sub_len : ∀ {l m : List Int}, l.Nodup → (∀ x ∈ l, x ∈ m) → l.length ≤ m.length
  | [], _, _, _ => Nat.zero_le _
  | x :: l, m, h, s => by
    rw [List.nodup_cons] at h
    have hx := s x (List.mem_cons_self ..)
    have h2 := sub_len (l := l) (m := m.erase x) h.2 fun y hy => (List.mem_erase_of_ne (fun z => h.1 (by rw [← z]; exact hy))).mpr (s y (List.mem_cons_of_mem _ hy))
    rw [List.length_erase_of_mem hx] at h2
    have := List.length_pos_of_mem hx
    rw [List.length_cons]; omega
def keysI (kvs : List (Key × V)) : List Int := kvs.map fun kv => match kv.1 with
  | .inl n => n
  | .inr _ => 0
theorem some_key {kvs : List (Key × V)} {n : Int} (h : (valV kvs (Sum.inl n : Key)).isSome = true) : n ∈ keysI kvs := by
  induction kvs with
  | nil => rw [valV_nil] at h; cases h
  | cons p r ih =>
    by_cases e : p.1 = Sum.inl n
    · refine List.mem_cons.mpr (.inl ?_)
      show n = (match p.1 with | .inl n => n | .inr _ => 0)
      rw [e]
    · rw [valV_neg e] at h
      exact List.mem_cons_of_mem _ (ih h)
/-- of so many unlike names some aren't there -/
theorem some_free {kvs : List (Key × V)} {ns l : List Int} (d : DS kvs ns) (nd : l.Nodup) (hl : kvs.length < l.length) : 0 < (l.filter fun n => decide (n ∉ ns)).length := by
  rcases Nat.eq_zero_or_pos (l.filter fun n => decide (n ∉ ns)).length with h | h
  · exfalso
    have e := List.eq_nil_of_length_eq_zero h
    have all : ∀ x ∈ l, x ∈ keysI kvs := fun x hx => by
      refine some_key ?_
      rw [d.is, decide_eq_true_eq]
      exact Classical.byContradiction fun z => by
        have : x ∈ l.filter fun n => decide (n ∉ ns) := List.mem_filter.mpr ⟨hx, decide_eq_true z⟩
        rw [e] at this
        exact absurd this List.not_mem_nil
    have := sub_len nd all
    unfold keysI at this
    rw [List.length_map] at this
    omega
  · exact h
theorem Rel.uncons {α : Type} {F : V → α → Prop} {v : V} {x : α} {vs : List V} {xs : List α} (r : Rel F (v :: vs) (x :: xs)) : F v x ∧ Rel F vs xs :=
  ⟨r.2 0 v x rfl rfl, by have := r.1; simpa using this, fun i w y a b => r.2 (i + 1) w y (by simpa using a) (by simpa using b)⟩
theorem pairs_of {K : PySem.W.Frag} {H : Hp} : ∀ {zs : List V} {ns : List Int}, Rel (fun y (n : Int) => ∃ q, y = .ref q ∧ H q = some (.tup [.int n, .bl true])) zs ns →
    ∃ ps : List Addr, zs = ps.map V.ref ∧ Paired (fun p (kv : Key × V) => SqT K H p [kV kv.1, kv.2]) ps (ns.map fun n => ((Sum.inl n : Key), V.bl true))
  | [], [], _ => ⟨[], rfl, .nil⟩
  | [], _ :: _, r => by have := r.1; simp at this
  | _ :: _, [], r => by have := r.1; simp at this
  | z :: zs, n :: ns, r => by
    obtain ⟨⟨q, e, h⟩, r2⟩ := r.uncons
    obtain ⟨ps, e2, h2⟩ := pairs_of r2
    exact ⟨q :: ps, by rw [e, e2]; rfl, .cons (.of h) h2⟩
theorem fil_eq {α : Type} (l : List α) (f : α → Bool) [hd : ∀ x, Decidable (f x = true)] : (List.range l.length).filterMap (fun i => match l[i]? with | some c => if f c = true then some c else none | none => none) = l.filter f := by
  induction l using snoc_ind with
  | h0 => rfl
  | hs l x ih =>
    rw [List.length_append, List.length_singleton, List.range_succ, List.filterMap_append, List.filter_append]
    congr 1
    · rw [← ih]
      refine fm_congr fun i hi => ?_
      rw [List.getElem?_append_left (by simpa using hi)]
    · simp only [List.filterMap_cons, List.filterMap_nil, List.filter_cons, List.filter_nil]
      rw [List.getElem?_append_right (Nat.le_refl _)]
      simp only [Nat.sub_self, List.getElem?_cons_zero]
      by_cases h : f x = true <;> simp [h]
section
variable {P : Program} {w : World} {K : PySem.W.Frag} {mg : Str → Option Value} {base : Heap}
theorem sc_law_more_marks : FnScope ["_law_tape", "_law_held", "_law_many", "_law_first", "_law_some", "_law_there_here", "_law_step", "_law_k", "_law_name"] ["_law_tape", "_law_held", "_law_many"] (defScope s_law_more_marks) := ⟨rfl, rfl, rfl, by decide +kernel, rfl, by decide +kernel, by decide +kernel⟩
def spMoreMarks : Sp := fun vs H Q _ => ∃ (t cl : Addr) (φ : Addr → Nat) (n : Nat) (pa : Nat → Addr × Addr) (a : MA) (c : Core) (d : Dyn) (ah : List Dyn) (many : Nat), vs = [.ref t, .ref a.mh, iV many] ∧ Tp φ H t cl n ∧ n ≤ 900000000 ∧ MdAt φ H pa a c d ah ∧ 1 ≤ many ∧ many ≤ 4 ∧ d.marks.length ≤ 60 ∧ c.names.length ≤ 3000 ∧ 1 ≤ c.coming ∧
  ∀ am ms H', H am = none → Fm (· = t) H H' → Tp φ H' t cl (n + 20) → H' am = some (.lst (isV ms)) → MarksOk ms → ms.length ≤ many → (∀ m ∈ ms, absI m ∉ d.marks.map absI ∧ absI m ∉ c.names) → Q (.ref am) H'
theorem cal_law_more_marks (hd : Hd K mg) : C8.Cal P w K mg base 3 "_law_more_marks" spMoreMarks [] := by
  obtain ⟨fd, F⟩ := hd.d_law_more_marks
  refine mk_cal F hd.g_law_more_marks (F.bindsN fun _ _ _ _ _ _ us hl => match us, hl with | [_, _, _], _ => rfl) sc_law_more_marks (fun vs H Q E h => ?_) (fun cdv A outer s H vs Q E hr h => ?_)
  · obtain ⟨_, _, _, _, _, _, _, _, _, _, rfl, _⟩ := h; rfl
  · obtain ⟨t, cl, φ, n, pa, a, c, d, ah, many, rfl, tp, hn, md, hm1, hm4, hml, hnl, hco, k⟩ := h
    refine ⟨_, (pss_cons (ps_asg (pe_tup (pa_cons (pe_callTy (call_dictP rfl) (by rfl) hd.f_dict (by decide +kernel) (pa_cons (pe_lc (own := [("_law_name", 8)]) (g := (gName 8)) (tt := tYes) (te := (tTup (tCons (tVar 8) (tCons (tC (V.bl true)) tNil)))) rfl sc_law_more_marks.nd (pi_list (C8.pe_c (cal_law_there hd) hr (by first | decide | omega) rfl (pa_cons (pv 1) pa_nil))) (blkOk_by (N := ["_law_tape", "_law_held", "_law_many", "_law_first", "_law_some", "_law_there_here", "_law_step", "_law_k", "_law_name"]) (sc := defScope s_law_more_marks) (by decide +kernel)) (fun _ _ _ _ _ => (pg_name (i := 8) sc_law_more_marks.nd rfl (Or.inl rfl))) (fun _ _ _ _ _ => pts_nil) (fun _ _ _ _ _ => (pe_tup (pa_cons (pv 8) (pa_cons pe_bl pa_nil))))) pa_nil)) (pa_cons (pe_op op_add pe_int (C8.pe_c (cal_law_draw hd) hr (by first | decide | omega) rfl (pa_cons (pv 0) (pa_cons pe_int pa_nil)))) pa_nil))) (pg_tup rfl (pgs_cons (pg_name (i := 5) sc_law_more_marks.nd rfl (Or.inr rfl)) (pgs_cons (pg_name (i := 6) sc_law_more_marks.nd rfl (Or.inr rfl)) pgs_nil))))
    (pss_cons (ps_set (i := 3) sc_law_more_marks.nd rfl (Or.inr rfl) (C8.pe_c (cal_law_pick hd) hr (by first | decide | omega) rfl (pa_cons (pv 0) (pa_cons (pe_op op_cat (pe_lst (pa_cons pe_int (pa_cons (pe_op op_add pe_int (C8.pe_c (cal_law_draw hd) hr (by first | decide | omega) rfl (pa_cons (pv 0) (pa_cons (pe_op op_pow pe_int pe_int) pa_nil)))) pa_nil))) (pe_op op_rep (pe_lst (pa_cons (pe_dget (hu_of hr) (pv 1) pe_str (fun _ _ => rfl)) pa_nil)) (pe_callTy call_int1 (by rfl) hd.f_int (by decide +kernel) (pa_cons (pe_cmpR op_lt (pe_dget (hu_of hr) (pv 1) pe_str (fun _ _ => rfl)) (pe_op op_pow pe_int pe_int) (nomark _)) pa_nil)))) pa_nil))))
    (pss_cons (ps_setLc (i := 4) (own := [("_law_k", 7)]) (g := (gName 7)) (tt := tYes) (te := (tOp (rI0 fun i j => V.int (i + j)) (tVar 3) (tOp (rI CMul fun i j => V.int (i * j)) (tVar 6) (tVar 7)))) rfl sc_law_more_marks.nd rfl rfl (sw_true rfl rfl rfl (by decide +kernel)) (pi_range1 rfl hd.f_range (pa_cons (pe_op op_add (pv 2) (pe_callB call_lenD (by rfl) hd.f_len PySem.boot_len (pa_cons (pv 5) pa_nil))) pa_nil)) (blkOk_by (N := ["_law_tape", "_law_held", "_law_many", "_law_first", "_law_some", "_law_there_here", "_law_step", "_law_k", "_law_name"]) (sc := defScope s_law_more_marks) (by decide +kernel)) (fun _ _ _ _ _ => (pg_name (i := 7) sc_law_more_marks.nd rfl (Or.inl rfl))) (fun _ _ _ _ _ => pts_nil) (fun _ _ _ _ _ => (pe_op op_add (pv 3) (pe_op op_mul (pv 6) (pv 7)))))
    (pss_cons (ps_if (pt_cmpR op_eq (C8.pe_c (cal_law_draw hd) hr (by first | decide | omega) rfl (pa_cons (pv 0) (pa_cons pe_int pa_nil))) pe_int (nomark _)) (pss_one (ps_setLc (i := 4) (own := [("_law_k", 7)]) (g := (gName 7)) (tt := tYes) (te := (tOp (rI0 fun i j => V.int (i - j)) (tOp (rI CPow fun i j => V.int (i ^ j.toNat)) (tC (V.int 10)) (tC (V.int 9))) (tOp (rI CMul fun i j => V.int (i * j)) (tVar 6) (tVar 7)))) rfl sc_law_more_marks.nd rfl rfl (sw_true rfl rfl rfl (by decide +kernel)) (pi_range1 rfl hd.f_range (pa_cons (pe_op op_add (pv 2) (pe_callB call_lenD (by rfl) hd.f_len PySem.boot_len (pa_cons (pv 5) pa_nil))) pa_nil)) (blkOk_by (N := ["_law_tape", "_law_held", "_law_many", "_law_first", "_law_some", "_law_there_here", "_law_step", "_law_k", "_law_name"]) (sc := defScope s_law_more_marks) (by decide +kernel)) (fun _ _ _ _ _ => (pg_name (i := 7) sc_law_more_marks.nd rfl (Or.inl rfl))) (fun _ _ _ _ _ => pts_nil) (fun _ _ _ _ _ => (pe_op op_sub (pe_op op_pow pe_int pe_int) (pe_op op_mul (pv 6) (pv 7)))))) pss_nil)
    (pss_cons (ps_set (i := 4) sc_law_more_marks.nd rfl (Or.inl rfl) (pe_slice sl_list (pe_lc (own := [("_law_name", 8)]) (g := (gName 8)) (tt := (tB (tDNotIn (tVar 8) (tVar 5)))) (te := (tVar 8)) rfl sc_law_more_marks.nd (pi_list (pv 4)) (blkOk_by (N := ["_law_tape", "_law_held", "_law_many", "_law_first", "_law_some", "_law_there_here", "_law_step", "_law_k", "_law_name"]) (sc := defScope s_law_more_marks) (by decide +kernel)) (fun _ _ _ _ _ => (pg_name (i := 8) sc_law_more_marks.nd rfl (Or.inl rfl))) (fun _ _ _ _ _ => (pts_one (pt_cmp (pc_dnotin (hu_of hr) (pv 8) (pv 5))))) (fun _ _ _ _ _ => (pv 8))) po_none (po_some (pv 2))))
    (pss_one (ps_ret (pe_lc (own := [("_law_name", 8)]) (g := (gName 8)) (tt := tYes) (te := (tCall _ _ C8.E0 (tCons (tVar 0) (tCons (tLst (tCons (tVar 8) (tCons (tOp (rI0 fun i j => V.int (i - j)) (tC (V.int 0)) (tVar 8)) tNil))) tNil)))) rfl sc_law_more_marks.nd (pi_list (pv 4)) (blkOk_by (N := ["_law_tape", "_law_held", "_law_many", "_law_first", "_law_some", "_law_there_here", "_law_step", "_law_k", "_law_name"]) (sc := defScope s_law_more_marks) (by decide +kernel)) (fun _ _ _ _ _ => (pg_name (i := 8) sc_law_more_marks.nd rfl (Or.inl rfl))) (fun _ _ _ _ _ => pts_nil) (fun _ _ _ _ _ => (C8.pe_c (cal_law_pick hd) hr (by first | decide | omega) rfl (pa_cons (pv 0) (pa_cons (pe_lst (pa_cons (pv 8) (pa_cons (pe_op op_sub pe_int (pv 8)) pa_nil))) pa_nil)))))))))))), ?_⟩
    obtain ⟨ns, hns⟩ : ∃ ns, ns = d.marks.map absI ++ c.names := ⟨_, rfl⟩
    have hnsl : ns.length ≤ 3060 := by rw [hns, List.length_append, List.length_map]; omega
    refine ⟨_, rfl, φ, pa, a, c, d, ah, rfl, md, by omega, by omega, fun p1 H1 n1 s1 q1 => ?_⟩
    rw [← hns] at q1
    refine ⟨p1, rfl, ⟨_, .of q1⟩, lc_all walk_list (M := No) (fun i y H' => ∃ m, ns[i]? = some m ∧ ∃ q, y = .ref q ∧ H' q = some (.tup [.int m, .bl true])) (by rw [isV_len, sizeLine_eq]; omega) (fun _ z => z.elim) (fun H' f' => .of (Sm.at f' q1)) (fun i y N H H' ⟨m, e, q, e2, h⟩ f => ⟨m, e, q, e2, f.tups _ _ h⟩) ?_ ?_⟩
    · rintro j y Hc Hd' Qy hj fc ⟨rfl, hy⟩ kq
      obtain ⟨m, hm, rfl⟩ := isV_get hy
      exact ⟨rfl, _, rfl, szN, fun p np => upd_new np fun H4 s4 q4 => kq _ H4 s4 ⟨m, hm, p, rfl, q4⟩⟩
    rintro p2 zs H2 n2 s2 q2 hz2 hh2
    have s2 : Sm H1 H2 := s2
    obtain ⟨ps, e2, hps⟩ := pairs_of (K := K) (H := H2) (zs := zs) (ns := ns) ⟨by rw [hz2, isV_len], fun i v x hv hx => by
      obtain ⟨m, e, h⟩ := hh2 i v hv
      rw [hx] at e
      cases e
      exact h⟩
    rw [e2] at q2
    refine ⟨p2, ps, _, rfl, .of q2, hps, fun p3 n3 => upd_new n3 fun H3 s3 q3 => ?_⟩
    have ds : DS (mergeK [] (ns.map fun n => ((Sum.inl n : Key), V.bl true))) ns := by
      have := DS.nil.merge (DS.of_map (V.bl true) ns)
      rwa [List.nil_append] at this
    obtain ⟨kvs, hkv⟩ : ∃ kvs, kvs = mergeK [] (ns.map fun n => ((Sum.inl n : Key), V.bl true)) := ⟨_, rfl⟩
    rw [← hkv] at q3 ds
    have f3 : Sm H H3 := (s1.trans s2).trans s3
    have tp3 := tp.sm f3
    have md3 := md.sm f3
    refine ⟨_, rfl, t, cl, 3, φ, n, rfl, tp3, by omega, by decide, by decide, fun r4 H4 f4 tp4 hr4 => ?_⟩
    refine ⟨_, _, rfl, rfl, szN, fun p5 n5 => upd_new n5 fun H5 s5 q5 => ?_⟩
    refine ⟨p5, _, rfl, .of q5, rfl, _, _, rfl, _, _, rfl, rfl, ?_⟩
    have ht3 : p3 ≠ t := fun z => (tp.sm (s1.trans s2)).tl (by rw [← z]; exact n3)
    have mh4 : ∀ {H' : Hp}, Fm (· = t) H3 H' → H' a.mh = some (mhO a c d) := fun f => f.at md3.obj (ntag md3.t1 tp3.tag (by decide))
    have f35 : Fm (· = t) H3 H5 := f4.trans s5.to
    have tp5 := tp4.sm s5
    have e106 : (10 : Int) ^ (6 : Int).toNat = ((1000000 : Nat) : Int) := by decide
    have e108 : (10 : Int) ^ (8 : Int).toNat = 100000000 := by decide
    have e109 : (10 : Int) ^ (9 : Int).toNat = 1000000000 := by decide
    -- the first
    refine ⟨_, rfl, _, rfl, _, _, rfl, rfl, ⟨by decide, by decide, by decide⟩, t, cl, 1000000, φ, _, (by show [V.ref t, V.int ((10 : Int) ^ (6 : Int).toNat)] = _; rw [e106]), tp5, by omega, by decide, by decide, fun r6 H6 f6 tp6 hr6 => ?_⟩
    have f36 : Fm (· = t) H3 H6 := f35.trans f6
    refine ⟨_, _, rfl, rfl, szN, fun p7 n7 => upd_new n7 fun H7 s7 q7 => ?_⟩
    have f37 : Fm (· = t) H3 H7 := f36.trans s7.to
    refine ⟨_, rfl, a.mh, _, rfl, mh_coming (mh4 f37), szN, fun p8 n8 => upd_new n8 fun H8 s8 q8 => ?_⟩
    have f38 : Fm (· = t) H3 H8 := f37.trans s8.to
    refine ⟨_, rfl, a.mh, _, rfl, mh_coming (mh4 f38), _, _, rfl, rfl, ⟨by decide, by decide, by decide⟩, _, _, rfl, rfl, .inr ⟨_, rfl, ?_⟩⟩
    rw [e108]
    obtain ⟨b, hb⟩ : ∃ b, b = decide (c.coming < 100000000) := ⟨_, rfl⟩
    refine ⟨p8, (if b = true then 1 else 0), _, rfl, by rw [hb], q8, by split <;> omega, by split <;> omega, ?_, fun p9 n9 => upd_new n9 fun H9 s9 q9 => ?_⟩
    · show 1 * _ ≤ _
      rw [sizeLine_eq]; split <;> decide
    have rl : (List.replicate (if b = true then (1 : Int) else 0).toNat [V.int c.coming]).flatten = if b = true then [V.int c.coming] else [] := by cases b <;> rfl
    rw [rl] at q9
    refine ⟨p7, p9, _, _, rfl, rfl, s9.at (s8.at q7), q9, ?_, fun p10 n10 => upd_new n10 fun H10 s10 q10 => ?_⟩
    · rw [sizeLine_eq]
      show 2 + _ ≤ _
      split <;> simp
    refine ⟨t, cl, p10, φ, _, _, rfl, ((tp6.sm s7).sm s8).sm s9 |>.sm s10, by omega, q10, Nat.succ_pos _, ?_, fun i11 v11 H11 hv11 f11 tp11 => ?_⟩
    · rw [List.length_append]
      split <;> simp
    have fst : ∃ fi : Nat, v11 = iV fi ∧ 1 ≤ fi ∧ fi ≤ 100000000 := by
      have hv := List.mem_of_getElem? hv11
      rcases List.mem_append.mp hv with hv | hv
      · simp only [List.mem_cons, List.not_mem_nil, or_false] at hv
        rcases hv with rfl | rfl
        · exact ⟨1, rfl, by decide, by decide⟩
        · exact ⟨1 + r6, rfl, by omega, by omega⟩
      · cases hb' : b with
        | false => rw [hb'] at hv; exact absurd hv List.not_mem_nil
        | true =>
          rw [hb'] at hv
          have hv := List.mem_singleton.mp hv
          rw [hb'] at hb
          have hlt := of_decide_eq_true hb.symm
          exact ⟨c.coming.toNat, by rw [hv]; exact congrArg V.int (by omega), by omega, by omega⟩
    obtain ⟨fi, rfl, hfi1, hfi2⟩ := fst
    have f311 : Fm (· = t) H3 H11 := ((f38.trans s9.to).trans s10.to).trans f11
    have q311 := f311.at q3 ht3
    have hkl : kvs.length ≤ 3060 := Nat.le_trans ds.le hnsl
    obtain ⟨N, hN⟩ : ∃ N, N = many + kvs.length := ⟨_, rfl⟩
    refine ⟨_, rfl, _, rfl, p3, kvs, rfl, q311, _, _, rfl, rfl, (N : Int), by rw [hN]; rfl, by omega, by omega, lc_all (walk_range (n := N)) (M := No) (fun i y H' => y = iV (fi + (1 + r4) * i)) (by rw [sizeLine_eq]; omega) (fun _ z => z.elim) (fun H' f' => trivial) (fun i y N H H' h f => h) ?_ ?_⟩
    · rintro i y Ha Hb Qy hi fa yy kq
      obtain ⟨e2, e1⟩ := yy
      have e1 : y = iV i := by rw [e1]; exact congrArg V.int (Int.zero_add _)
      subst e1 e2
      refine ⟨rfl, _, rfl, _, rfl, _, rfl, _, _, rfl, rfl, .inl ⟨by omega, by omega⟩, _, _, rfl, rfl, kq _ _ .refl rfl⟩
    rintro p12 zs12 H12 n12 s12 q12 hz12 hh12
    have s12 : Sm H11 H12 := s12
    have ezs : zs12 = isV ((List.range N).map fun (i : Nat) => (fi : Int) + (1 + (r4 : Int)) * (i : Int)) := by
      refine ext_isV (by rw [hz12]; simp) fun i y hy => ?_
      have hil := (List.getElem?_eq_some_iff.mp hy).1
      rw [hz12] at hil
      refine ⟨_, by rw [List.getElem?_map, List.getElem?_range hil]; rfl, ?_⟩
      rw [hh12 i y hy]; rfl
    rw [ezs] at q12
    have hmulN : ∀ i : Nat, i < N → (1 + (r4 : Int)) * (i : Int) ≤ 3 * 3064 ∧ 0 ≤ (1 + (r4 : Int)) * (i : Int) := by
      intro i hi
      have h1 : (1 + r4) * i ≤ 3 * 3064 := Nat.mul_le_mul (by omega) (by omega)
      have e : (1 + (r4 : Int)) * (i : Int) = (((1 + r4) * i : Nat) : Int) := rfl
      rw [e]; omega
    have hinj : ∀ i j : Nat, (1 + (r4 : Int)) * (i : Int) = (1 + (r4 : Int)) * (j : Int) → i = j := by
      intro i j h
      have h : (((1 + r4) * i : Nat) : Int) = (((1 + r4) * j : Nat) : Int) := h
      exact Nat.eq_of_mul_eq_mul_left (by omega) (by omega : (1 + r4) * i = (1 + r4) * j)
    have tp12 := tp11.sm s12
    have f312 : Fm (· = t) H3 H12 := f311.trans s12.to
    refine ⟨_, rfl, t, cl, 6, φ, _, rfl, tp12, by omega, by decide, by decide, fun r13 H13 f13 tp13 hr13 => ?_⟩
    have q12' := f13.at q12 (tp12.ne q12)
    have f313 : Fm (· = t) H3 H13 := f312.trans f13
    have q313 := f313.at q3 ht3
    refine ⟨rfl, _, rfl, ite2 (fun c0 => ?pos) (fun c0 => ?neg)⟩
    case' pos =>
      refine ⟨_, rfl, _, rfl, p3, kvs, rfl, q313, _, _, rfl, rfl, (N : Int), by rw [hN]; rfl, by omega, by omega, lc_all (walk_range (n := N)) (M := No) (fun i y H' => y = .int (1000000000 - (1 + (r4 : Int)) * (i : Int))) (by rw [sizeLine_eq]; omega) (fun _ z => z.elim) (fun H' f' => trivial) (fun i y N H H' h f => h) ?_ ?_⟩
      · rintro i y Ha Hb Qy hi fa yy kq
        obtain ⟨e2, e1⟩ := yy
        have e1 : y = iV i := by rw [e1]; exact congrArg V.int (Int.zero_add _)
        subst e1 e2
        refine ⟨rfl, _, _, rfl, rfl, ⟨by decide, by decide, by decide⟩, _, rfl, _, rfl, _, _, rfl, rfl, .inl ⟨by omega, by omega⟩, _, _, rfl, rfl, kq _ _ .refl ?_⟩
        exact congrArg (fun z => V.int (z - (1 + (r4 : Int)) * (i : Int))) e109
      rintro p14 zs14 H14 n14 s14 q14 hz14 hh14
      have s14 : Sm H13 H14 := s14
      have ezs14 : zs14 = isV ((List.range N).map fun (i : Nat) => 1000000000 - (1 + (r4 : Int)) * (i : Int)) := by
        refine ext_isV (by rw [hz14]; simp) fun i y hy => ?_
        have hil := (List.getElem?_eq_some_iff.mp hy).1
        rw [hz14] at hil
        exact ⟨_, by rw [List.getElem?_map, List.getElem?_range hil]; rfl, hh14 i y hy⟩
      rw [ezs14] at q14
      have hnd : ((List.range N).map fun (i : Nat) => 1000000000 - (1 + (r4 : Int)) * (i : Int)).Nodup := nodup_of_idx fun i j x hij hi hj => by
        have li := (List.getElem?_eq_some_iff.mp hi).1
        have lj := (List.getElem?_eq_some_iff.mp hj).1
        rw [List.length_map, List.length_range] at li lj
        rw [List.getElem?_map, List.getElem?_range li] at hi
        rw [List.getElem?_map, List.getElem?_range lj] at hj
        have e : (1000000000 : Int) - (1 + (r4 : Int)) * (i : Int) = 1000000000 - (1 + (r4 : Int)) * (j : Int) := (Option.some.inj hi).trans (Option.some.inj hj).symm
        have := hinj i j (by omega)
        omega
      have hrg : ∀ x ∈ ((List.range N).map fun (i : Nat) => 1000000000 - (1 + (r4 : Int)) * (i : Int)), 1 ≤ x ∧ x ≤ 1000000000 := fun x hx => by
        obtain ⟨i, hi, rfl⟩ := List.mem_map.mp hx
        have := hmulN i (List.mem_range.mp hi)
        omega
      replace f313 : Fm (· = t) H3 H14 := f313.trans s14.to
      replace tp13 := tp13.sm s14
      replace q12' := q14
      have hll : ((List.range N).map fun (i : Nat) => 1000000000 - (1 + (r4 : Int)) * (i : Int)).length = N := by simp
      obtain ⟨l, hl⟩ : ∃ l, l = ((List.range N).map fun (i : Nat) => 1000000000 - (1 + (r4 : Int)) * (i : Int)) := ⟨_, rfl⟩
      rw [← hl] at hnd hrg q12' hll
      have hfree := some_free ds hnd (by omega)
      have q3x := f313.at q3 ht3
      refine ⟨_, rfl, p14, rfl, ⟨_, .of q12'⟩, lc_fil walk_list (M := No) (fun H v (m : Int) => v = .int m) (fun i => match l[i]? with | some m => if m ∉ ns then some m else none | none => none) (by rw [isV_len, hll, sizeLine_eq]; omega) (fun _ z => z.elim) (fun H' f' => .of (Sm.at f' q12')) (fun _ _ _ _ _ h _ => h) ?_ ?_⟩
      · rintro i x Ha Hb Qy Qn hi fa ⟨rfl, hx⟩ ky kn
        obtain ⟨m, hm, rfl⟩ := isV_get hx
        refine ⟨rfl, _, rfl, _, rfl, p3, _, rfl, DGet.k (k := Sum.inl m) (Sm.at fa q3x), _, rfl, ?_⟩
        rw [ds.is]
        by_cases hmn : m ∈ ns
        · rw [decide_eq_true hmn]
          exact ifF rfl (kn _ (by rw [hm]; exact if_neg fun z => z hmn) .refl)
        · rw [decide_eq_false hmn]
          exact ifT rfl ⟨_, rfl, ky _ m _ (by rw [hm]; exact if_pos hmn) .refl rfl⟩
      rintro p15 zs15 H15 n15 s15 q15 hz15
      have s15 : Sm H14 H15 := s15
      have efil : (List.range (isV l).length).filterMap (fun i => match l[i]? with | some m => if m ∉ ns then some m else none | none => none) = l.filter fun n => decide (n ∉ ns) := by
        rw [isV_len]
        rw [← fil_eq l fun n => decide (n ∉ ns)]
        refine fm_congr fun i _ => ?_
        cases l[i]? with
        | none => rfl
        | some m => by_cases h : m ∈ ns <;> simp [h]
      rw [efil] at hz15
      have ez15 := hz15.eq_map (g := V.int)
      obtain ⟨F, hF⟩ : ∃ F, F = (l.filter fun n => decide (n ∉ ns)).take many := ⟨_, rfl⟩
      refine ⟨_, rfl, _, rfl, p15, _, rfl, .of q15, fun p16 n16 => upd_new n16 fun H16 s16 q16 => ?_⟩
      have q16' : H16 p16 = some (.lst (isV F)) := by
        rw [q16, ez15, hF]
        exact congrArg (fun z => some (HO.lst z)) ((cut_take _ many).trans (isV_take _ many))
      have hFl : F.length ≤ many := by rw [hF, List.length_take]; omega
      have hF0 : 0 < F.length := by rw [hF, List.length_take]; omega
      have hFm : ∀ x ∈ F, x ∉ ns ∧ 1 ≤ x ∧ x ≤ 1000000000 := fun x hx => by
        rw [hF] at hx
        have h := List.mem_filter.mp (List.mem_of_mem_take hx)
        exact ⟨of_decide_eq_true h.2, hrg x h.1⟩
      have hFn : F.Nodup := by rw [hF]; exact (hnd.filter _).sublist (List.take_sublist _ _)
      have tp16 := (tp13.sm s15).sm s16
      have np16 : p16 ≠ t := tp16.ne q16'
      refine ⟨_, rfl, p16, rfl, ⟨_, .of q16'⟩, lc_inv walk_list (M := (· = t)) (fun i y H' => ∃ m x : Int, y = .int m ∧ F[i]? = some x ∧ absI m = x) (fun i H' => Tp φ H' t cl (n + 4 + i)) (by rw [isV_len, sizeLine_eq]; omega) (fun b hb => by rw [hb]; exact tp16.tl) (fun H' f' => .of (f'.at q16' np16)) (fun i y N H H' h f => h) tp16 (fun i D Ha Hb nD h f => Tp.new tp16 nD h f) ?_ ?_⟩
      · rintro i x Ha Hb Qy hi fa ia ⟨rfl, hx⟩ kq
        obtain ⟨m, hm, rfl⟩ := isV_get hx
        have hmr := hFm m (List.mem_of_getElem? hm)
        have hil := (List.getElem?_eq_some_iff.mp hm).1
        refine ⟨rfl, _, rfl, _, rfl, _, rfl, _, _, rfl, rfl, szN, fun p np => upd_new np fun Hc sc qc => ?_⟩
        refine ⟨t, cl, p, φ, _, _, rfl, ia.sm sc, by omega, qc, Nat.succ_pos _, by show 2 ≤ 1000; decide, fun u v Hd' hv fd' td => ?_⟩
        have hv := List.mem_of_getElem? hv
        simp only [List.mem_cons, List.not_mem_nil, or_false] at hv
        rcases hv with rfl | rfl
        · exact kq _ Hd' (sc.to.trans fd') td ⟨m, m, rfl, hm, by unfold absI; rw [if_neg (by omega)]⟩
        · exact kq _ Hd' (sc.to.trans fd') td ⟨0 - m, m, rfl, hm, by unfold absI; rw [if_pos (by omega)]; omega⟩
      rintro p17 ws H17 n17 f17 i17 q17 hz17 hh17
      rw [isV_len] at hz17 i17
      obtain ⟨ms, rfl⟩ : ∃ ms : List Int, ws = isV ms := by
        refine ⟨ws.map fun v => match v with | .int m => m | _ => 0, ?_⟩
        refine List.ext_getElem? fun i => ?_
        show _ = ((ws.map _).map V.int)[i]?
        rw [List.getElem?_map, List.getElem?_map]
        cases e : ws[i]? with
        | none => rfl
        | some y =>
          obtain ⟨m, x, rfl, _⟩ := hh17 i y e
          rfl
      rw [isV_len] at hz17
      have habs : ms.map absI = F := by
        refine List.ext_getElem? fun i => ?_
        rw [List.getElem?_map]
        cases e : ms[i]? with
        | none =>
          have := List.getElem?_eq_none_iff.mp e
          rw [List.getElem?_eq_none (by omega)]; rfl
        | some m =>
          obtain ⟨m', x, e1, e2, e3⟩ := hh17 i (.int m) (by rw [List.getElem?_map, e]; rfl)
          cases e1
          rw [e2, ← e3]; rfl
      have hin : ∀ m ∈ ms, absI m ∈ F := fun m hm => by rw [← habs]; exact List.mem_map_of_mem hm
      have f317 : Fm (· = t) H3 H17 := ((f313.trans s15.to).trans s16.to).trans f17
      have f017 : Fm (· = t) H H17 := f3.to.trans f317
      have n0 : H p17 = none := f3.free (((f313.trans s15.to).trans s16.to).free n17)
      refine k p17 ms H17 n0 f017 (i17.mono (by omega)) q17 ⟨by omega, by omega, by rw [habs]; exact hFn, fun m hm => (hFm _ (hin m hm)).2.2⟩ (by omega) fun m hm => ?_
      have h := (hFm _ (hin m hm)).1
      rw [hns] at h
      exact ⟨fun z => h (List.mem_append.mpr (.inl z)), fun z => h (List.mem_append.mpr (.inr z))⟩
    case' neg =>
      have hnd : ((List.range N).map fun (i : Nat) => (fi : Int) + (1 + (r4 : Int)) * (i : Int)).Nodup := nodup_of_idx fun i j x hij hi hj => by
        have li := (List.getElem?_eq_some_iff.mp hi).1
        have lj := (List.getElem?_eq_some_iff.mp hj).1
        rw [List.length_map, List.length_range] at li lj
        rw [List.getElem?_map, List.getElem?_range li] at hi
        rw [List.getElem?_map, List.getElem?_range lj] at hj
        have e : (fi : Int) + (1 + (r4 : Int)) * (i : Int) = (fi : Int) + (1 + (r4 : Int)) * (j : Int) := (Option.some.inj hi).trans (Option.some.inj hj).symm
        have := hinj i j (by omega)
        omega
      have hrg : ∀ x ∈ ((List.range N).map fun (i : Nat) => (fi : Int) + (1 + (r4 : Int)) * (i : Int)), 1 ≤ x ∧ x ≤ 1000000000 := fun x hx => by
        obtain ⟨i, hi, rfl⟩ := List.mem_map.mp hx
        have := hmulN i (List.mem_range.mp hi)
        omega
      have hll : ((List.range N).map fun (i : Nat) => (fi : Int) + (1 + (r4 : Int)) * (i : Int)).length = N := by simp
      obtain ⟨l, hl⟩ : ∃ l, l = ((List.range N).map fun (i : Nat) => (fi : Int) + (1 + (r4 : Int)) * (i : Int)) := ⟨_, rfl⟩
      rw [← hl] at hnd hrg q12' hll
      have hfree := some_free ds hnd (by omega)
      have q3x := f313.at q3 ht3
      refine ⟨_, rfl, p12, rfl, ⟨_, .of q12'⟩, lc_fil walk_list (M := No) (fun H v (m : Int) => v = .int m) (fun i => match l[i]? with | some m => if m ∉ ns then some m else none | none => none) (by rw [isV_len, hll, sizeLine_eq]; omega) (fun _ z => z.elim) (fun H' f' => .of (Sm.at f' q12')) (fun _ _ _ _ _ h _ => h) ?_ ?_⟩
      · rintro i x Ha Hb Qy Qn hi fa ⟨rfl, hx⟩ ky kn
        obtain ⟨m, hm, rfl⟩ := isV_get hx
        refine ⟨rfl, _, rfl, _, rfl, p3, _, rfl, DGet.k (k := Sum.inl m) (Sm.at fa q3x), _, rfl, ?_⟩
        rw [ds.is]
        by_cases hmn : m ∈ ns
        · rw [decide_eq_true hmn]
          exact ifF rfl (kn _ (by rw [hm]; exact if_neg fun z => z hmn) .refl)
        · rw [decide_eq_false hmn]
          exact ifT rfl ⟨_, rfl, ky _ m _ (by rw [hm]; exact if_pos hmn) .refl rfl⟩
      rintro p15 zs15 H15 n15 s15 q15 hz15
      have s15 : Sm H13 H15 := s15
      have efil : (List.range (isV l).length).filterMap (fun i => match l[i]? with | some m => if m ∉ ns then some m else none | none => none) = l.filter fun n => decide (n ∉ ns) := by
        rw [isV_len]
        rw [← fil_eq l fun n => decide (n ∉ ns)]
        refine fm_congr fun i _ => ?_
        cases l[i]? with
        | none => rfl
        | some m => by_cases h : m ∈ ns <;> simp [h]
      rw [efil] at hz15
      have ez15 := hz15.eq_map (g := V.int)
      obtain ⟨F, hF⟩ : ∃ F, F = (l.filter fun n => decide (n ∉ ns)).take many := ⟨_, rfl⟩
      refine ⟨_, rfl, _, rfl, p15, _, rfl, .of q15, fun p16 n16 => upd_new n16 fun H16 s16 q16 => ?_⟩
      have q16' : H16 p16 = some (.lst (isV F)) := by
        rw [q16, ez15, hF]
        exact congrArg (fun z => some (HO.lst z)) ((cut_take _ many).trans (isV_take _ many))
      have hFl : F.length ≤ many := by rw [hF, List.length_take]; omega
      have hF0 : 0 < F.length := by rw [hF, List.length_take]; omega
      have hFm : ∀ x ∈ F, x ∉ ns ∧ 1 ≤ x ∧ x ≤ 1000000000 := fun x hx => by
        rw [hF] at hx
        have h := List.mem_filter.mp (List.mem_of_mem_take hx)
        exact ⟨of_decide_eq_true h.2, hrg x h.1⟩
      have hFn : F.Nodup := by rw [hF]; exact (hnd.filter _).sublist (List.take_sublist _ _)
      have tp16 := (tp13.sm s15).sm s16
      have np16 : p16 ≠ t := tp16.ne q16'
      refine ⟨_, rfl, p16, rfl, ⟨_, .of q16'⟩, lc_inv walk_list (M := (· = t)) (fun i y H' => ∃ m x : Int, y = .int m ∧ F[i]? = some x ∧ absI m = x) (fun i H' => Tp φ H' t cl (n + 4 + i)) (by rw [isV_len, sizeLine_eq]; omega) (fun b hb => by rw [hb]; exact tp16.tl) (fun H' f' => .of (f'.at q16' np16)) (fun i y N H H' h f => h) tp16 (fun i D Ha Hb nD h f => Tp.new tp16 nD h f) ?_ ?_⟩
      · rintro i x Ha Hb Qy hi fa ia ⟨rfl, hx⟩ kq
        obtain ⟨m, hm, rfl⟩ := isV_get hx
        have hmr := hFm m (List.mem_of_getElem? hm)
        have hil := (List.getElem?_eq_some_iff.mp hm).1
        refine ⟨rfl, _, rfl, _, rfl, _, rfl, _, _, rfl, rfl, szN, fun p np => upd_new np fun Hc sc qc => ?_⟩
        refine ⟨t, cl, p, φ, _, _, rfl, ia.sm sc, by omega, qc, Nat.succ_pos _, by show 2 ≤ 1000; decide, fun u v Hd' hv fd' td => ?_⟩
        have hv := List.mem_of_getElem? hv
        simp only [List.mem_cons, List.not_mem_nil, or_false] at hv
        rcases hv with rfl | rfl
        · exact kq _ Hd' (sc.to.trans fd') td ⟨m, m, rfl, hm, by unfold absI; rw [if_neg (by omega)]⟩
        · exact kq _ Hd' (sc.to.trans fd') td ⟨0 - m, m, rfl, hm, by unfold absI; rw [if_pos (by omega)]; omega⟩
      rintro p17 ws H17 n17 f17 i17 q17 hz17 hh17
      rw [isV_len] at hz17 i17
      obtain ⟨ms, rfl⟩ : ∃ ms : List Int, ws = isV ms := by
        refine ⟨ws.map fun v => match v with | .int m => m | _ => 0, ?_⟩
        refine List.ext_getElem? fun i => ?_
        show _ = ((ws.map _).map V.int)[i]?
        rw [List.getElem?_map, List.getElem?_map]
        cases e : ws[i]? with
        | none => rfl
        | some y =>
          obtain ⟨m, x, rfl, _⟩ := hh17 i y e
          rfl
      rw [isV_len] at hz17
      have habs : ms.map absI = F := by
        refine List.ext_getElem? fun i => ?_
        rw [List.getElem?_map]
        cases e : ms[i]? with
        | none =>
          have := List.getElem?_eq_none_iff.mp e
          rw [List.getElem?_eq_none (by omega)]; rfl
        | some m =>
          obtain ⟨m', x, e1, e2, e3⟩ := hh17 i (.int m) (by rw [List.getElem?_map, e]; rfl)
          cases e1
          rw [e2, ← e3]; rfl
      have hin : ∀ m ∈ ms, absI m ∈ F := fun m hm => by rw [← habs]; exact List.mem_map_of_mem hm
      have f317 : Fm (· = t) H3 H17 := ((f313.trans s15.to).trans s16.to).trans f17
      have f017 : Fm (· = t) H H17 := f3.to.trans f317
      have n0 : H p17 = none := f3.free (((f313.trans s15.to).trans s16.to).free n17)
      refine k p17 ms H17 n0 f017 (i17.mono (by omega)) q17 ⟨by omega, by omega, by rw [habs]; exact hFn, fun m hm => (hFm _ (hin m hm)).2.2⟩ (by omega) fun m hm => ?_
      have h := (hFm _ (hin m hm)).1
      rw [hns] at h
      exact ⟨fun z => h (List.mem_append.mpr (.inl z)), fun z => h (List.mem_append.mpr (.inr z))⟩
end
end K59
set_option Elab.async false
set_option linter.all false
set_option maxRecDepth 100000
set_option maxHeartbeats 4000000
namespace K59
open PySem PySem.Spec PyProof.Rows L2
section
variable {P : Program} {w : World} {K : PySem.W.Frag} {mg : Str → Option Value} {base : Heap}
theorem sc_law_deed : FnScope ["_law_tape", "_law_held", "_law_most", "_law_word", "_law_tops", "_law_many", "_law_cap", "_law_marks_here"] ["_law_tape", "_law_held", "_law_most"] (defScope s_law_deed) := ⟨rfl, rfl, rfl, by decide +kernel, rfl, by decide +kernel, by decide +kernel⟩
/-- a deed that is let -/
def DeedOk (c : Core) (d : Dyn) (ah : List Dyn) : Deed → Prop
  | .back => ah ≠ []
  | .bound o => ∀ t, o = some t → 0 ≤ t ∧ (t < d.cap ∨ (d.marks.length : Int) ≤ t)
  | .wider n => d.cap < n ∧ n ≤ d.cap + 3 ∧ d.cap < 57 ∧ roomN c d.cur (d.cap + 3) ≤ 400
  | .more ms p => MarksOk ms ∧ ms.length ≤ 4 ∧ d.marks.length + ms.length ≤ 12 ∧ (∀ m ∈ ms, absI m ∉ d.marks.map absI ∧ absI m ∉ c.names) ∧ okD 10 p ∧ p.sz = ms.length ∧ p.nk + 1 ≤ 2 * ms.length ∧ c.clauses.length ≤ 400 ∧
      ∀ t, d.top = some t → t < d.cap ∨ ((d.marks.length + ms.length : Nat) : Int) ≤ t
def spDeed : Sp := fun vs H Q _ => ∃ (t cl : Addr) (φ : Addr → Nat) (n : Nat) (pa : Nat → Addr × Addr) (a : MA) (c : Core) (d : Dyn) (ah : List Dyn), vs = [.ref t, .ref a.mh, iV 12] ∧ Tp φ H t cl n ∧ Live φ H ∧ n ≤ 800000000 ∧ MdAt φ H pa a c d ah ∧
  KsOk c.g.n c.g.ks ∧ OutsLe c ∧ (∀ i ∈ d.cur, i < c.g.n) ∧ 1 ≤ d.cap ∧ d.cap ≤ 60 ∧ d.marks.length ≤ 12 ∧ c.names.length ≤ 3000 ∧ 1 ≤ c.coming ∧
  ∀ v D H', Fm (· = t) H H' → Tp φ H' t cl (n + 200) → DeedAt φ H' v D → DeedOk c d ah D → Q v H'
theorem cal_law_deed (hd : Hd K mg) : C8.Cal P w K mg base 18 "_law_deed" spDeed [] := by
  obtain ⟨fd, F⟩ := hd.d_law_deed
  refine mk_cal F hd.g_law_deed (F.bindsN fun _ _ _ _ _ _ us hl => match us, hl with | [_, _, _], _ => rfl) sc_law_deed (fun vs H Q E h => ?_) (fun cdv A outer s H vs Q E hr h => ?_)
  · obtain ⟨_, _, _, _, _, _, _, _, _, rfl, _⟩ := h; rfl
  · obtain ⟨t, cl, φ, n, pa, a, c, d, ah, rfl, tp, lv, hn, md, ok, ol, hcur, hc1, hc60, hml, hnl, hco, k⟩ := h
    refine ⟨_, (pss_cons (ps_set (i := 3) sc_law_deed.nd rfl (Or.inl rfl) (C8.pe_c (cal_law_pick hd) hr (by first | decide | omega) rfl (pa_cons (pv 0) (pa_cons (pe_lst (pa_cons pe_str (pa_cons pe_str (pa_cons pe_str (pa_cons pe_str (pa_cons pe_str (pa_cons pe_str pa_nil))))))) pa_nil))))
    (pss_cons (ps_par (i := 5) (j := 6) rfl sc_law_deed.nd rfl rfl (by decide) rfl rfl (pa_cons (pe_callB call_len_seq (by rfl) hd.f_len PySem.boot_len (pa_cons (pe_dget (hu_of hr) (pv 1) pe_str (fun _ _ => rfl)) pa_nil)) (pa_cons (pe_dget (hu_of hr) (pv 1) pe_str (fun _ _ => rfl)) pa_nil)) rfl)
    (pss_cons (ps_if (PW.pt (pw_and (pt_cmpR op_eq (pv 3) pe_str (nomark _)) (pw_and1 (pt_cmpR (op_neE hr.units) (pe_dget (hu_of hr) (pv 1) pe_str (fun _ _ => rfl)) (pe_lst pa_nil) (nomark _))))) (pss_one (ps_ret (pe_tup (pa_cons pe_str pa_nil)))) pss_nil)
    (pss_cons (ps_if (PW.pt (pw_and (pt_cmpR op_eq (pv 3) pe_str (nomark _)) (pw_and (pt_cmpR op_lt (pv 6) pe_int (nomark _)) (pw_and1 (pt_cmpR op_le (C8.pe_c (cal_law_room hd) hr (by first | decide | omega) rfl (pa_cons (pv 1) (pa_cons (pe_dget (hu_of hr) (pv 1) pe_str (fun _ _ => rfl)) (pa_cons (pe_op op_add (pv 6) pe_int) pa_nil)))) pe_int (nomark _)))))) (pss_one (ps_ret (pe_tup (pa_cons pe_str (pa_cons (pe_op op_add (pe_op op_add (pv 6) pe_int) (C8.pe_c (cal_law_draw hd) hr (by first | decide | omega) rfl (pa_cons (pv 0) (pa_cons pe_int pa_nil)))) pa_nil))))) pss_nil)
    (pss_cons (ps_if (PW.pt (pw_and (pt_cmpR op_eq (pv 3) pe_str (nomark _)) (pw_and (pt_cmpR op_lt (pv 5) (pv 2) (nomark _)) (pw_and1 (pt_cmpR op_le (pe_callB call_len_seq (by rfl) hd.f_len PySem.boot_len (pa_cons (pe_dget (hu_of hr) (pv 1) pe_str (fun _ _ => rfl)) pa_nil)) pe_int (nomark _)))))) (pss_cons (ps_set (i := 7) sc_law_deed.nd rfl (Or.inl rfl) (C8.pe_c (cal_law_more_marks hd) hr (by first | decide | omega) rfl (pa_cons (pv 0) (pa_cons (pv 1) (pa_cons (pe_op op_add pe_int (C8.pe_c (cal_law_draw hd) hr (by first | decide | omega) rfl (pa_cons (pv 0) (pa_cons (pe_callB (call_min2 rfl) (by rfl) hd.f_min (by decide +kernel) (pa_cons pe_int (pa_cons (pe_op op_sub (pv 2) (pv 5)) pa_nil))) pa_nil)))) pa_nil)))))
    (pss_one (ps_if (PW.pt (pw_or (pt_cmpR op_isN (pe_dget (hu_of hr) (pv 1) pe_str (fun _ _ => rfl)) pe_non (nomark _)) (pw_or1 (pt_not (pt_chain op_le op_lt (pv 6) (pe_dget (hu_of hr) (pv 1) pe_str (fun _ _ => rfl)) (pe_op op_add (pv 5) (pe_callB call_len_seq (by rfl) hd.f_len PySem.boot_len (pa_cons (pv 7) pa_nil)))))))) (pss_one (ps_ret (pe_tup (pa_cons pe_str (pa_cons (pv 7) (pa_cons (C8.pe_c (cal_law_sums hd) hr (by first | decide | omega) rfl (pa_cons (pv 0) (pa_cons (pe_callB call_len_seq (by rfl) hd.f_len PySem.boot_len (pa_cons (pv 7) pa_nil)) (pa_cons pe_int pa_nil)))) pa_nil)))))) pss_nil))) pss_nil)
    (pss_cons (ps_set (i := 4) sc_law_deed.nd rfl (Or.inl rfl) (pe_lst (pa_cons (C8.pe_c (cal_law_draw hd) hr (by first | decide | omega) rfl (pa_cons (pv 0) (pa_cons (pv 6) pa_nil))) (pa_cons (C8.pe_c (cal_law_draw hd) hr (by first | decide | omega) rfl (pa_cons (pv 0) (pa_cons (pv 6) pa_nil))) (pa_cons (pe_op op_add (pv 5) (C8.pe_c (cal_law_draw hd) hr (by first | decide | omega) rfl (pa_cons (pv 0) (pa_cons (pe_op op_sub pe_int (pv 5)) pa_nil)))) (pa_cons pe_non pa_nil))))))
    (pss_one (ps_ret (pe_tup (pa_cons pe_str (pa_cons (C8.pe_c (cal_law_pick hd) hr (by first | decide | omega) rfl (pa_cons (pv 0) (pa_cons (pv 4) pa_nil))) pa_nil))))))))))), ?_⟩
    refine ⟨_, rfl, szN, fun p1 n1 => upd_new n1 fun H1 s1 q1 => ?_⟩
    refine ⟨t, cl, p1, φ, n, _, rfl, tp.sm s1, by omega, q1, by decide, by decide, fun i2 v2 H2 hv2 f2 tp2 => ?_⟩
    have word : ∃ wd : Str, v2 = .str wd := by
      have hv := List.mem_of_getElem? hv2
      simp only [List.mem_cons, List.not_mem_nil, or_false] at hv
      rcases hv with rfl | rfl | rfl | rfl | rfl | rfl <;> exact ⟨_, rfl⟩
    obtain ⟨wd, rfl⟩ := word
    have f12 : Fm (· = t) H H2 := s1.to.trans f2
    have tM : ∀ b, b = t → φ b ≠ 0 ∧ ¬ LT (φ b) := fun b hb => by
      rw [hb, tp.tag]
      refine ⟨by decide, fun z => ?_⟩
      rcases z with z | z | z | z | ⟨i, z⟩
      · cases z
      · cases z
      · cases z
      · cases z
      · unfold tgL at z; omega
    have md2 := md.fm f12 tM
    refine ⟨_, rfl, _, _, rfl, mh_marks md2.obj, _, _, rfl, .inl (.of md2.hm), _, rfl, _, _, rfl, mh_cap md2.obj, _, _, rfl, ?_⟩
    have hcl := md.cl
    rw [isV_len]
    -- back
    refine ⟨_, rfl, rfl, _, rfl, ite2 (fun cb => ⟨_, rfl, _, _, rfl, mh_ahead md2.obj, szN, fun p3 n3 => upd_new n3 fun H3 s3 q3 => ⟨a.aa, p3, _, rfl, rfl, .of (s3.at md2.aa), .of q3, _, rfl, ite2 (fun ca => ?pos) (fun ca => ?n1)⟩⟩) (fun cb => ?n2)⟩
    case' pos =>
      refine ⟨szN, fun p4 n4 => upd_new n4 fun H4 s4 q4 => k _ .back H4 ((f12.trans s3.to).trans s4.to) (((tp2.sm s3).sm s4).mono (by omega)) ⟨p4, rfl, q4⟩ fun z => ?_⟩
      have hav := md.dy.1
      rw [z] at hav
      rw [List.eq_nil_of_length_eq_zero hav] at ca
      cases ca
    case' n1 =>
      replace f12 := f12.trans s3.to
      replace tp2 := tp2.sm s3
      replace md2 := md2.sm s3
    all_goals
      -- wider
      refine ⟨_, rfl, rfl, _, rfl, ite2 (fun cw => ⟨_, rfl, _, _, rfl, rfl, _, rfl, ite2 (fun c57 => ⟨_, rfl, _, rfl, _, _, rfl, mh_knots md2.obj, _, rfl, _, _, rfl, rfl, φ, pa, a, c, d, ah, a.gl, d.cur, d.cap + 3, rfl, md2, md2.gl, ok, ol, hcur, fun H4 s4 => ⟨_, _, rfl, rfl, _, rfl, ite2 (fun cr => ?_) (fun cr => ?_)⟩⟩) (fun c57 => ?_)⟩) (fun cw => ?_)⟩
      · have h57 : d.cap < 57 := by have := of_decide_eq_true c57; omega
        have hrm : roomN c d.cur (d.cap + 3) ≤ 400 := by have := of_decide_eq_true cr; omega
        refine ⟨_, rfl, _, _, rfl, rfl, _, rfl, t, cl, 3, φ, _, rfl, tp2.sm s4, by omega, by decide, by decide, fun r5 H5 f5 tp5 hr5 => ?_⟩
        refine ⟨_, _, rfl, rfl, szN, fun p6 n6 => upd_new n6 fun H6 s6 q6 => ?_⟩
        exact k _ (.wider (d.cap + 1 + r5)) H6 (((f12.trans s4.to).trans f5).trans s6.to) ((tp5.sm s6).mono (by omega)) ⟨p6, rfl, q6⟩ ⟨by omega, by omega, h57, hrm⟩
      all_goals try (replace f12 := f12.trans s4.to; replace tp2 := tp2.sm s4; replace md2 := md2.sm s4)
      all_goals
        -- more
        refine ⟨_, rfl, rfl, _, rfl, ite2 (fun cm => ⟨_, rfl, _, rfl, _, _, rfl, rfl, _, rfl, ite2 (fun c12 => ⟨_, rfl, _, _, rfl, mh_clauses md2.obj, _, _, rfl, .inl (.of md2.mc), _, _, rfl, rfl, _, rfl, ite2 (fun c400 => ?_) (fun c400 => ?_)⟩) (fun c12 => ?_)⟩) (fun cm => ?_)⟩
        · have h12 : d.marks.length < 12 := by
            have := of_decide_eq_true c12
            omega
          have h400 : c.clauses.length ≤ 400 := by
            have := of_decide_eq_true c400
            rw [hcl] at this; omega
          refine ⟨_, rfl, _, rfl, _, rfl, _, rfl, _, rfl, _, _, rfl, rfl, _, _, rfl, t, cl, min 4 (12 - d.marks.length), φ, _, ?_, tp2, by omega, by omega, by omega, fun r5 H5 f5 tp5 hr5 => ?_⟩
          · show [V.ref t, V.int (if (12 : Int) - (d.marks.length : Int) < 4 then (12 : Int) - (d.marks.length : Int) else 4)] = [V.ref t, iV (min 4 (12 - d.marks.length))]
            refine congrArg (fun z => [V.ref t, V.int z]) ?_
            split <;> omega
          have f16 : Fm (· = t) H H5 := f12.trans f5
          have md5 := md2.fm f5 tM
          refine ⟨_, _, rfl, rfl, t, cl, φ, _, pa, a, c, d, ah, 1 + r5, rfl, tp5, by omega, md5, by omega, by omega, by omega, hnl, hco, fun am ms H6 nam f6 tp6 ham mo hlen hdis => ?_⟩
          have md6 := md5.fm f6 tM
          have hms1 := mo.pos
          refine ⟨_, rfl, _, _, rfl, mh_top md6.obj, rfl, ?_⟩
          have etn : ∀ u, d.top = some u → oV d.top = .int u := fun u hu => by rw [hu]; rfl
          cases htop : d.top with
          | none =>
            refine ⟨_, rfl, ifT rfl ?_⟩
            refine ⟨_, rfl, _, rfl, _, rfl, _, _, rfl, .inl (.of ham), t, cl, φ, _, ms.length, 1, by rw [isV_len]; rfl, tp6, by omega, by omega, by omega, by decide, by omega, fun vp p H7 f7 tp7 hp7 ok7 sz7 nk7 => ?_⟩
            refine ⟨szN, fun p8 n8 => upd_new n8 fun H8 s8 q8 => ?_⟩
            have nat6 : am ≠ t := tp6.ne ham
            have zam : φ am = 0 := lv.zero (f16.free nam)
            refine k _ (.more ms p) H8 (((f16.trans f6).trans f7).trans s8.to) ((tp7.sm s8).mono (by omega)) ⟨p8, am, vp, rfl, q8, s8.at (f7.at ham nat6), zam, hp7.fm s8⟩ ⟨mo, by omega, by omega, hdis, ok7.le (by omega), sz7, by omega, h400, fun u hu => by rw [htop] at hu; cases hu⟩
          | some u =>
            refine ⟨_, rfl, ifF rfl ?_⟩
            refine ⟨_, rfl, _, rfl, _, _, rfl, mh_top md6.obj, (d.cap : Int), u, rfl, etn u htop, _, rfl, ?_⟩
            have ham' : (isV ms).length = ms.length := isV_len ms
            by_cases hcu : (d.cap : Int) ≤ u
            · refine ifT (decide_eq_true hcu) ⟨_, rfl, _, rfl, _, _, rfl, .inl (.of ham), _, _, rfl, rfl, u, _, etn u htop, rfl, _, rfl, ?_⟩
              rw [isV_len]
              by_cases hlt : u < (d.marks.length : Int) + (ms.length : Int)
              · refine ifF (by rw [decide_eq_true hlt]; rfl) ?_
                refine ⟨_, rfl, _, rfl, t, cl, d.cap, φ, _, rfl, tp6, by omega, by omega, by omega, fun ra Ha fa ta hra => ?_⟩
                refine ⟨_, rfl, _, rfl, t, cl, d.cap, φ, _, rfl, ta, by omega, by omega, by omega, fun rb Hb fb tb hrb => ?_⟩
                refine ⟨_, rfl, _, rfl, _, rfl, _, _, rfl, rfl, t, cl, 61 - d.marks.length, φ, _, ?_, tb, by omega, by omega, by omega, fun rc Hc fc tc hrc => ?_⟩
                · show [V.ref t, V.int ((61 : Int) - (d.marks.length : Int))] = [V.ref t, iV (61 - d.marks.length)]
                  exact congrArg (fun z => [V.ref t, V.int z]) (by omega)
                refine ⟨_, _, rfl, rfl, szN, fun px npx => upd_new npx fun Hd' sd qd => ?_⟩
                refine ⟨_, rfl, _, rfl, t, cl, px, φ, _, _, rfl, tc.sm sd, by omega, qd, Nat.succ_pos _, by show 4 ≤ 1000; decide, fun ie ve He hve fe te => ?_⟩
                have bo : ∃ o, ve = oV o ∧ ∀ u, o = some u → 0 ≤ u ∧ (u < d.cap ∨ (d.marks.length : Int) ≤ u) := by
                  have hv := List.mem_of_getElem? hve
                  simp only [List.mem_cons, List.not_mem_nil, or_false] at hv
                  rcases hv with rfl | rfl | rfl | rfl
                  · exact ⟨some (ra : Int), rfl, fun u z => by cases z; omega⟩
                  · exact ⟨some (rb : Int), rfl, fun u z => by cases z; omega⟩
                  · refine ⟨some ((d.marks.length : Int) + (rc : Int)), rfl, fun u z => ?_⟩
                    cases z
                    omega
                  · exact ⟨none, rfl, fun u z => nomatch z⟩
                obtain ⟨o, rfl, ho⟩ := bo
                refine ⟨szN, fun pz npz => upd_new npz fun Hz sz qz => ?_⟩
                exact k _ (.bound o) Hz ((((((f16.trans f6).trans fa).trans fb).trans fc).trans sd.to).trans fe |>.trans sz.to) ((te.sm sz).mono (by omega)) ⟨pz, rfl, qz⟩ ho
              · refine ifT (by rw [decide_eq_false hlt]; rfl) ?_
                refine ⟨_, rfl, _, rfl, _, rfl, _, _, rfl, .inl (.of ham), t, cl, φ, _, ms.length, 1, by rw [isV_len]; rfl, tp6, by omega, by omega, by omega, by decide, by omega, fun vp p H7 f7 tp7 hp7 ok7 sz7 nk7 => ?_⟩
                refine ⟨szN, fun p8 n8 => upd_new n8 fun H8 s8 q8 => ?_⟩
                have nat6 : am ≠ t := tp6.ne ham
                have zam : φ am = 0 := lv.zero (f16.free nam)
                refine k _ (.more ms p) H8 (((f16.trans f6).trans f7).trans s8.to) ((tp7.sm s8).mono (by omega)) ⟨p8, am, vp, rfl, q8, s8.at (f7.at ham nat6), zam, hp7.fm s8⟩ ⟨mo, by omega, by omega, hdis, ok7.le (by omega), sz7, by omega, h400, fun u2 hu => by rw [htop] at hu; cases hu; omega⟩
            · refine ifF (decide_eq_false hcu) ⟨_, rfl, ifT rfl ?_⟩
              refine ⟨_, rfl, _, rfl, _, rfl, _, _, rfl, .inl (.of ham), t, cl, φ, _, ms.length, 1, by rw [isV_len]; rfl, tp6, by omega, by omega, by omega, by decide, by omega, fun vp p H7 f7 tp7 hp7 ok7 sz7 nk7 => ?_⟩
              refine ⟨szN, fun p8 n8 => upd_new n8 fun H8 s8 q8 => ?_⟩
              have nat6 : am ≠ t := tp6.ne ham
              have zam : φ am = 0 := lv.zero (f16.free nam)
              refine k _ (.more ms p) H8 (((f16.trans f6).trans f7).trans s8.to) ((tp7.sm s8).mono (by omega)) ⟨p8, am, vp, rfl, q8, s8.at (f7.at ham nat6), zam, hp7.fm s8⟩ ⟨mo, by omega, by omega, hdis, ok7.le (by omega), sz7, by omega, h400, fun u2 hu => by rw [htop] at hu; cases hu; omega⟩
        all_goals
          refine ⟨_, rfl, _, rfl, t, cl, d.cap, φ, _, rfl, tp2, by omega, by omega, by omega, fun ra Ha fa ta hra => ?_⟩
          refine ⟨_, rfl, _, rfl, t, cl, d.cap, φ, _, rfl, ta, by omega, by omega, by omega, fun rb Hb fb tb hrb => ?_⟩
          refine ⟨_, rfl, _, rfl, _, rfl, _, _, rfl, rfl, t, cl, 61 - d.marks.length, φ, _, ?_, tb, by omega, by omega, by omega, fun rc Hc fc tc hrc => ?_⟩
          · show [V.ref t, V.int ((61 : Int) - (d.marks.length : Int))] = [V.ref t, iV (61 - d.marks.length)]
            exact congrArg (fun z => [V.ref t, V.int z]) (by omega)
          refine ⟨_, _, rfl, rfl, szN, fun px npx => upd_new npx fun Hd' sd qd => ?_⟩
          refine ⟨_, rfl, _, rfl, t, cl, px, φ, _, _, rfl, tc.sm sd, by omega, qd, Nat.succ_pos _, by show 4 ≤ 1000; decide, fun ie ve He hve fe te => ?_⟩
          have bo : ∃ o, ve = oV o ∧ ∀ u, o = some u → 0 ≤ u ∧ (u < d.cap ∨ (d.marks.length : Int) ≤ u) := by
            have hv := List.mem_of_getElem? hve
            simp only [List.mem_cons, List.not_mem_nil, or_false] at hv
            rcases hv with rfl | rfl | rfl | rfl
            · exact ⟨some (ra : Int), rfl, fun u z => by cases z; omega⟩
            · exact ⟨some (rb : Int), rfl, fun u z => by cases z; omega⟩
            · refine ⟨some ((d.marks.length : Int) + (rc : Int)), rfl, fun u z => ?_⟩
              cases z
              omega
            · exact ⟨none, rfl, fun u z => nomatch z⟩
          obtain ⟨o, rfl, ho⟩ := bo
          refine ⟨szN, fun pz npz => upd_new npz fun Hz sz qz => ?_⟩
          exact k _ (.bound o) Hz (((((f12.trans fa).trans fb).trans fc).trans sd.to).trans fe |>.trans sz.to) ((te.sm sz).mono (by omega)) ⟨pz, rfl, qz⟩ ho
end
end K59
set_option Elab.async false
set_option linter.all false
set_option maxRecDepth 100000
set_option maxHeartbeats 4000000
namespace K59
/-! ### the marks of a choice -/
def mA : List (List Int) → List Nat → List Int
  | r :: rs, a :: c => (match a with
    | 0 => []
    | k + 1 => (r[k]?).toList) ++ mA rs c
  | _, _ => []
theorem mAt_eq : ∀ (rows : List (List Int)) (c : List Nat), mAt rows c = mA rows c
  | [], c => by cases c <;> rfl
  | r :: rs, [] => by
    have e : mAt (r :: rs) [] = [] := by
      unfold mAt
      refine List.filterMap_eq_nil_iff.mpr fun i _ => ?_
      unfold mF
      simp
    rw [e]; rfl
  | r :: rs, a :: c => by
    have ih := mAt_eq rs c
    unfold mAt at *
    rw [List.length_cons, List.range_succ_eq_map, List.filterMap_cons, List.filterMap_map]
    have e : List.filterMap (mF (r :: rs) (a :: c) ∘ Nat.succ) (List.range rs.length) = mA rs c := by
      rw [← ih]; rfl
    rw [e]
    cases a with
    | zero => rfl
    | succ k =>
      have e0 : mF (r :: rs) ((k + 1) :: c) 0 = r[k]? := rfl
      rw [e0]
      show _ = (r[k]?).toList ++ mA rs c
      cases r[k]? <;> rfl
theorem mA_sub : ∀ {rows : List (List Int)} {c : List Nat} {x : Int}, x ∈ mA rows c → ∃ r ∈ rows, x ∈ r
  | [], c, x, h => by cases c <;> cases h
  | r :: rs, [], x, h => by cases h
  | r :: rs, a :: c, x, h => by
    rcases List.mem_append.mp h with h | h
    · cases a with
      | zero => cases h
      | succ k =>
        have h : x ∈ (r[k]?).toList := h
        exact ⟨r, List.mem_cons_self .., List.mem_of_getElem? (Option.mem_toList.mp h)⟩
    · obtain ⟨q, h1, h2⟩ := mA_sub h
      exact ⟨q, List.mem_cons_of_mem _ h1, h2⟩
theorem mA_len : ∀ (rows : List (List Int)) (c : List Nat), (mA rows c).length ≤ rows.length
  | [], c => by cases c <;> exact Nat.zero_le _
  | r :: rs, [] => Nat.zero_le _
  | r :: rs, a :: c => by
    have ih := mA_len rs c
    cases a with
    | zero =>
      show ([] ++ mA rs c).length ≤ _
      rw [List.nil_append, List.length_cons]; omega
    | succ k =>
      show ((r[k]?).toList ++ mA rs c).length ≤ _
      rw [List.length_append, List.length_cons]
      have : (r[k]?).toList.length ≤ 1 := by cases r[k]? <;> simp
      omega
theorem mA_inj : ∀ {rows : List (List Int)} {c d : List Nat}, rows.flatten.Nodup → c.length = rows.length → d.length = rows.length →
    (∀ (i : Nat) a r, c[i]? = some a → rows[i]? = some r → a ≤ r.length) → (∀ (i : Nat) a r, d[i]? = some a → rows[i]? = some r → a ≤ r.length) → mA rows c = mA rows d → c = d
  | [], c, d, _, hc, hd, _, _, _ => by
    rw [List.eq_nil_of_length_eq_zero hc, List.eq_nil_of_length_eq_zero hd]
  | r :: rs, [], d, _, hc, _, _, _, _ => by simp at hc
  | r :: rs, a :: c, [], _, _, hd, _, _, _ => by simp at hd
  | r :: rs, a :: c, b :: d, nd, hc, hd, ha, hb, h => by
    rw [List.flatten_cons, List.nodup_append] at nd
    obtain ⟨n1, n2, n3⟩ := nd
    have ra := ha 0 a r rfl rfl
    have rb := hb 0 b r rfl rfl
    have rest : mA rs c = mA rs d → c = d := mA_inj n2 (by simpa using hc) (by simpa using hd) (fun i x y hx hy => ha (i + 1) x y hx hy) (fun i x y hx hy => hb (i + 1) x y hx hy)
    have out : ∀ {x : Int} {e : List Nat}, x ∈ r → x ∈ mA rs e → False := fun h1 h2 => by
      obtain ⟨q, q1, q2⟩ := mA_sub h2
      exact n3 _ h1 _ (List.mem_flatten.mpr ⟨q, q1, q2⟩) rfl
    have sx : ∀ {k : Nat}, k + 1 ≤ r.length → ∃ x, x ∈ r ∧ r[k]? = some x := fun hk => ⟨r[_]'hk, List.getElem_mem _, List.getElem?_eq_getElem hk⟩
    cases a with
    | zero =>
      cases b with
      | zero => rw [rest h]
      | succ k =>
        obtain ⟨x, hx, ex⟩ := sx rb
        have h : mA rs c = (r[k]?).toList ++ mA rs d := h
        rw [ex] at h
        exact (out hx (by rw [h]; exact List.mem_cons_self ..)).elim
    | succ j =>
      obtain ⟨y, hy, ey⟩ := sx ra
      cases b with
      | zero =>
        have h : (r[j]?).toList ++ mA rs c = mA rs d := h
        rw [ey] at h
        exact (out hy (by rw [← h]; exact List.mem_cons_self ..)).elim
      | succ k =>
        obtain ⟨x, hx, ex⟩ := sx rb
        have h : (r[j]?).toList ++ mA rs c = (r[k]?).toList ++ mA rs d := h
        rw [ex, ey] at h
        have h : y :: mA rs c = x :: mA rs d := h
        injection h with h1 h2
        subst h1
        have e : j = k := by
          have q1 := List.getElem?_eq_some_iff.mp ey
          have q2 := List.getElem?_eq_some_iff.mp ex
          exact (List.getElem_inj n1).mp (q1.2.trans q2.2.symm)
        rw [rest h2, e]
theorem absI_neg (m : Int) : absI (0 - m) = absI m := by rw [absI_nat, absI_nat]; omega
/-! ### the clauses of a knot -/
theorem cat_mem {α : Type} {F : Nat → List α} {x : α} : ∀ {n : Nat}, x ∈ cat F n → ∃ i, i < n ∧ x ∈ F i
  | 0, h => by cases h
  | n + 1, h => by
    rcases List.mem_append.mp (show x ∈ cat F n ++ F n from h) with h | h
    · obtain ⟨i, h1, h2⟩ := cat_mem h
      exact ⟨i, by omega, h2⟩
    · exact ⟨n, by omega, h⟩
theorem newNm_mem {f : Int} {n : Nat} {x : Int} : x ∈ newNm f n ↔ f ≤ x ∧ x < f + n := by
  unfold newNm
  rw [List.mem_map]
  constructor
  · rintro ⟨i, hi, rfl⟩
    have := List.mem_range.mp hi
    omega
  · rintro ⟨h1, h2⟩
    exact ⟨(x - f).toNat, List.mem_range.mpr (by omega), by omega⟩
theorem newNm_rise (f : Int) : ∀ n : Nat, (newNm f n).Pairwise (· < ·)
  | 0 => by unfold newNm; simp
  | n + 1 => by
    rw [newNm_succ, List.pairwise_append]
    refine ⟨newNm_rise f n, by simp, fun a ha b hb => ?_⟩
    have := newNm_mem.mp ha
    rw [List.mem_singleton.mp hb]; omega
theorem rise_nodup {l : List Int} (h : l.Pairwise (· < ·)) : l.Nodup := h.imp fun q => by omega
theorem rows_nodup {ks : Nat → Kn} {outs : Nat → List Int} {cap : Nat} {k : Kn} (h1 : k.src.Nodup) (h2 : ∀ i, (outs i).Nodup) (h3 : ∀ i j x, x ∈ outs i → x ∈ outs j → i = j)
    (h4 : ∀ m, .mk m ∈ k.src → ∀ j, m ∉ outs j) : (rowsK ks outs cap k).flatten.Nodup := by
  unfold rowsK
  refine List.pairwise_flatten.mpr ⟨fun l hl => ?_, ?_⟩
  · obtain ⟨s, hs, rfl⟩ := List.mem_map.mp hl
    cases s with
    | mk m => show [m].Nodup; simp
    | kn j => exact (h2 j).sublist (List.take_sublist _ _)
  · refine List.pairwise_map.mpr (List.Pairwise.imp_of_mem ?_ h1)
    intro s t hs ht hne x hx y hy e
    subst e
    cases s with
    | mk m =>
      have hx : x ∈ [m] := hx
      have ex : x = m := List.mem_singleton.mp hx
      subst ex
      cases t with
      | mk m' =>
        have hy : x ∈ [m'] := hy
        exact hne (by rw [List.mem_singleton.mp hy])
      | kn j => exact h4 x hs j (List.mem_of_mem_take hy)
    | kn i =>
      have hx : x ∈ outs i := List.mem_of_mem_take hx
      cases t with
      | mk m' =>
        have hy : x ∈ [m'] := hy
        rw [List.mem_singleton.mp hy] at hx
        exact h4 m' ht i hx
      | kn j => exact hne (by rw [h3 i j x hx (List.mem_of_mem_take hy)])
theorem rows_mem {ks : Nat → Kn} {outs : Nat → List Int} {cap : Nat} {k : Kn} {r : List Int} {x : Int} (hr : r ∈ rowsK ks outs cap k) (hx : x ∈ r) : .mk x ∈ k.src ∨ ∃ j, .kn j ∈ k.src ∧ x ∈ outs j := by
  obtain ⟨s, hs, rfl⟩ := List.mem_map.mp hr
  cases s with
  | mk m =>
    have hx : x ∈ [m] := hx
    rw [List.mem_singleton.mp hx]; exact .inl hs
  | kn j => exact .inr ⟨j, hs, List.mem_of_mem_take hx⟩
/-- what holds of all that was told -/
structure CInv (c : Core) (ev : List Int) : Prop where
  ok : KsOk c.g.n c.g.ks
  ol : OutsLe c
  out0 : ∀ i, c.g.n ≤ i → c.outs i = []
  co1 : 1 ≤ c.coming
  nmp : c.names.Pairwise (· < ·)
  nmr : ∀ x ∈ c.names, 1 ≤ x ∧ x < c.coming
  evc : ∀ m ∈ ev, absI m < c.coming ∧ absI m ∉ c.names
  osub : ∀ i, ∀ x ∈ c.outs i, x ∈ c.names
  ond : ∀ i, (c.outs i).Nodup
  odis : ∀ i j x, x ∈ c.outs i → x ∈ c.outs j → i = j
  snd : ∀ i, i < c.g.n → (c.g.ks i).src.Nodup
  smk : ∀ i, i < c.g.n → ∀ m, .mk m ∈ (c.g.ks i).src → m ∈ ev
  cnd : c.clauses.Nodup
  cla : ∀ cl ∈ c.clauses, ∃ b x, cl = b ++ [x] ∧ x ∈ c.names
  cin : ∀ cl ∈ c.clauses, ∀ m ∈ cl, absI m ∈ c.names ∨ absI m ∈ ev.map absI
  ccl : ∀ cl ∈ c.clauses, cl.length ≤ 13
  nms : c.names.length = sm (fun i => (c.outs i).length) c.g.n
theorem sm_upd {f : Nat → List Int} {i : Nat} {l : List Int} : ∀ {n : Nat}, sm (fun j => (updN f i (f i ++ l) j).length) n = sm (fun j => (f j).length) n + if i < n then l.length else 0
  | 0 => rfl
  | n + 1 => by
    show sm (fun j => (updN f i (f i ++ l) j).length) n + (updN f i (f i ++ l) n).length = sm (fun j => (f j).length) n + (f n).length + _
    rw [sm_upd]
    by_cases h : n = i
    · subst h
      rw [updN_same, List.length_append, if_neg (Nat.lt_irrefl _), if_pos (Nat.lt_succ_self _)]; omega
    · rw [updN_ne h]
      by_cases q : i < n
      · rw [if_pos q, if_pos (by omega)]; omega
      · rw [if_neg q, if_neg (by omega)]; omega
theorem CInv.noEv {c : Core} {ev : List Int} (h : CInv c ev) {m : Int} (hm : m ∈ ev) : m ∉ c.names := fun z => by
  have h1 := (h.nmr m z).1
  have h2 := (h.evc m hm).2
  have e : absI m = m := by rw [absI_nat]; omega
  rw [e] at h2
  exact h2 z
theorem absI_name {x : Int} (h : 1 ≤ x) : absI x = x := by rw [absI_nat]; omega
/-- a knot grows -/
theorem CInv.grow {c : Core} {ev : List Int} {cap i : Nat} (h : CInv c ev) (hc : 1 ≤ cap) (hi : i < c.g.n) (hf : ∀ s ∈ (c.g.ks i).src, Full c.g.ks c.outs cap s) : CInv (growK cap c i) ev := by
  have nn : ∀ {x}, x ∈ (growK cap c i).names ↔ x ∈ c.names ∨ x ∈ newNm c.coming (lackN (c.g.ks i) (c.outs i) cap) := List.mem_append
  have oo : ∀ {j x}, x ∈ (growK cap c i).outs j → x ∈ c.outs j ∨ (j = i ∧ x ∈ newNm c.coming (lackN (c.g.ks i) (c.outs i) cap)) := fun {j x} hx => by
    have hx : x ∈ updN c.outs i (c.outs i ++ newNm c.coming (lackN (c.g.ks i) (c.outs i) cap)) j := hx
    by_cases e : j = i
    · subst e
      rw [updN_same] at hx
      rcases List.mem_append.mp hx with hx | hx
      · exact .inl hx
      · exact .inr ⟨rfl, hx⟩
    · rw [updN_ne e] at hx; exact .inl hx
  have cc : ∀ {cl}, cl ∈ (growK cap c i).clauses → cl ∈ c.clauses ∨ ∃ t x ch, t < lackN (c.g.ks i) (c.outs i) cap ∧ x = c.coming + (t : Int) ∧ ch ∈ chM (lensK c.g.ks cap (c.g.ks i)) ((c.outs i).length + 1 + t) ∧ cl = clK (rowsK c.g.ks c.outs cap (c.g.ks i)) x ch := fun {cl} hx => by
    rcases List.mem_append.mp (show cl ∈ c.clauses ++ newCl _ _ _ _ _ from hx) with hx | hx
    · exact .inl hx
    · obtain ⟨t, ht, hx⟩ := cat_mem hx
      obtain ⟨ch, h1, h2⟩ := List.mem_map.mp hx
      exact .inr ⟨t, _, ch, ht, rfl, h1, h2.symm⟩
  have cm : (growK cap c i).coming = c.coming + (lackN (c.g.ks i) (c.outs i) cap : Int) := rfl
  have ols : ∀ j x, x ∈ c.outs j → x < c.coming := fun j x hx => (h.nmr x (h.osub j x hx)).2
  refine ⟨h.ok, h.ol.grow, fun j hj => ?_, ?_, ?_, fun x hx => ?_, fun m hm => ?_, fun j x hx => ?_, fun j => ?_, fun j k x hj hk => ?_, h.snd, h.smk, ?_, fun cl hcl => ?_, fun cl hcl m hm => ?_, fun cl hcl => ?_, ?_⟩
  · have hj : c.g.n ≤ j := hj
    show updN c.outs i _ j = []
    rw [updN_ne (by omega)]; exact h.out0 j hj
  · have := h.co1
    rw [cm]; omega
  · show (c.names ++ newNm _ _).Pairwise _
    refine List.pairwise_append.mpr ⟨h.nmp, newNm_rise _ _, fun a ha b hb => ?_⟩
    have h1 := (h.nmr a ha).2
    have h2 := (newNm_mem.mp hb).1
    omega
  · rw [cm]
    rcases nn.mp hx with hx | hx
    · have := h.nmr x hx; omega
    · have := newNm_mem.mp hx
      have := h.co1
      omega
  · rw [cm]
    have h1 := h.evc m hm
    refine ⟨by omega, fun z => ?_⟩
    rcases nn.mp z with z | z
    · exact h1.2 z
    · have := newNm_mem.mp z; omega
  · rcases oo hx with hx | ⟨_, hx⟩
    · exact nn.mpr (.inl (h.osub j x hx))
    · exact nn.mpr (.inr hx)
  · show (updN c.outs i _ j).Nodup
    by_cases e : j = i
    · subst e
      rw [updN_same]
      refine List.nodup_append.mpr ⟨h.ond j, rise_nodup (newNm_rise _ _), fun a ha b hb z => ?_⟩
      have h1 := ols j a ha
      have h2 := (newNm_mem.mp hb).1
      omega
    · rw [updN_ne e]; exact h.ond j
  · rcases oo hj with hj' | ⟨ej, hj'⟩
    · rcases oo hk with hk' | ⟨ek, hk'⟩
      · exact h.odis j k x hj' hk'
      · have h1 := ols j x hj'
        have h2 := (newNm_mem.mp hk').1
        omega
    · rcases oo hk with hk' | ⟨ek, hk'⟩
      · have h1 := ols k x hk'
        have h2 := (newNm_mem.mp hj').1
        omega
      · rw [ej, ek]
  · show (c.clauses ++ newCl _ _ _ _ _).Nodup
    have nd : (rowsK c.g.ks c.outs cap (c.g.ks i)).flatten.Nodup := rows_nodup (h.snd i hi) h.ond h.odis fun m hm j hj => h.noEv (h.smk i hi m hm) (h.osub j m hj)
    have rl : (rowsK c.g.ks c.outs cap (c.g.ks i)).length = (lensK c.g.ks cap (c.g.ks i)).length := by simp [rowsK, lensK]
    have le : ∀ {t : Nat} {ch : List Nat}, ch ∈ chM (lensK c.g.ks cap (c.g.ks i)) t → ∀ (i' : Nat) a r, ch[i']? = some a → (rowsK c.g.ks c.outs cap (c.g.ks i))[i']? = some r → a ≤ r.length := fun {t ch} hch i' a r ha hr => by
      unfold rowsK at hr
      rw [List.getElem?_map] at hr
      obtain ⟨s, hs, rfl⟩ := Option.map_eq_some_iff.mp hr
      rw [row_len hc (hf s (List.mem_of_getElem? hs))]
      refine (chM_mem hch).2.2 i' a _ ha ?_
      unfold lensK
      rw [List.getElem?_map, hs]; rfl
    have last : ∀ {rows x ch rows' x' ch'}, clK rows x ch = clK rows' x' ch' → x = x' ∧ mA rows ch = mA rows' ch' := fun {rows x ch rows' x' ch'} e => by
      unfold clK at e
      obtain ⟨e1, e2⟩ := List.append_inj' e rfl
      refine ⟨by injection e2, ?_⟩
      rw [mAt_eq, mAt_eq] at e1
      have inj : Function.Injective (fun m : Int => 0 - m) := fun a b z => by
        have z : 0 - a = 0 - b := z
        omega
      exact (List.map_inj_right fun a b z => inj z).mp e1
    refine List.nodup_append.mpr ⟨h.cnd, ?_, fun a ha b hb z => ?_⟩
    · have key : ∀ m, (newCl (rowsK c.g.ks c.outs cap (c.g.ks i)) (lensK c.g.ks cap (c.g.ks i)) (c.outs i).length c.coming m).Nodup := by
        intro m
        induction m with
        | zero => exact List.Pairwise.nil
        | succ m ih =>
          show (cat _ m ++ _).Nodup
          refine List.nodup_append.mpr ⟨ih, ?_, fun a ha b hb z => ?_⟩
          · refine List.pairwise_map.mpr (List.Pairwise.imp_of_mem ?_ (chM_nodup _ _))
            intro x y hx hy hne e
            exact hne (mA_inj nd (by rw [rl]; exact (chM_mem hx).1) (by rw [rl]; exact (chM_mem hy).1) (le hx) (le hy) (last e).2)
          · subst z
            obtain ⟨t, ht, ha⟩ := cat_mem ha
            obtain ⟨x, _, hx⟩ := List.mem_map.mp ha
            obtain ⟨y, _, hy⟩ := List.mem_map.mp hb
            have := (last (hx.trans hy.symm)).1
            omega
      exact key _
    · subst z
      obtain ⟨t, ht, hb⟩ := cat_mem hb
      obtain ⟨x, _, hx⟩ := List.mem_map.mp hb
      obtain ⟨bs, y, e, hy⟩ := h.cla a ha
      have h1 := (h.nmr y hy).2
      rw [e] at hx
      unfold clK at hx
      have e2 := (List.append_inj' hx rfl).2
      injection e2 with e2
      omega
  · rcases cc hcl with hcl | ⟨t, x, ch, ht, hx, hch, rfl⟩
    · obtain ⟨b, x, e, hx⟩ := h.cla cl hcl
      exact ⟨b, x, e, nn.mpr (.inl hx)⟩
    · exact ⟨_, x, rfl, nn.mpr (.inr (newNm_mem.mpr (by omega)))⟩
  · rcases cc hcl with hcl | ⟨t, x, ch, ht, hx, hch, rfl⟩
    · rcases h.cin cl hcl m hm with q | q
      · exact .inl (nn.mpr (.inl q))
      · exact .inr q
    · rcases List.mem_append.mp (show m ∈ (mAt _ ch).map (fun m => 0 - m) ++ [x] from hm) with hm | hm
      · obtain ⟨y, hy, rfl⟩ := List.mem_map.mp hm
        rw [absI_neg]
        rw [mAt_eq] at hy
        obtain ⟨r, hr, hy⟩ := mA_sub hy
        rcases rows_mem hr hy with hy | ⟨j, hj, hy⟩
        · exact .inr (List.mem_map_of_mem (h.smk i hi y hy))
        · have hy := h.osub j y hy
          rw [absI_name (h.nmr y hy).1]
          exact .inl (nn.mpr (.inl hy))
      · rw [List.mem_singleton.mp hm]
        have hx' : x ∈ newNm c.coming (lackN (c.g.ks i) (c.outs i) cap) := newNm_mem.mpr (by omega)
        have := h.co1
        rw [absI_name (by omega)]
        exact .inl (nn.mpr (.inr hx'))
  · rcases cc hcl with hcl | ⟨t, x, ch, ht, hx, hch, rfl⟩
    · exact h.ccl cl hcl
    · show ((mAt _ ch).map (fun m => 0 - m) ++ [x]).length ≤ 13
      rw [List.length_append, List.length_map, mAt_eq]
      have h1 := mA_len (rowsK c.g.ks c.outs cap (c.g.ks i)) ch
      have h2 := h.ok.few i hi
      have h3 : (rowsK c.g.ks c.outs cap (c.g.ks i)).length = (c.g.ks i).src.length := by simp [rowsK]
      have h4 : [x].length = 1 := rfl
      omega
  · rw [growK_names, h.nms]
    show _ = sm (fun j => (updN c.outs i (c.outs i ++ newNm _ _) j).length) c.g.n
    rw [sm_upd, if_pos hi, newNm_length]
theorem CInv.growAll {cap : Nat} {ev : List Int} (hc : 1 ≤ cap) : ∀ {is : List Nat} {c : Core}, CInv c ev → Ready cap c is → CInv (growAll cap c is) ev
  | [], c, h, _ => h
  | i :: is, c, h, r => CInv.growAll hc (is := is) (c := growK cap c i) (h.grow hc r.1 r.2.1) r.2.2
end K59
set_option Elab.async false
set_option linter.all false
set_option maxRecDepth 100000
set_option maxHeartbeats 4000000
namespace K59
/-! ### a part's knots: marks, sizes -/
theorem mk_inj {a b : Int} (h : Src.mk a = Src.mk b) : a = b := by injection h
mutual
theorem gat_mk : ∀ {e : Nat} (p : Part) (ms : List Int) (g : KS), okD e p → p.sz ≤ ms.length → (∀ m, (p.gat ms g).2 = .mk m → m ∈ ms) ∧
    ∀ j, g.n ≤ j → j < (p.gat ms g).1.n → ∀ m, .mk m ∈ ((p.gat ms g).1.ks j).src → m ∈ ms
  | e, .one, ms, g, o, h => by
    refine ⟨fun m q => ?_, fun j h1 h2 => ?_⟩
    · have q : Src.mk (ms.headD 0) = .mk m := q
      have q := mk_inj q
      cases ms with
      | nil => exact absurd h (by decide)
      | cons a l => rw [← q]; exact List.mem_cons_self ..
    · have h2 : j < g.n := h2
      omega
  | 0, .sums ps, ms, g, o, h => o.elim
  | e + 1, .sums ps, ms, g, o, h => by
    obtain ⟨h1, h2⟩ := gats_mk ps ms g o.2.2 h
    rw [Part.gat]
    refine ⟨fun m q => (nomatch q), fun j a b m => ?_⟩
    have b : j < (Part.gats ps ms g).1.n + 1 := b
    show Src.mk m ∈ (updN (Part.gats ps ms g).1.ks (Part.gats ps ms g).1.n _ j).src → _
    by_cases c : j = (Part.gats ps ms g).1.n
    · subst c
      rw [updN_same]
      exact h1 m
    · rw [updN_ne c]
      exact h2 j a (by omega) m
theorem gats_mk : ∀ {e : Nat} (ps : List Part) (ms : List Int) (g : KS), (∀ p ∈ ps, okD e p) → Part.szs ps ≤ ms.length → (∀ m, .mk m ∈ (Part.gats ps ms g).2 → m ∈ ms) ∧
    ∀ j, g.n ≤ j → j < (Part.gats ps ms g).1.n → ∀ m, .mk m ∈ ((Part.gats ps ms g).1.ks j).src → m ∈ ms
  | e, [], ms, g, o, h => by
    refine ⟨fun m q => absurd q List.not_mem_nil, fun j h1 h2 => ?_⟩
    have h2 : j < g.n := h2
    omega
  | e, p :: ps, ms, g, o, h => by
    have h : p.sz + Part.szs ps ≤ ms.length := h
    obtain ⟨a1, a2⟩ := gat_mk p (ms.take p.sz) g (o p (List.mem_cons_self ..)) (by rw [List.length_take]; omega)
    obtain ⟨b1, b2⟩ := gats_mk ps (ms.drop p.sz) (p.gat (ms.take p.sz) g).1 (fun q hq => o q (List.mem_cons_of_mem _ hq)) (by rw [List.length_drop]; omega)
    rw [Part.gats]
    refine ⟨fun m q => ?_, fun j h1 h2 m q => ?_⟩
    · rcases List.mem_cons.mp (show Src.mk m ∈ (p.gat (ms.take p.sz) g).2 :: (Part.gats ps (ms.drop p.sz) (p.gat (ms.take p.sz) g).1).2 from q) with q | q
      · exact List.mem_of_mem_take (a1 m q.symm)
      · exact List.mem_of_mem_drop (b1 m q)
    · have h2 : j < (Part.gats ps (ms.drop p.sz) (p.gat (ms.take p.sz) g).1).1.n := h2
      have q : Src.mk m ∈ ((Part.gats ps (ms.drop p.sz) (p.gat (ms.take p.sz) g).1).1.ks j).src := q
      have e1 := gat_n p (ms.take p.sz) g
      by_cases c : j < (p.gat (ms.take p.sz) g).1.n
      · rw [gats_keep ps _ _ j c] at q
        exact List.mem_of_mem_take (a2 j h1 c m q)
      · exact List.mem_of_mem_drop (b2 j (by omega) h2 m q)
end
mutual
theorem gat_nd : ∀ {e : Nat} (p : Part) (ms : List Int) (g : KS), okD e p → p.sz ≤ ms.length → ms.Nodup →
    ∀ j, g.n ≤ j → j < (p.gat ms g).1.n → ((p.gat ms g).1.ks j).src.Nodup
  | e, .one, ms, g, o, h, nd, j, h1, h2 => by
    have h2 : j < g.n := h2
    omega
  | 0, .sums ps, ms, g, o, h, nd, j, h1, h2 => o.elim
  | e + 1, .sums ps, ms, g, o, h, nd, j, h1, h2 => by
    obtain ⟨a1, a2⟩ := gats_nd ps ms g o.2.2 h nd
    rw [Part.gat] at h2 ⊢
    have h2 : j < (Part.gats ps ms g).1.n + 1 := h2
    show (updN (Part.gats ps ms g).1.ks (Part.gats ps ms g).1.n _ j).src.Nodup
    by_cases c : j = (Part.gats ps ms g).1.n
    · subst c
      rw [updN_same]
      exact a1
    · rw [updN_ne c]
      exact a2 j h1 (by omega)
theorem gats_nd : ∀ {e : Nat} (ps : List Part) (ms : List Int) (g : KS), (∀ p ∈ ps, okD e p) → Part.szs ps ≤ ms.length → ms.Nodup →
    (Part.gats ps ms g).2.Nodup ∧ ∀ j, g.n ≤ j → j < (Part.gats ps ms g).1.n → ((Part.gats ps ms g).1.ks j).src.Nodup
  | e, [], ms, g, o, h, nd => by
    refine ⟨List.Pairwise.nil, fun j h1 h2 => ?_⟩
    have h2 : j < g.n := h2
    omega
  | e, p :: ps, ms, g, o, h, nd => by
    have h : p.sz + Part.szs ps ≤ ms.length := h
    have l1 : p.sz ≤ (ms.take p.sz).length := by rw [List.length_take]; omega
    have l2 : Part.szs ps ≤ (ms.drop p.sz).length := by rw [List.length_drop]; omega
    have op := o p (List.mem_cons_self ..)
    have os : ∀ q ∈ ps, okD e q := fun q hq => o q (List.mem_cons_of_mem _ hq)
    have a := gat_nd p (ms.take p.sz) g op l1 (nd.sublist (List.take_sublist _ _))
    obtain ⟨b1, b2⟩ := gats_nd ps (ms.drop p.sz) (p.gat (ms.take p.sz) g).1 os l2 (nd.sublist (List.drop_sublist _ _))
    have m1 := (gat_mk p (ms.take p.sz) g op l1).1
    have m2 := (gats_mk ps (ms.drop p.sz) (p.gat (ms.take p.sz) g).1 os l2).1
    have s1 := gat_src p (ms.take p.sz) g
    have s2 := gats_src ps (ms.drop p.sz) (p.gat (ms.take p.sz) g).1
    rw [Part.gats]
    refine ⟨?_, fun j h1 h2 => ?_⟩
    · show ((p.gat (ms.take p.sz) g).2 :: (Part.gats ps (ms.drop p.sz) (p.gat (ms.take p.sz) g).1).2).Nodup
      refine List.nodup_cons.mpr ⟨fun z => ?_, b1⟩
      cases e' : (p.gat (ms.take p.sz) g).2 with
      | mk m =>
        rw [e'] at z
        have q1 := m1 m e'
        have q2 := m2 m z
        rw [← List.take_append_drop p.sz ms, List.nodup_append] at nd
        exact nd.2.2 m q1 m q2 rfl
      | kn j =>
        rw [e'] at z
        have q1 := s1 j e'
        have q2 := s2 _ z j rfl
        omega
    · have h2 : j < (Part.gats ps (ms.drop p.sz) (p.gat (ms.take p.sz) g).1).1.n := h2
      show ((Part.gats ps (ms.drop p.sz) (p.gat (ms.take p.sz) g).1).1.ks j).src.Nodup
      by_cases c : j < (p.gat (ms.take p.sz) g).1.n
      · rw [gats_keep ps _ _ j c]
        exact a j h1 c
      · exact b2 j (by omega) h2
end
theorem KsOk.snoc {n : Nat} {ks : Nat → Kn} {k : Kn} (o : KsOk n ks) (h1 : ∀ j, .kn j ∈ k.src → j < n) (h2 : k.src.length ≤ 12) (h3 : (k.src.map (Src.sz ks)).sum = k.size) (h4 : prod1 (k.src.map (Src.sz ks)) ≤ 64) (h5 : k.size ≤ 12) : KsOk (n + 1) (updN ks n k) := by
  have e1 : ∀ i, i < n → updN ks n k i = ks i := fun i hi => updN_ne (by omega)
  have e2 : ∀ {l : List Src}, (∀ j, .kn j ∈ l → j < n) → l.map (Src.sz (updN ks n k)) = l.map (Src.sz ks) := fun {l} h => List.map_congr_left fun s hs => sz_eq fun j e => by subst e; exact e1 j (h j hs)
  have e3 : ∀ i, i < n → szsK (updN ks n k) (updN ks n k i) = szsK ks (ks i) := fun i hi => by
    rw [e1 i hi]; exact e2 fun j hj => Nat.lt_trans (o.low i hi j hj) hi
  have e4 : szsK (updN ks n k) (updN ks n k n) = k.src.map (Src.sz ks) := by rw [updN_same]; exact e2 h1
  have sp : ∀ {i}, i < n + 1 → i < n ∨ i = n := fun h => by omega
  refine ⟨fun i hi j hj => ?_, fun i hi => ?_, fun i hi => ?_, fun i hi => ?_, fun i hi => ?_⟩
  · rcases sp hi with hi | rfl
    · rw [e1 i hi] at hj; exact o.low i hi j hj
    · rw [updN_same] at hj; exact h1 j hj
  · rcases sp hi with hi | rfl
    · rw [e1 i hi]; exact o.few i hi
    · rw [updN_same]; exact h2
  · rcases sp hi with hi | rfl
    · rw [e3 i hi, e1 i hi]; exact o.sum i hi
    · rw [e4, updN_same]; exact h3
  · rcases sp hi with hi | rfl
    · rw [e3 i hi]; exact o.prod i hi
    · rw [e4]; exact h4
  · rcases sp hi with hi | rfl
    · rw [e1 i hi]; exact o.le i hi
    · rw [updN_same]; exact h5
theorem len_le_szs {e : Nat} : ∀ {ps : List Part}, (∀ p ∈ ps, okD e p) → ps.length ≤ Part.szs ps
  | [], _ => Nat.le_refl _
  | p :: ps, o => by
    have h1 := (o p (List.mem_cons_self ..)).pos
    have h2 := len_le_szs (ps := ps) fun q hq => o q (List.mem_cons_of_mem _ hq)
    show ps.length + 1 ≤ p.sz + Part.szs ps
    omega
theorem sz_le_szs : ∀ {ps : List Part} {p : Part}, p ∈ ps → p.sz ≤ Part.szs ps
  | [], p, h => absurd h List.not_mem_nil
  | q :: ps, p, h => by
    show p.sz ≤ q.sz + Part.szs ps
    rcases List.mem_cons.mp h with rfl | h
    · omega
    · have := sz_le_szs h; omega
mutual
theorem gat_ok : ∀ {e : Nat} (p : Part) (ms : List Int) (g : KS), okD e p → p.sz ≤ 6 → KsOk g.n g.ks → KsOk (p.gat ms g).1.n (p.gat ms g).1.ks
  | e, .one, ms, g, o, h, k => k
  | 0, .sums ps, ms, g, o, h, k => o.elim
  | e + 1, .sums ps, ms, g, o, h, k => by
    have h : Part.szs ps ≤ 6 := h
    have hl := len_le_szs o.2.2
    rw [Part.gat]
    have sz := gats_sz ps ms g
    refine KsOk.snoc (gats_ok ps ms g o.2.2 h k) (fun j hj => (gats_src ps ms g _ hj j rfl).2) ?_ ?_ ?_ ?_
    · show (Part.gats ps ms g).2.length ≤ 12
      rw [gats_len]; omega
    · show ((Part.gats ps ms g).2.map _).sum = Part.szs ps
      rw [sz, szs_eq]
    · show prod1 ((Part.gats ps ms g).2.map _) ≤ 64
      rw [sz]
      refine Nat.le_trans (prod1_le _) ?_
      rw [← szs_eq]
      exact Nat.le_trans (Nat.pow_le_pow_right (by decide) h) (by decide)
    · show Part.szs ps ≤ 12
      omega
theorem gats_ok : ∀ {e : Nat} (ps : List Part) (ms : List Int) (g : KS), (∀ p ∈ ps, okD e p) → Part.szs ps ≤ 6 → KsOk g.n g.ks → KsOk (Part.gats ps ms g).1.n (Part.gats ps ms g).1.ks
  | e, [], ms, g, o, h, k => k
  | e, p :: ps, ms, g, o, h, k => by
    have h : p.sz + Part.szs ps ≤ 6 := h
    rw [Part.gats]
    exact gats_ok ps _ _ (fun q hq => o q (List.mem_cons_of_mem _ hq)) (by omega) (gat_ok p _ g (o p (List.mem_cons_self ..)) (by omega) k)
end
/-! ### indices -/
theorem newIx_mem {a b i : Nat} : i ∈ newIx a b ↔ a ≤ i ∧ i < b := by
  unfold newIx
  rw [List.mem_map]
  constructor
  · rintro ⟨j, hj, rfl⟩
    have := List.mem_range.mp hj
    omega
  · rintro ⟨h1, h2⟩
    exact ⟨i - a, List.mem_range.mpr (by omega), by omega⟩
theorem newIx_rise (a b : Nat) : (newIx a b).Pairwise (· < ·) := by
  unfold newIx
  refine List.pairwise_map.mpr ?_
  exact List.pairwise_lt_range.imp fun h => by omega
theorem newIx_len (a b : Nat) : (newIx a b).length = b - a := by simp [newIx]
theorem newIx_last {a b : Nat} (h : a ≤ b) : newIx a (b + 1) = newIx a b ++ [b] := by
  unfold newIx
  have e : b + 1 - a = (b - a) + 1 := by omega
  rw [e, List.range_succ, List.map_append]
  show _ ++ [a + (b - a)] = _
  rw [show a + (b - a) = b by omega]
/-! ### knots may be grown in their order -/
theorem ready_of {cap : Nat} : ∀ (is : List Nat) (c : Core), Low c.g.ks c.g.n → is.Pairwise (· < ·) → (∀ i ∈ is, i < c.g.n) →
    (∀ i ∈ is, ∀ j, .kn j ∈ (c.g.ks i).src → j ∈ is ∨ min cap (c.g.ks j).size ≤ (c.outs j).length) → Ready cap c is
  | [], c, _, _, _, _ => trivial
  | i :: is, c, lo, r, hn, h => by
    obtain ⟨r1, r2⟩ := List.pairwise_cons.mp r
    have hi := hn i (List.mem_cons_self ..)
    have gr : ∀ j, (c.outs j).length ≤ ((growK cap c i).outs j).length := fun j => by
      show _ ≤ (updN c.outs i _ j).length
      by_cases e : j = i
      · subst e
        rw [updN_same, List.length_append]; omega
      · rw [updN_ne e]; omega
    refine ⟨hi, fun s hs j e => ?_, ready_of is (growK cap c i) lo r2 (fun j hj => hn j (List.mem_cons_of_mem _ hj)) fun j hj k hk => ?_⟩
    · subst e
      have hl := lo i hi j hs
      rcases h i (List.mem_cons_self ..) j hs with q | q
      · rcases List.mem_cons.mp q with q | q
        · omega
        · have := r1 j q; omega
      · exact q
    · rcases h j (List.mem_cons_of_mem _ hj) k hk with q | q
      · rcases List.mem_cons.mp q with rfl | q
        · refine .inr ?_
          show min cap (c.g.ks k).size ≤ (updN c.outs k _ k).length
          rw [updN_same, List.length_append, newNm_length]
          unfold lackN
          omega
        · exact .inl q
      · exact .inr (Nat.le_trans q (gr k))
theorem outs_grow {cap : Nat} : ∀ (is : List Nat) (c : Core) (j : Nat), (c.outs j).length ≤ ((growAll cap c is).outs j).length
  | [], c, j => Nat.le_refl _
  | i :: is, c, j => by
    refine Nat.le_trans ?_ (outs_grow is (growK cap c i) j)
    show _ ≤ (updN c.outs i _ j).length
    by_cases e : j = i
    · subst e
      rw [updN_same, List.length_append]; omega
    · rw [updN_ne e]; omega
theorem outs_full {cap : Nat} : ∀ (is : List Nat) (c : Core) (j : Nat), j ∈ is → min cap (c.g.ks j).size ≤ ((growAll cap c is).outs j).length
  | [], c, j, h => absurd h List.not_mem_nil
  | i :: is, c, j, h => by
    rcases List.mem_cons.mp h with rfl | h
    · refine Nat.le_trans ?_ (outs_grow is (growK cap c j) j)
      show _ ≤ (updN c.outs j _ j).length
      rw [updN_same, List.length_append, newNm_length]
      unfold lackN
      omega
    · exact outs_full is (growK cap c i) j h
theorem growAll_len {cap : Nat} : ∀ (is : List Nat) (c : Core), KsOk c.g.n c.g.ks → (∀ i ∈ is, i < c.g.n) → is.Nodup →
    (growAll cap c is).clauses.length = c.clauses.length + (is.map fun i => aheadN c.g.ks (c.g.ks i) (c.outs i) cap).sum
  | [], c, _, _, _ => rfl
  | i :: is, c, o, hn, nd => by
    obtain ⟨n1, n2⟩ := List.nodup_cons.mp nd
    have ih := growAll_len (cap := cap) is (growK cap c i) o (fun j hj => hn j (List.mem_cons_of_mem _ hj)) n2
    rw [growK_clauses (n := 0) o (hn i (List.mem_cons_self ..))] at ih
    rw [List.map_cons, List.sum_cons]
    have e : (is.map fun j => aheadN (growK cap c i).g.ks ((growK cap c i).g.ks j) ((growK cap c i).outs j) cap) = is.map fun j => aheadN c.g.ks (c.g.ks j) (c.outs j) cap := List.map_congr_left fun j hj => by
      show aheadN c.g.ks (c.g.ks j) (updN c.outs i _ j) cap = _
      have hne : j ≠ i := fun z => n1 (by rw [← z]; exact hj)
      rw [updN_ne hne]
    rw [e] at ih
    show (growAll cap (growK cap c i) is).clauses.length = _
    omega
theorem aheadN_mono {ks : Nat → Kn} {k : Kn} {l : List Int} {a b : Nat} (h : a ≤ b) : aheadN ks k l a ≤ aheadN ks k l b := by
  unfold aheadN
  refine sm_le (by unfold lackN; omega) fun i _ => ways_mono (by simp [lensK]) (fun j x y hx hy => ?_) _
  unfold lensK at hx hy
  rw [List.getElem?_map] at hx hy
  obtain ⟨s, hs, rfl⟩ := Option.map_eq_some_iff.mp hx
  rw [hs] at hy
  have hy : some (min b (s.sz ks)) = some y := hy
  cases hy
  omega
theorem roomN_mono {c : Core} {is : List Nat} {a b : Nat} (h : a ≤ b) : roomN c is a ≤ roomN c is b := by
  unfold roomN
  have : (is.map fun i => aheadN c.g.ks (c.g.ks i) (c.outs i) a).sum ≤ (is.map fun i => aheadN c.g.ks (c.g.ks i) (c.outs i) b).sum := map_sum_le fun i _ => aheadN_mono h
  omega
end K59
set_option Elab.async false
set_option linter.all false
set_option maxRecDepth 100000
set_option maxHeartbeats 4000000
namespace K59
/-- what holds of what a deed may take back -/
structure DInv (c : Core) (d : Dyn) : Prop where
  cap1 : 1 ≤ d.cap
  cap60 : d.cap ≤ 60
  mpos : 1 ≤ d.marks.length
  mks : d.marks.length ≤ 12
  cur : ∀ i ∈ d.cur, i < c.g.n
  ris : d.cur.Pairwise (· < ·)
  cul : d.cur.length ≤ 12 + 2 * d.marks.length
  last : ∃ l L, d.cur = l ++ [L] ∧ (c.g.ks L).size = d.marks.length
  clo : ∀ i ∈ d.cur, ∀ j, .kn j ∈ (c.g.ks i).src → j ∈ d.cur
  full : ∀ i ∈ d.cur, min d.cap (c.g.ks i).size ≤ (c.outs i).length
theorem DInv.mono {c c' : Core} {d : Dyn} (h : DInv c d) (hn : c.g.n ≤ c'.g.n) (hk : ∀ i, i < c.g.n → c'.g.ks i = c.g.ks i) (ho : ∀ i, i < c.g.n → (c.outs i).length ≤ (c'.outs i).length) : DInv c' d := by
  obtain ⟨h1, h2, h3, h4, h5, h6, h7, ⟨l, L, h8, h8'⟩, h9, h10⟩ := h
  refine ⟨h1, h2, h3, h4, fun i hi => Nat.lt_of_lt_of_le (h5 i hi) hn, h6, h7, ⟨l, L, h8, ?_⟩, fun i hi j hj => ?_, fun i hi => ?_⟩
  · rw [hk L (h5 L (by rw [h8]; simp))]; exact h8'
  · rw [hk i (h5 i hi)] at hj; exact h9 i hi j hj
  · rw [hk i (h5 i hi)]
    exact Nat.le_trans (h10 i hi) (ho i (h5 i hi))
theorem DInv.grown {c : Core} {d : Dyn} {cap : Nat} {is : List Nat} (h : DInv c d) : DInv (growAll cap c is) d := by
  refine h.mono (by rw [growAll_g]; exact Nat.le_refl _) (fun i _ => by rw [growAll_g]) fun i _ => outs_grow is c i
theorem DInv.lastOk {c : Core} {d : Dyn} (h : DInv c d) : LastOk c d := by
  obtain ⟨l, L, e, es⟩ := h.last
  have hm : L ∈ d.cur := by rw [e]; simp
  exact ⟨l, L, e, h.cur L hm, es, h.full L hm⟩
/-- what holds of a keeper and its model after some turns -/
structure Inv (t : Nat) (c : Core) (d : Dyn) (ah : List Dyn) (ev : List Int) : Prop where
  ci : CInv c ev
  di : DInv c d
  da : ∀ e ∈ ah, DInv c e
  ahl : ah.length ≤ t
  few : c.clauses.length ≤ 912
  kn : c.g.n ≤ 13 + 8 * t
  evl : ev.length ≤ 6 + 4 * t
theorem sm_const {f : Nat → Nat} {b : Nat} : ∀ {n : Nat}, (∀ i, i < n → f i ≤ b) → sm f n ≤ b * n
  | 0, _ => Nat.zero_le _
  | n + 1, h => by
    have h1 := sm_const (n := n) fun i hi => h i (by omega)
    have h2 := h n (by omega)
    show sm f n + f n ≤ _
    rw [Nat.mul_succ]; omega
theorem CInv.many {c : Core} {ev : List Int} (h : CInv c ev) : c.names.length ≤ 12 * c.g.n := by
  rw [h.nms]
  exact sm_const fun i hi => Nat.le_trans (h.ol i hi) (h.ok.le i hi)
theorem Inv.back {t : Nat} {c : Core} {d e : Dyn} {ah : List Dyn} {ev : List Int} (h : Inv t c d (ah ++ [e]) ev) : Inv (t + 1) c e ah ev := by
  obtain ⟨h1, h2, h3, h4, h5, h6, h7⟩ := h
  rw [List.length_append] at h4
  exact ⟨h1, h3 e (by simp), fun x hx => h3 x (List.mem_append_left _ hx), by omega, h5, by omega, by omega⟩
theorem Inv.bound {t : Nat} {c : Core} {d : Dyn} {ah : List Dyn} {ev : List Int} {o : Option Int} (h : Inv t c d ah ev) : Inv (t + 1) c { d with top := o } (ah ++ [d]) ev := by
  obtain ⟨h1, h2, h3, h4, h5, h6, h7⟩ := h
  refine ⟨h1, ⟨h2.cap1, h2.cap60, h2.mpos, h2.mks, h2.cur, h2.ris, h2.cul, h2.last, h2.clo, h2.full⟩, fun x hx => ?_, ?_, h5, by omega, by omega⟩
  · rcases List.mem_append.mp hx with hx | hx
    · exact h3 x hx
    · rw [List.mem_singleton.mp hx]; exact h2
  · rw [List.length_append]; show _ + 1 ≤ _; omega
theorem Inv.wider {t n : Nat} {c : Core} {d : Dyn} {ah : List Dyn} {ev : List Int} (h : Inv t c d ah ev) (ht : t ≤ 30) (o : DeedOk c d ah (.wider n)) :
    WiderOk c d ah n ∧ Inv (t + 1) (growAll n c d.cur) { d with cap := n } (ah ++ [d]) ev := by
  obtain ⟨h1, h2, h3, h4, h5, h6, h7⟩ := h
  obtain ⟨o1, o2, o3, o4⟩ := o
  have hm := h1.many
  have hmk := h2.mks
  have hc := h2.cul
  have rd : Ready n c d.cur := ready_of _ _ h1.ok.low h2.ris h2.cur fun i hi j hj => .inl (h2.clo i hi j hj)
  have rm : roomN c d.cur n ≤ 400 := Nat.le_trans (roomN_mono o2) o4
  have e := growAll_len (cap := n) d.cur c h1.ok h2.cur (h2.ris.imp fun q => by omega)
  unfold roomN at rm
  refine ⟨⟨by omega, o1, h1.ok, h1.ol, rd, h2.cur, by omega, by omega, by omega⟩, h1.growAll (by have := h2.cap1; omega) rd, ?_, fun x hx => ?_, ?_, by omega, by rw [growAll_g]; omega, by omega⟩
  · have g := h2.grown (cap := n) (is := d.cur)
    refine ⟨by have := h2.cap1; show 1 ≤ n; omega, by show n ≤ 60; omega, g.mpos, g.mks, g.cur, g.ris, g.cul, g.last, g.clo, fun i hi => ?_⟩
    rw [growAll_g]
    exact outs_full d.cur c i hi
  · rcases List.mem_append.mp hx with hx | hx
    · exact (h3 x hx).grown
    · rw [List.mem_singleton.mp hx]; exact h2.grown
  · rw [List.length_append]; show _ + 1 ≤ _; omega
theorem gat_src_old {p : Part} {ms : List Int} {g : KS} {j : Nat} (h1 : g.n ≤ j) (h2 : j < (p.gat ms g).1.n) {k : Nat} (hk : .kn k ∈ ((p.gat ms g).1.ks j).src) : g.n ≤ k ∧ k < j := gat_low p ms g j h1 h2 _ hk k rfl
theorem marks_nd {ms : List Int} (h : MarksOk ms) : ms.Nodup := (List.pairwise_map.mp h.nd).imp fun q z => q (by rw [z])
theorem more_prod {a b : Nat} (h : a + b ≤ 12) : prod1 [a, b] ≤ 64 := by
  show (1 * (a + 1)) * (b + 1) ≤ 64
  have ha : a ≤ 12 := by omega
  have hb : b ≤ 12 := by omega
  rw [Nat.one_mul]
  have h1 : (a + 1) * (b + 1) ≤ (a + 1) * (13 - a) := Nat.mul_le_mul_left _ (by omega)
  have h2 : ∀ a, a ≤ 12 → (a + 1) * (13 - a) ≤ 64 := by decide
  exact Nat.le_trans h1 (h2 a ha)
theorem Inv.more {t : Nat} {c : Core} {d : Dyn} {ah : List Dyn} {ev ms : List Int} {p : Part} (h : Inv t c d ah ev) (ht : t ≤ 30) (o : DeedOk c d ah (.more ms p)) :
    ∃ L, MoreOk c d ah L ms p ∧ Inv (t + 1) (growAll d.cap (moreC c L ms p) (newIx c.g.n (moreG c.g L ms p).n)) (moreD c d L ms p) (ah ++ [d]) (ev ++ ms) := by
  obtain ⟨h1, h2, h3, h4, h5, h6, h7⟩ := h
  obtain ⟨o1, o2, o3, o4, o5, o6, o7, o8, o9⟩ := o
  obtain ⟨l, L, hL, sL⟩ := h2.last
  have hm := h1.many
  have hmk := h2.mks
  have hc := h2.cul
  have hp1 := o1.pos
  have hmp := h2.mpos
  have Lm : L ∈ d.cur := by rw [hL]; simp
  have Ln := h2.cur L Lm
  have gn := gat_n p ms c.g
  have mn : (moreG c.g L ms p).n = (p.gat ms c.g).1.n + 1 := rfl
  have gk := gat_keep p ms c.g
  have gs := gat_src p ms c.g
  have okg := gat_ok p ms c.g o5 (by omega) h1.ok
  have gz := gat_sz p ms c.g
  -- the knots
  have mk' : ∀ j, j < (p.gat ms c.g).1.n → (moreG c.g L ms p).ks j = (p.gat ms c.g).1.ks j := fun j hj => updN_ne (by omega)
  have mkn : (moreG c.g L ms p).ks (p.gat ms c.g).1.n = ⟨[.kn L, (p.gat ms c.g).2], (c.g.ks L).size + p.sz⟩ := updN_same
  have mo : ∀ j, j < c.g.n → (moreG c.g L ms p).ks j = c.g.ks j := fun j hj => (mk' j (by omega)).trans (gk j hj)
  have ok2 : KsOk (moreG c.g L ms p).n (moreG c.g L ms p).ks := by
    have e : [Src.kn L, (p.gat ms c.g).2].map (Src.sz (p.gat ms c.g).1.ks) = [(c.g.ks L).size, p.sz] := by
      show [((p.gat ms c.g).1.ks L).size, (p.gat ms c.g).2.sz (p.gat ms c.g).1.ks] = _
      rw [gk L Ln, gz]
    refine KsOk.snoc okg (fun j hj => ?_) ?_ ?_ ?_ ?_
    · rcases List.mem_cons.mp (show Src.kn j ∈ [Src.kn L, (p.gat ms c.g).2] from hj) with z | z
      · injection z with z; omega
      · exact (gs j (List.mem_singleton.mp z).symm).2
    · show 2 ≤ 12; decide
    · show ([Src.kn L, (p.gat ms c.g).2].map _).sum = (c.g.ks L).size + p.sz
      rw [e]; simp
    · show prod1 ([Src.kn L, (p.gat ms c.g).2].map _) ≤ 64
      rw [e]
      exact more_prod (by omega)
    · show (c.g.ks L).size + p.sz ≤ 12
      omega
  have cc : (moreC c L ms p).g = moreG c.g L ms p := rfl
  have ce : (moreC c L ms p).outs = c.outs := rfl
  have new : ∀ {i}, i ∈ newIx c.g.n (moreG c.g L ms p).n → c.g.n ≤ i ∧ i < (p.gat ms c.g).1.n ∨ i = (p.gat ms c.g).1.n := fun {i} hi => by
    have := newIx_mem.mp hi
    rw [mn] at this
    omega
  have lt2 : ∀ {i}, i ∈ newIx c.g.n (moreG c.g L ms p).n → i < (moreG c.g L ms p).n := fun hi => (newIx_mem.mp hi).2
  have rd : Ready d.cap (moreC c L ms p) (newIx c.g.n (moreG c.g L ms p).n) := by
    refine ready_of _ _ ok2.low (newIx_rise _ _) (fun i hi => lt2 hi) fun i hi j hj => ?_
    rw [cc] at hj ⊢
    rcases new hi with ⟨a, b⟩ | rfl
    · rw [mk' i b] at hj
      have := gat_src_old a b hj
      exact .inl (newIx_mem.mpr ⟨this.1, by omega⟩)
    · rw [mkn] at hj
      rcases List.mem_cons.mp (show Src.kn j ∈ [Src.kn L, (p.gat ms c.g).2] from hj) with z | z
      · injection z with z
        subst z
        refine .inr ?_
        rw [mo j Ln]
        exact h2.full j Lm
      · have := gs j (List.mem_singleton.mp z).symm
        exact .inl (newIx_mem.mpr ⟨this.1, by omega⟩)
  have tp := topN_facts ms c.coming
  have mnd := marks_nd o1
  -- the core with the knots, before they grow
  have gm := gat_mk p ms c.g o5 (by omega)
  have gd := gat_nd p ms c.g o5 (by omega) mnd
  have ci : CInv (moreC c L ms p) (ev ++ ms) := by
    have cn : (moreC c L ms p).names = c.names := rfl
    have cl : (moreC c L ms p).clauses = c.clauses := rfl
    have co : (moreC c L ms p).coming = topN c.coming ms := rfl
    refine ⟨ok2, fun i hi => ?_, fun i hi => h1.out0 i (by rw [cc, mn] at hi; omega), ?_, h1.nmp, fun x hx => ?_, fun m hm => ?_, h1.osub, h1.ond, h1.odis, fun i hi => ?_, fun i hi m hm => ?_, h1.cnd, h1.cla, fun x hx m hm => ?_, h1.ccl, ?_⟩
    · rw [ce]
      by_cases q : i < c.g.n
      · rw [cc, mo i q]; exact h1.ol i q
      · rw [h1.out0 i (by omega)]; exact Nat.zero_le _
    · have := h1.co1
      rw [co]; omega
    · have := h1.nmr x hx
      rw [co]; omega
    · rw [co, cn]
      rcases List.mem_append.mp hm with hm | hm
      · have := h1.evc m hm
        exact ⟨by omega, this.2⟩
      · have := tp.2.1 m hm
        exact ⟨by omega, (o4 m hm).2⟩
    · rw [cc, mn] at hi
      rw [cc]
      by_cases q : i < c.g.n
      · rw [mo i q]; exact h1.snd i q
      · by_cases q2 : i < (p.gat ms c.g).1.n
        · rw [mk' i q2]; exact gd i (by omega) q2
        · have e : i = (p.gat ms c.g).1.n := by omega
          subst e
          rw [mkn]
          show [Src.kn L, (p.gat ms c.g).2].Nodup
          refine List.nodup_cons.mpr ⟨fun z => ?_, List.nodup_cons.mpr ⟨List.not_mem_nil, List.Pairwise.nil⟩⟩
          have := gs L (List.mem_singleton.mp z).symm
          omega
    · rw [cc, mn] at hi
      rw [cc] at hm
      by_cases q : i < c.g.n
      · rw [mo i q] at hm; exact List.mem_append_left _ (h1.smk i q m hm)
      · refine List.mem_append_right _ ?_
        by_cases q2 : i < (p.gat ms c.g).1.n
        · rw [mk' i q2] at hm; exact gm.2 i (by omega) q2 m hm
        · have e : i = (p.gat ms c.g).1.n := by omega
          subst e
          rw [mkn] at hm
          rcases List.mem_cons.mp (show Src.mk m ∈ [Src.kn L, (p.gat ms c.g).2] from hm) with z | z
          · cases z
          · exact gm.1 m (List.mem_singleton.mp z).symm
    · rcases h1.cin x hx m hm with q | q
      · exact .inl q
      · rw [List.map_append]; exact .inr (List.mem_append_left _ q)
    · rw [cn, h1.nms, ce]
      have z : ∀ k, sm (fun i => (c.outs i).length) (c.g.n + k) = sm (fun i => (c.outs i).length) c.g.n := by
        intro k
        induction k with
        | zero => rfl
        | succ k ih =>
          show sm (fun i => (c.outs i).length) (c.g.n + k) + (c.outs (c.g.n + k)).length = _
          rw [ih, h1.out0 _ (by omega)]; rfl
      have e : (moreC c L ms p).g.n = c.g.n + (p.nk + 1) := by rw [cc, mn]; omega
      rw [e, z]
  have dm : DInv (moreC c L ms p) d := h2.mono (by rw [cc, mn]; omega) (fun i hi => mo i hi) fun i _ => Nat.le_refl _
  have e := growAll_len (cap := d.cap) (newIx c.g.n (moreG c.g L ms p).n) (moreC c L ms p) ok2 (fun i hi => lt2 hi) (newIx_rise _ _ |>.imp fun q => by omega)
  have e2 := (growAll_few (cap := d.cap) (newIx c.g.n (moreG c.g L ms p).n) (moreC c L ms p) ok2 (fun i hi => lt2 hi)).1
  have e3 : (moreC c L ms p).clauses.length = c.clauses.length := rfl
  have e4 := newIx_len c.g.n (moreG c.g L ms p).n
  refine ⟨L, ⟨o1, o5.le (by decide), o6, by omega, by omega, by omega, by omega, o4, o9, ⟨l, hL⟩, h2.cur, fun x hx => (h3 x hx).cur, by omega, by omega, h2.cap1, h1.ok, h1.ol, h1.out0, ok2, rd⟩, ?_⟩
  refine ⟨ci.growAll h2.cap1 rd, ?_, fun x hx => ?_, ?_, by omega, ?_, by rw [List.length_append]; omega⟩
  · have g := dm.grown (cap := d.cap) (is := newIx c.g.n (moreG c.g L ms p).n)
    have mm : (moreD c d L ms p).marks = d.marks ++ ms := rfl
    have mc : (moreD c d L ms p).cur = d.cur ++ newIx c.g.n (moreG c.g L ms p).n := rfl
    have ml : (moreD c d L ms p).marks.length = d.marks.length + ms.length := by rw [mm, List.length_append]
    have inn : ∀ {i}, i ∈ (moreD c d L ms p).cur → i ∈ d.cur ∨ i ∈ newIx c.g.n (moreG c.g L ms p).n := fun hi => List.mem_append.mp hi
    refine ⟨h2.cap1, h2.cap60, by omega, by omega, fun i hi => ?_, ?_, ?_, ⟨d.cur ++ newIx c.g.n (p.gat ms c.g).1.n, (p.gat ms c.g).1.n, ?_, ?_⟩, fun i hi j hj => ?_, fun i hi => ?_⟩
    · rw [growAll_g, cc]
      rcases inn hi with q | q
      · have := h2.cur i q; omega
      · exact lt2 q
    · rw [mc]
      refine List.pairwise_append.mpr ⟨h2.ris, newIx_rise _ _, fun a ha b hb => ?_⟩
      have h1 := h2.cur a ha
      have h2 := (newIx_mem.mp hb).1
      omega
    · rw [mc, List.length_append, e4]; omega
    · rw [mc, mn, newIx_last (by omega), List.append_assoc]
    · rw [growAll_g, cc, mkn, ml]
      show (c.g.ks L).size + p.sz = _
      omega
    · rw [growAll_g, cc] at hj
      rw [mc]
      rcases inn hi with q | q
      · rw [mo i (h2.cur i q)] at hj
        exact List.mem_append_left _ (h2.clo i q j hj)
      · rcases new q with ⟨a, b⟩ | rfl
        · rw [mk' i b] at hj
          have := gat_src_old a b hj
          exact List.mem_append_right _ (newIx_mem.mpr ⟨this.1, by omega⟩)
        · rw [mkn] at hj
          rcases List.mem_cons.mp (show Src.kn j ∈ [Src.kn L, (p.gat ms c.g).2] from hj) with z | z
          · injection z with z
            subst z
            exact List.mem_append_left _ Lm
          · have := gs j (List.mem_singleton.mp z).symm
            exact List.mem_append_right _ (newIx_mem.mpr ⟨this.1, by omega⟩)
    · show min d.cap _ ≤ _
      rcases inn hi with q | q
      · exact g.full i q
      · rw [growAll_g]
        exact outs_full _ (moreC c L ms p) i q
  · rcases List.mem_append.mp hx with hx | hx
    · exact ((h3 x hx).mono (c' := moreC c L ms p) (by rw [cc, mn]; omega) (fun i hi => mo i hi) fun i _ => Nat.le_refl _).grown
    · rw [List.mem_singleton.mp hx]; exact dm.grown
  · rw [List.length_append]; show _ + 1 ≤ _; omega
  · rw [growAll_g, cc]; omega
/-- how it begins -/
theorem Inv.init {ms : List Int} {cap : Nat} {ps : List Part} {fresh : Option Int} (mo : MarksOk ms) (h6 : ms.length ≤ 6) (okp : okD 10 (.sums ps)) (hs : (Part.sums ps).sz = ms.length) (hk : (Part.sums ps).nk ≤ 13) (c1 : 1 ≤ cap) (c5 : cap ≤ 5)
    (fr : ∀ x, fresh = some x → topI ms + 1 ≤ x) : InitOk ms (.sums ps) cap fresh ∧ Inv 0 (growAll cap (core0 ms (.sums ps) fresh) (newIx 0 ((Part.sums ps).gat ms g0).1.n)) (dyn0 ms (.sums ps) cap) [] ms := by
  have gn : ((Part.sums ps).gat ms g0).1.n = (Part.sums ps).nk := (gat_n (.sums ps) ms g0).trans (Nat.zero_add _)
  have ok0 : KsOk g0.n g0.ks := ⟨fun i hi => absurd hi (Nat.not_lt_zero _), fun i hi => absurd hi (Nat.not_lt_zero _), fun i hi => absurd hi (Nat.not_lt_zero _), fun i hi => absurd hi (Nat.not_lt_zero _), fun i hi => absurd hi (Nat.not_lt_zero _)⟩
  have ok := gat_ok (.sums ps) ms g0 okp (by omega) ok0
  have low : ∀ i, i < ((Part.sums ps).gat ms g0).1.n → ∀ j, .kn j ∈ (((Part.sums ps).gat ms g0).1.ks i).src → j < i := fun i hi j hj => (gat_src_old (Nat.zero_le _) hi hj).2
  have rd : Ready cap (core0 ms (.sums ps) fresh) (newIx 0 ((Part.sums ps).gat ms g0).1.n) := by
    refine ready_of _ _ ok.low (newIx_rise _ _) (fun i hi => (newIx_mem.mp hi).2) fun i hi j hj => .inl ?_
    have h1 := (newIx_mem.mp hi).2
    have h2 := low i h1 j hj
    exact newIx_mem.mpr ⟨Nat.zero_le _, by omega⟩
  have nd := marks_nd mo
  have gm := gat_mk (.sums ps) ms g0 okp (by omega)
  have gd := gat_nd (.sums ps) ms g0 okp (by omega) nd
  have top0 : 0 ≤ topI ms := by
    cases ms with
    | nil => exact absurd mo.pos (by decide)
    | cons m ms =>
      have h1 := topI_ge (List.mem_cons_self (a := m) (l := ms))
      have h2 := absI_nn m
      omega
  have fre : topI ms + 1 ≤ freshI ms fresh := by
    cases fresh with
    | none => exact Int.le_refl _
    | some x => exact fr x rfl
  have ci : CInv (core0 ms (.sums ps) fresh) ms := by
    refine ⟨ok, fun i hi => Nat.zero_le _, fun i hi => rfl, ?_, List.Pairwise.nil, fun x hx => absurd hx List.not_mem_nil, fun m hm => ⟨?_, List.not_mem_nil⟩, fun i x hx => absurd hx List.not_mem_nil, fun i => List.Pairwise.nil, fun i j x hx => absurd hx List.not_mem_nil, fun i hi => gd i (Nat.zero_le _) hi, fun i hi => gm.2 i (Nat.zero_le _) hi, List.Pairwise.nil, fun x hx => absurd hx List.not_mem_nil, fun x hx => absurd hx List.not_mem_nil, fun x hx => absurd hx List.not_mem_nil, ?_⟩
    · show 1 ≤ freshI ms fresh
      omega
    · show absI m < freshI ms fresh
      have := topI_ge hm
      omega
    · show 0 = sm (fun _ => 0) _
      have : ∀ n, sm (fun _ => 0) n = 0 := by
        intro n
        induction n with
        | zero => rfl
        | succ n ih => show sm _ n + 0 = 0; rw [ih]
      rw [this]
  have e2 := (growAll_few (cap := cap) (newIx 0 ((Part.sums ps).gat ms g0).1.n) (core0 ms (.sums ps) fresh) ok (fun i hi => (newIx_mem.mp hi).2)).1
  have e4 := newIx_len 0 ((Part.sums ps).gat ms g0).1.n
  have e5 : (core0 ms (.sums ps) fresh).clauses.length = 0 := rfl
  have hp := mo.pos
  refine ⟨⟨mo, okp.le (by decide), hs, by omega, c1, fr, ok, rd⟩, ci.growAll c1 rd, ?_, fun x hx => absurd hx List.not_mem_nil, Nat.zero_le _, by omega, ?_, by omega⟩
  · refine ⟨c1, by show cap ≤ 60; omega, hp, by show ms.length ≤ 12; omega, fun i hi => ?_, newIx_rise _ _, ?_, ⟨newIx 0 (Part.gats ps ms g0).1.n, (Part.gats ps ms g0).1.n, ?_, ?_⟩, fun i hi j hj => ?_, fun i hi => ?_⟩
    · rw [growAll_g]; exact (newIx_mem.mp hi).2
    · show (newIx 0 ((Part.sums ps).gat ms g0).1.n).length ≤ 12 + 2 * ms.length
      omega
    · show newIx 0 ((Part.sums ps).gat ms g0).1.n = _
      rw [Part.gat]
      exact newIx_last (Nat.zero_le _)
    · rw [growAll_g]
      show ((((Part.sums ps).gat ms g0).1).ks _).size = ms.length
      rw [Part.gat]
      show (updN (Part.gats ps ms g0).1.ks (Part.gats ps ms g0).1.n _ (Part.gats ps ms g0).1.n).size = _
      rw [updN_same]; exact hs
    · rw [growAll_g] at hj
      have h1 := (newIx_mem.mp hi).2
      have h2 := low i h1 j hj
      exact newIx_mem.mpr ⟨Nat.zero_le _, by omega⟩
    · rw [growAll_g]
      exact outs_full _ _ i hi
  · rw [growAll_g]
    show ((Part.sums ps).gat ms g0).1.n ≤ _
    omega
end K59
set_option Elab.async false
set_option linter.all false
set_option maxRecDepth 100000
set_option maxHeartbeats 4000000
namespace K59
open PySem PySem.Spec PyProof.Rows L2
/-! ### five times and one more, modulo a power of two -/
def gN (i : Nat) : Nat → Nat
  | 0 => i
  | k + 1 => 5 * gN i k + 1
theorem gN_add (i a : Nat) : ∀ b, gN (gN i a) b = gN i (a + b)
  | 0 => rfl
  | b + 1 => by
    show 5 * gN (gN i a) b + 1 = 5 * gN i (a + b) + 1
    rw [gN_add i a b]
theorem gN_lin (i : Nat) : ∀ k, gN i k = 5 ^ k * i + gN 0 k
  | 0 => by show i = 5 ^ 0 * i + 0; rw [Nat.pow_zero]; omega
  | k + 1 => by
    show 5 * gN i k + 1 = 5 ^ (k + 1) * i + (5 * gN 0 k + 1)
    rw [gN_lin i k, Nat.pow_succ, Nat.mul_add, ← Nat.mul_assoc, Nat.mul_comm 5 (5 ^ k)]; omega
theorem gN_pow : ∀ k, 4 * gN 0 k + 1 = 5 ^ k
  | 0 => rfl
  | k + 1 => by
    have h := gN_pow k
    show 4 * (5 * gN 0 k + 1) + 1 = 5 ^ (k + 1)
    rw [Nat.pow_succ]; omega
theorem gN_odd : ∀ n, ∃ v, gN 0 (2 ^ n) = 2 ^ n * (2 * v + 1)
  | 0 => ⟨0, rfl⟩
  | n + 1 => by
    obtain ⟨v, h⟩ := gN_odd n
    have p1 := gN_pow (2 ^ n)
    have p2 := gN_pow (2 ^ (n + 1))
    generalize hN : 2 ^ n = N at h p1
    have e2 : 2 ^ (n + 1) = N + N := by rw [Nat.pow_succ, hN]; omega
    rw [e2] at p2 ⊢
    rw [Nat.pow_add, ← p1, h] at p2
    generalize hu : 2 * v + 1 = u at h p2
    refine ⟨v + N * (u * u), ?_⟩
    have q : 4 * gN 0 (N + N) + 1 = 4 * ((N + N) * (u + 2 * (N * (u * u)))) + 1 := by
      rw [p2]
      have a1 : (4 * (N * u) + 1) * (4 * (N * u) + 1) = 16 * ((N * u) * (N * u)) + 8 * (N * u) + 1 := by
        generalize N * u = z
        rw [Nat.add_mul, Nat.mul_add, Nat.one_mul, Nat.mul_one, Nat.mul_mul_mul_comm]; omega
      have a2 : (N + N) * (u + 2 * (N * (u * u))) = 2 * (N * u) + 4 * ((N * u) * (N * u)) := by
        have a3 : N * (N * (u * u)) = (N * u) * (N * u) := by
          rw [Nat.mul_mul_mul_comm N u N u, Nat.mul_assoc]
        rw [Nat.add_mul, Nat.mul_add, Nat.mul_left_comm N 2, a3]; omega
      rw [a1, a2]; omega
    have e3 : 2 * (v + N * (u * u)) + 1 = u + 2 * (N * (u * u)) := by omega
    rw [e3]
    omega
/-- from everywhere each is met -/
theorem gN_all : ∀ (n i j : Nat), j < 2 ^ n → ∃ k, k < 2 ^ n ∧ gN i k % 2 ^ n = j
  | 0, i, j, h => ⟨0, by decide, by rw [Nat.pow_zero] at h ⊢; omega⟩
  | n + 1, i, j, h => by
    have hpos : 0 < 2 ^ n := Nat.pow_pos (by decide)
    obtain ⟨v, hv⟩ := gN_odd n
    have hp := gN_pow (2 ^ n)
    have ih := gN_all n i (j % 2 ^ n) (Nat.mod_lt _ hpos)
    have e2 : 2 ^ (n + 1) = 2 * 2 ^ n := by rw [Nat.pow_succ]; omega
    rw [e2] at h ⊢
    generalize 2 ^ n = N at *
    obtain ⟨k, hk, e⟩ := ih
    by_cases c : gN i k % (2 * N) = j
    · exact ⟨k, by omega, c⟩
    · refine ⟨k + N, by omega, ?_⟩
      rw [← gN_add, gN_lin, ← hp, hv]
      generalize gN i k = y at *
      have e3 : (4 * (N * (2 * v + 1)) + 1) * y + N * (2 * v + 1) = (y + N) + 2 * N * (2 * ((2 * v + 1) * y) + v) := by
        have b1 : 4 * (N * (2 * v + 1)) * y = 4 * (N * ((2 * v + 1) * y)) := by rw [Nat.mul_assoc, Nat.mul_assoc]
        have b2 : N * (2 * v + 1) = 2 * (N * v) + N := by rw [Nat.mul_add, Nat.mul_left_comm, Nat.mul_one]
        have b3 : 2 * N * (2 * ((2 * v + 1) * y) + v) = 4 * (N * ((2 * v + 1) * y)) + 2 * (N * v) := by
          rw [Nat.mul_assoc, Nat.mul_add N, Nat.mul_left_comm N 2]; omega
        rw [Nat.add_mul, Nat.one_mul, b1, b2, b3]; omega
      rw [e3, Nat.add_mul_mod_self_left]
      have m1 : y % (2 * N) % N = y % N := Nat.mod_mul_left_mod ..
      have m2 : (y + N) % (2 * N) = (y % (2 * N) + N) % (2 * N) := by rw [Nat.mod_add_mod]
      rw [m2]
      have l1 : y % (2 * N) < 2 * N := Nat.mod_lt _ (by omega)
      generalize y % (2 * N) = z at *
      rw [← m1] at e
      by_cases d : z < N
      · have q1 : z % N = z := Nat.mod_eq_of_lt d
        rw [Nat.mod_eq_of_lt (by omega)]
        by_cases f : j < N
        · rw [Nat.mod_eq_of_lt f] at e; omega
        · have q2 : j % N = j - N := by rw [Nat.mod_eq_sub_mod (by omega), Nat.mod_eq_of_lt (by omega)]
          omega
      · have q1 : z % N = z - N := by rw [Nat.mod_eq_sub_mod (by omega), Nat.mod_eq_of_lt (by omega)]
        have q3 : (z + N) % (2 * N) = z - N := by rw [Nat.mod_eq_sub_mod (by omega), Nat.mod_eq_of_lt (by omega)]; omega
        rw [q3]
        by_cases f : j < N
        · rw [Nat.mod_eq_of_lt f] at e; omega
        · have q2 : j % N = j - N := by rw [Nat.mod_eq_sub_mod (by omega), Nat.mod_eq_of_lt (by omega)]
          omega
/-- the masks up to here -/
def MK (m : Nat) : Prop := m = 7 ∨ m = 31 ∨ m = 127 ∨ m = 511 ∨ m = 2047
theorem MK.pow {m : Nat} (h : MK m) : ∃ n, m + 1 = 2 ^ n := by
  rcases h with h | h | h | h | h
  · exact ⟨3, by subst h; decide⟩
  · exact ⟨5, by subst h; decide⟩
  · exact ⟨7, by subst h; decide⟩
  · exact ⟨9, by subst h; decide⟩
  · exact ⟨11, by subst h; decide⟩
theorem MK.odd {m : Nat} (h : MK m) : m % 2 = 1 ∧ m ≤ 2047 := by
  rcases h with h | h | h | h | h <;> omega
theorem lcgI_gN {m i : Nat} (hi : i ≤ m) : ∀ k, lcgI m i k = gN i k % (m + 1)
  | 0 => (Nat.mod_eq_of_lt (by show i < m + 1; omega)).symm
  | k + 1 => by
    show (lcgI m i k * 5 + 1) % (m + 1) = (5 * gN i k + 1) % (m + 1)
    rw [lcgI_gN hi k, Nat.add_mod, Nat.mod_mul_mod, ← Nat.add_mod, Nat.mul_comm]
/-- a run begins at each slot early enough -/
theorem meets {m : Nat} (hm : MK m) (h : Int) {j : Nat} (hj : j ≤ m) : ∃ n, n ≤ m + 12 ∧ runI m (SetTable.bits h) n = j := by
  obtain ⟨e, he⟩ := hm.pow
  obtain ⟨k, hk, q⟩ := gN_all e (runI m (SetTable.bits h) 12) j (by omega)
  refine ⟨12 + k, by omega, ?_⟩
  rw [runI_tail (bits_lt h), lcgI_gN (runI_le m _ 12), he]; exact q
/-- the first slot on the way that is none of some -/
theorem firstOut {m : Nat} (hm : MK m) (l : List Nat) (hl : l.length ≤ m) (h : Int) : ∃ K, K < 10 * SetTable.turns m ∧ way m h K ∉ l ∧ ∀ k, k < K → way m h k ∈ l := by
  obtain ⟨j, hj, hn⟩ := st_missing l (m + 1) (by omega)
  obtain ⟨n, hn2, e⟩ := meets hm h (j := j) (by omega)
  obtain ⟨k, hk, e2⟩ := run_nth m (SetTable.bits h) n
  have wk : way m h k = j := by
    show (nth m (runAt m _ _) k).j = j
    rw [e2]; exact e
  obtain ⟨K, h1, h2, h3⟩ := st_least (p := fun k => way m h k ∉ l) k (by show way m h k ∉ l; rw [wk]; exact hn)
  exact ⟨K, by unfold SetTable.turns; omega, h2, fun k' hk' => Classical.byContradiction fun z => h3 k' hk' z⟩
/-! ### laying all anew -/
structure Ow (m n : Nat) (ow : Array (Option Nat)) : Prop where
  sz : ow.size = m + 1
  all : ∀ k, k < n → ∃ j, j ≤ m ∧ oAt ow j = some k
  ps : ∃ ps : List Nat, ps.length = n ∧ ∀ j, j ≤ m → oAt ow j ≠ none → j ∈ ps
theorem ow_step {m n : Nat} (hm : MK m) {ow : Array (Option Nat)} (w : Ow m n ow) (hn : n ≤ m) (h : Int) :
    ∃ j, SetTable.layClean.free m ow (SetTable.turns m) (SetTable.bits h % (m + 1)) (SetTable.bits h) = some j ∧ Ow m (n + 1) (ow.setIfInBounds j (some n)) := by
  obtain ⟨ps, p1, p2⟩ := w.ps
  obtain ⟨j0, a1, a2⟩ := st_missing ps (m + 1) (by omega)
  have a3 : oAt ow j0 = none := Classical.byContradiction fun z => a2 (p2 j0 (by omega) z)
  obtain ⟨r, r1, r2⟩ := meets hm h (j := j0) (by omega)
  have r3 : way m h (off m (SetTable.bits h % (m + 1)) (SetTable.bits h) r) = j0 := by
    show (nth m (runAt m _ _) _).j = j0
    rw [nth_off, itL_run]; exact r2
  obtain ⟨K, k1, k2, k3⟩ := st_least (p := fun k => oAt ow (way m h k) = none) _ (show oAt ow (way m h (off m (SetTable.bits h % (m + 1)) (SetTable.bits h) r)) = none by rw [r3]; exact a3)
  have hle : way m h K ≤ m := by
    have b := runEnd_bd (m := m) (i := SetTable.bits h % (m + 1)) (Nat.le_of_lt_succ (Nat.mod_lt _ (Nat.succ_pos _)))
    have q := nth_in (m := m) K (runAt m (SetTable.bits h % (m + 1)) (SetTable.bits h)) (by show SetTable.bits h % (m + 1) + (SetTable.runEnd m (SetTable.bits h % (m + 1)) - SetTable.bits h % (m + 1)) ≤ m; omega)
    show (nth m (runAt m _ _) K).j ≤ m
    omega
  have hlt : way m h K < ow.size := by rw [w.sz]; omega
  have same := oAt_set_self (some n) hlt
  refine ⟨way m h K, free_spec m ow _ r _ _ K (by unfold SetTable.turns; omega) k1 (fun k hk => ?_) (by have q : oAt ow (nth m (runAt m (SetTable.bits h % (m + 1)) (SetTable.bits h)) K).j = none := k2; rw [q]; rfl), ?_⟩
  · have q := k3 k hk
    cases z : oAt ow (nth m (runAt m (SetTable.bits h % (m + 1)) (SetTable.bits h)) k).j with
    | none => exact absurd z q
    | some _ => rfl
  refine ⟨by rw [Array.size_setIfInBounds]; exact w.sz, fun k hk => ?_, ⟨way m h K :: ps, by rw [List.length_cons, p1], fun j hj z => ?_⟩⟩
  · by_cases c : k = n
    · exact ⟨_, hle, by rw [same, c]⟩
    · obtain ⟨j, b1, b2⟩ := w.all k (by omega)
      refine ⟨j, b1, ?_⟩
      have hne : j ≠ way m h K := fun z => by rw [z, k2] at b2; cases b2
      rw [oAt_set_ne _ hne]; exact b2
  · by_cases c : j = way m h K
    · rw [c]; exact List.mem_cons_self ..
    · rw [oAt_set_ne _ c] at z
      exact List.mem_cons_of_mem _ (p2 j hj z)
theorem ow_all {m : Nat} (hm : MK m) : ∀ (hs : List Int) (n : Nat) (ow : Array (Option Nat)), Ow m n ow → n + hs.length ≤ m → ∃ ow', hs.foldl (stepF m) (some (ow, n)) = some (ow', n + hs.length) ∧ Ow m (n + hs.length) ow'
  | [], n, ow, w, _ => ⟨ow, rfl, w⟩
  | h :: hs, n, ow, w, hl => by
    rw [List.length_cons] at hl
    obtain ⟨j, e, w1⟩ := ow_step hm w (by omega) h
    obtain ⟨ow', e2, w2⟩ := ow_all hm hs (n + 1) _ w1 (by omega)
    rw [List.foldl_cons, stepF_some e, e2, List.length_cons]
    rw [show n + 1 + hs.length = n + (hs.length + 1) by omega] at w2 ⊢
    exact ⟨ow', rfl, w2⟩
theorem relaid_mk (t : SetTable) {hs : Array Int} {wanted M : Nat} (hw : SetTable.sizeAbove wanted - 1 = M) (hM : MK M) (hn : hs.size ≤ M) :
    ∃ t' order, t.relaid hs wanted = some (t', order) ∧ order.toList.Perm (List.range hs.size) ∧ Ris t'.place.toList ∧ t'.place.size = hs.size ∧ t'.dummies = #[] ∧ t'.mask = M ∧ t'.plain = t.plain := by
  have w0 : Ow M 0 (Array.replicate (M + 1) none) := ⟨by simp, fun k hk => absurd hk (Nat.not_lt_zero _), [], rfl, fun j hj z => absurd (oAt_init hj) z⟩
  have hz : hs.toList.length = hs.size := Array.length_toList
  obtain ⟨ow, e, w⟩ := ow_all hM hs.toList 0 _ w0 (by omega)
  rw [Nat.zero_add, hz] at w
  have lc : SetTable.layClean M hs = some ow := by rw [layClean_eq, e]; rfl
  have rl := relaid_eq t hs wanted
  rw [hw, lc] at rl
  have ris := ris_live (fun j => ow.getD j none) (List.range (M + 1)) List.pairwise_lt_range
  have fst : Ris ((liveOf M ow).map fun q : Nat × Nat => q.1) := ris.1
  have hlen : (liveOf M ow).length = hs.size := by
    obtain ⟨ps, p1, p2⟩ := w.ps
    have up := nat_nodup_len ((liveOf M ow).map fun q : Nat × Nat => q.1) ps (fst.imp fun h => Nat.ne_of_lt h) fun x hx => by
      obtain ⟨⟨y, k⟩, hq, rfl⟩ := List.mem_map.mp hx
      obtain ⟨b1, b2⟩ := (mem_live w.sz).1 hq
      exact p2 y b1 (by rw [b2]; exact fun z => nomatch z)
    have dn := nat_nodup_len (List.range hs.size) ((liveOf M ow).map fun q : Nat × Nat => q.2) List.nodup_range fun k hk => by
      obtain ⟨j, b1, b2⟩ := w.all k (List.mem_range.mp hk)
      exact List.mem_map.mpr ⟨(j, k), (mem_live w.sz).2 ⟨b1, b2⟩, rfl⟩
    rw [List.length_map] at up dn
    rw [List.length_range] at dn
    omega
  refine ⟨tabOf t M ow, ((liveOf M ow).map fun q : Nat × Nat => q.2).toArray, rl, ?_, fst, ?_, rfl, rfl, rfl⟩
  · refine perm_range hs.size _ (by rw [List.length_map, hlen]) fun k hk => ?_
    obtain ⟨j, b1, b2⟩ := w.all k hk
    exact List.mem_map.mpr ⟨(j, k), (mem_live w.sz).2 ⟨b1, b2⟩, rfl⟩
  · show ((liveOf M ow).map fun q : Nat × Nat => q.1).toArray.size = hs.size
    rw [List.size_toArray, List.length_map, hlen]
end K59
set_option Elab.async false
set_option linter.all false
set_option maxRecDepth 100000
set_option maxHeartbeats 4000000
namespace K59
open PySem PySem.Spec PyProof.Rows L2
/-! ### a set of unlike tuples of ints, under way -/
structure TSet (P : Program) (w : World) (h : Heap) (a : Addr) (L : List (Addr × List Int)) (es : Array (Int × Value)) (ep : Nat) (t : SetTable) : Prop where
  ob : ∃ o, h.get? a = some o ∧ o.ExactSet ∧ o.data = .set es ep t
  el : ∀ e ∈ es.toList, ∃ p ∈ L, e = (thash P w p.2, .ref p.1)
  sz : es.size = L.length
  ris : Ris t.place.toList
  dm : t.dummies = #[]
  psz : t.place.size = L.length
  mok : MK t.mask
  tup : ∀ p ∈ L, IsT P w h p.2 p.1
  plain : t.plain = true
  room : L.length * 5 < t.mask * 3
section
variable {P : Program} {w : World} {A : Around} {E : Value → Shared → Prop} {s : Shared} {a : Addr} {L : List (Addr × List Int)} {es : Array (Int × Value)} {ep : Nat} {t : SetTable}
theorem TSet.fits (R : TSet P w s.heap a L es ep t) : t.fits es.size = true := by
  have h1 := R.psz
  have h2 := R.sz
  have h3 := R.room
  have e : (t.place.size == es.size) = true := beq_iff_eq.mpr (by omega)
  have f : t.fill ≤ t.mask := by
    show t.place.size + t.dummies.size ≤ t.mask
    rw [R.dm]
    show t.place.size + 0 ≤ t.mask
    omega
  show (t.place.size == es.size && decide (t.fill ≤ t.mask)) = true
  rw [e, decide_eq_true f]; rfl
theorem TSet.noGap (R : TSet P w s.heap a L es ep t) : ¬ t.gaveWay = true := by
  show ¬ (t.mask % 2 == 0) = true
  rw [R.mok.odd.1]; decide
/-- the states of a search -/
abbrev stA (t : SetTable) (h : Int) (c : Nat) : SetTable.Probe := nth t.mask (runAt t.mask (SetTable.bits h % (t.mask + 1)) (SetTable.bits h)) c
theorem nth_dm (m : Nat) : ∀ (n : Nat) (p : SetTable.Probe), p.dummy = none → (nth m p n).dummy = none
  | 0, p, h => h
  | n + 1, p, h => nth_dm m n (adv m p) (by unfold adv; split <;> exact h)
/-- a new tuple's search ends at a slot that is free -/
theorem tsearch (R : TSet P w s.heap a L es ep t) {x : Addr} {k : List Int} (hx : IsT P w s.heap k x) (hk : ∀ p ∈ L, p.2 ≠ k) (hu : A.units < cLine) {K : Nat} (hK1 : K < 10 * SetTable.turns t.mask) (hK2 : way t.mask (thash P w k) K ∉ t.place.toList)
    (hK3 : ∀ c, c < K → way t.mask (thash P w k) c ∈ t.place.toList) {Q : SetFound → Shared → Prop} (q : Q (.free (way t.mask (thash P w k) K) false) s) :
    ∀ (f c : Nat) (stand : Option SetTable.Probe), stand.getD (t.probeStart (thash P w k)) = stA t (thash P w k) c → c ≤ K → K < f + c → wpAny (model P w) A (setSearchFrom a (.ref x) (thash P w k) true f stand) Q E s
  | 0, c, stand, _, hc, hf => absurd hf (by omega)
  | f + 1, c, stand, hs, hc, hf => by
    obtain ⟨o, ho, hex, hd⟩ := R.ob
    have shift : ∀ b, nth t.mask (stA t (thash P w k) c) b = stA t (thash P w k) (c + b) := fun b => (nth_add t.mask c _ b).symm
    have wj : ∀ b, (nth t.mask (stA t (thash P w k) c) b).j = way t.mask (thash P w k) (c + b) := fun b => by rw [shift]
    have pl := R.psz
    have sz := R.sz
    rw [setSearchFrom_succ]
    refine wpAny_bind (wpAny_setState_of ho hd R.fits ?_)
    dsimp only
    refine wp_if_neg R.noGap ?_
    try refine wpAny_bind (wpAny_pure ?_)
    have spec := go_spec t R.ris R.dm (fun i => (es[i]?.map (·.1)).getD 0) (thash P w k) (10 * SetTable.turns t.mask) (K - c) (stA t (thash P w k) c) (nth_dm _ c _ rfl) (by omega) (fun b hb => by rw [wj]; exact hK3 _ (by omega)) (by rw [wj, Nat.add_sub_cancel' hc]; exact hK2)
    have pe : t.probe (fun i => (es[i]?.map (·.1)).getD 0) (thash P w k) (stand.getD (t.probeStart (thash P w k))) = SetTable.probe.go t (fun i => (es[i]?.map (·.1)).getD 0) (thash P w k) (10 * SetTable.turns t.mask) (stA t (thash P w k) c) := by rw [hs]; rfl
    rcases spec with ⟨b, i, hb, hi, _, _, go⟩ | ⟨_, go⟩
    · rw [pe, go]
      dsimp only
      have il : i < es.size := by
        have := (List.getElem?_eq_some_iff.mp hi).1
        rw [Array.length_toList] at this
        omega
      obtain ⟨p, pL, pp⟩ := R.el es[i] (by simp)
      have ent : es[i]? = some (thash P w p.2, .ref p.1) := by rw [Array.getElem?_eq_getElem il, pp]
      have hpx := R.tup p pL
      have ne := hk p pL
      have live := slot_live R.ris hi
      have go2 : wpAny (model P w) A (searchRest a (.ref x) (thash P w k) true f es t (nth t.mask (stA t (thash P w k) c) b).j i (nth t.mask (stA t (thash P w k) c) (b + 1))) Q E s := by
        unfold searchRest
        rw [ent]
        dsimp only
        refine wpAny_bind (wpAny_holding (wpAny_eqBool_tuple hu hpx hx (wpAny_bind (wpAny_setState_of ho hd R.fits ?_))))
        dsimp only
        refine wp_if_neg (by simp [ne]) ?_
        try refine wpAny_bind (wpAny_pure ?_)
        rw [sameMem]
        dsimp only
        simp only [if_true, live, ent]
        refine wpAny_bind (wpAny_isSame_ref_self (wpAny_bind (wpAny_pure ?_)))
        simp only [if_true]
        refine wp_if_neg (by simp [ne]) ?_
        exact tsearch R hx hk hu hK1 hK2 hK3 q f (c + (b + 1)) (some _) (shift _) (by omega) (by omega)
      cases hl : t.led with
      | true =>
        refine wp_if_neg (by decide) ?_
        try refine wpAny_bind (wpAny_pure ?_)
        exact go2
      | false =>
        refine wp_if_pos (by decide) (wpAny_bind (seen_tup hx (fun y hy => ?_) ?_))
        · obtain ⟨e, he, rfl⟩ := List.mem_map.mp hy
          have he2 : e ∈ es.toList := by
            have he3 : e ∈ es ∧ e.1 = thash P w k := by simpa using he
            simpa using he3.1
          obtain ⟨p2, h2, rfl⟩ := R.el e he2
          exact ⟨p2.2, p2.1, rfl, R.tup p2 h2⟩
        · refine wp_if_neg (by decide) ?_
          try refine wpAny_bind (wpAny_pure ?_)
          exact go2
    · rw [pe, go]
      dsimp only
      refine wpAny_pure ?_
      rw [wj, Nat.add_sub_cancel' hc]
      exact q
theorem perm_entries {es : Array (Int × Value)} {order : Array Nat} (h : order.toList.Perm (List.range es.size)) : (order.filterMap (es[·]?)).toList.Perm es.toList := by
  have e1 : (order.filterMap (es[·]?)).toList = order.toList.filterMap fun i => es[i]? := by simp
  have e2 := filterMap_getElem?_range es
  rw [e1]
  have h2 := h.filterMap fun i => es[i]?
  rw [e2] at h2
  exact h2
theorem sizes_up {n m : Nat} (hm : MK m) (h1 : n * 5 < m * 3) (h2 : m * 3 ≤ (n + 1) * 5) (hn : n < 1000) : ∃ M, SetTable.sizeAbove (SetTable.grown (n + 1)) - 1 = M ∧ MK M ∧ SetTable.sizeAbove (SetTable.grown (n + 1)) ≤ 2048 ∧ (n + 1) * 5 < M * 3 := by
  rcases hm with h | h | h | h | h
  · have e : n = 4 := by omega
    subst e
    exact ⟨31, by decide +kernel, .inr (.inl rfl), by decide +kernel, by decide⟩
  · have e : n = 18 := by omega
    subst e
    exact ⟨127, by decide +kernel, .inr (.inr (.inl rfl)), by decide +kernel, by decide⟩
  · have e : n = 76 := by omega
    subst e
    exact ⟨511, by decide +kernel, .inr (.inr (.inr (.inl rfl))), by decide +kernel, by decide⟩
  · have e : n = 306 := by omega
    subst e
    exact ⟨2047, by decide +kernel, .inr (.inr (.inr (.inr rfl))), by decide +kernel, by decide⟩
  · omega
/-- a new tuple is put in -/
theorem tadd (R : TSet P w s.heap a L es ep t) {x : Addr} {k : List Int} (hx : IsT P w s.heap k x) (hk : ∀ p ∈ L, p.2 ≠ k) (hu : A.units < cLine) (hn : L.length < 1000) {Q : Bool → Shared → Prop}
    (q : ∀ h' es' ep' t', Heap.SameBut a s.heap h' → TSet P w h' a (L ++ [(x, k)]) es' ep' t' → Q true { s with heap := h' }) : wpAny (model P w) A (setAddHashed a (.ref x) (thash P w k)) Q E s := by
  obtain ⟨o, ho, hex, hd⟩ := R.ob
  have sz := R.sz
  have pl := R.psz
  have room := R.room
  have hn1 : (L ++ [(x, k)]).length = L.length + 1 := by simp
  obtain ⟨K, K1, K2, K3⟩ := firstOut R.mok t.place.toList (by rw [Array.length_toList]; omega) (thash P w k)
  have hK : K < 100000 := by have := R.mok.odd.2; unfold SetTable.turns at K1; omega
  unfold setAddHashed
  refine wpAny_holding ?_
  rw [show 100000 = 99999 + 1 from rfl, setAddHashedIn_succ]
  refine wpAny_bind (wpAny_setState_of ho hd R.fits ?_)
  dsimp only
  refine wp_if_neg (by simp [byScan, Value.scannable]) ?_
  try refine wpAny_bind (wpAny_pure ?_)
  refine wpAny_bind (?_ : wpAny _ _ (setSearch a _ _ true) _ _ _)
  unfold setSearch
  refine tsearch R hx hk hu K1 K2 K3 ?_ 100000 0 none rfl (Nat.zero_le _) (by omega)
  dsimp only
  refine wpAny_bind (wpAny_setState_of ho hd R.fits ?_)
  generalize way t.mask (thash P w k) K = j at K2
  dsimp only
  have pp := put_place t j
  have pd := put_dm R.dm j
  have np : t.place[SetTable.below t.place j]? ≠ some j := fun z => K2 (List.mem_of_getElem? (by rw [Array.getElem?_toList]; exact z))
  have pr : Ris (t.put j).1.place.toList := ris_insert R.ris np
  have cut := (below_cut R.ris j).1
  have ps : (t.put j).1.place.size = L.length + 1 := by
    rw [← Array.length_toList, pp, len_ins _ (by rw [Array.length_toList]; exact cut), Array.length_toList]; omega
  have pm : (t.put j).1.mask = t.mask := rfl
  have pq : (t.put j).1.plain = true := R.plain
  have p2 : (t.put j).2 = SetTable.below t.place j := rfl
  generalize t.put j = pt at pr ps pd pm pq p2 ⊢
  obtain ⟨t1, b⟩ := pt
  dsimp only at pr ps pd pm pq p2 ⊢
  first
    | (refine wpAny_bind ?_; refine wp_if_pos pq ?_; refine hashBy_tup hx ?_)
    | refine wp_if_pos pq (wpAny_bind (hashBy_tup hx ?_))
  simp only [if_true]
  have ip := SetTable.insertAt_perm es b (thash P w k, Value.ref x)
  have isz : (SetTable.insertAt es b (thash P w k, Value.ref x)).size = L.length + 1 := by
    have := ip.length_eq
    rw [Array.length_toList, Array.length_toList, Array.size_push] at this
    omega
  have iel : ∀ e ∈ (SetTable.insertAt es b (thash P w k, Value.ref x)).toList, ∃ p ∈ L ++ [(x, k)], e = (thash P w p.2, .ref p.1) := fun e he => by
    have he := ip.mem_iff.mp he
    rw [Array.toList_push] at he
    rcases List.mem_append.mp he with he | he
    · obtain ⟨p, h1, h2⟩ := R.el e he
      exact ⟨p, List.mem_append_left _ h1, h2⟩
    · exact ⟨(x, k), by simp, List.mem_singleton.mp he⟩
  generalize SetTable.insertAt es b (thash P w k, Value.ref x) = es1 at isz iel ⊢
  refine wpAny_bind (wpAny_storeSet_of ho hd ?_ (by rw [isz, sizeLine_eq]; omega))
  have sb : Heap.SameBut a s.heap (s.heap.update a (Obj.putSet es1 t1)) := Heap.SameBut.update ..
  have ho1 := store_at (es' := es1) (t' := t1) ho hd
  generalize s.heap.update a (Obj.putSet es1 t1) = h1 at sb ho1 ⊢
  have fl : t1.fill = L.length + 1 := by
    show t1.place.size + t1.dummies.size = _
    rw [ps, pd]; rfl
  have tu : ∀ {h2 : Heap}, Heap.SameBut a s.heap h2 → ∀ p ∈ L ++ [(x, k)], IsT P w h2 p.2 p.1 := fun sb2 p hp => by
    rcases List.mem_append.mp hp with hp | hp
    · exact isT_same (R.tup p hp) ho hd sb2
    · rw [List.mem_singleton.mp hp]; exact isT_same hx ho hd sb2
  by_cases full : t1.tooFull = true
  · have big : t.mask * 3 ≤ (L.length + 1) * 5 := by
      have h := of_decide_eq_true full
      rw [fl, pm] at h
      exact h
    obtain ⟨M, M1, M2, M3, M4⟩ := sizes_up R.mok room big hn
    obtain ⟨t2, order, re, rp, r1, r2, r3, r4, r5⟩ := relaid_mk t1 (hs := es1.map (·.1)) M1 M2 (by rw [Array.size_map]; omega)
    rw [Array.size_map] at rp r2
    have perm := perm_entries rp
    have esz : (order.filterMap (es1[·]?)).size = es1.size := by
      have := perm.length_eq
      rwa [Array.length_toList, Array.length_toList] at this
    have fits1 : t1.fits es1.size = true := by
      show (t1.place.size == es1.size && decide (t1.fill ≤ t1.mask)) = true
      rw [fl, ps, isz, pm, decide_eq_true (by omega), beq_self_eq_true]; rfl
    first
      | (refine wpAny_bind ?_; refine wp_if_pos (by simp [full]) ?_)
      | (refine wp_if_pos (by simp [full]) ?_; refine wpAny_bind ?_)
    rw [sz, setRelay_eq]
    refine wpAny_bind (wpAny_setState_of (s := { s with heap := h1 }) ho1 rfl fits1 ?_)
    dsimp only
    refine wp_if_neg (by rw [sizeLine_eq]; omega) ?_
    try refine wpAny_bind (wpAny_pure ?_)
    rw [re]
    dsimp only
    refine wpAny_bind ?_
    refine wp_if_neg (by rw [esz]; simp) ?_
    try refine wpAny_bind (wpAny_pure ?_)
    refine wpAny_pure ?_
    dsimp only
    refine wpAny_storeSet_of (s := { s with heap := h1 }) ho1 rfl ?_ (by rw [esz, isz, sizeLine_eq]; omega)
    have ho2 := store_at (es' := order.filterMap (es1[·]?)) (t' := t2) ho1 rfl
    have sb2 : Heap.SameBut a s.heap (h1.update a (Obj.putSet (order.filterMap (es1[·]?)) t2)) := sb.trans (Heap.SameBut.update ..)
    refine wpAny_pure (q _ (order.filterMap (es1[·]?)) (ep + 1 + 1) t2 sb2 ⟨⟨_, ho2, ⟨hex.1, hex.2.1, hex.2.2⟩, rfl⟩, fun e he => iel e (perm.mem_iff.mp he), ?_, r1, r3, ?_, by rw [r4]; exact M2, tu sb2, by rw [r5]; exact pq, ?_⟩)
    · rw [esz, isz, hn1]
    · rw [r2, isz, hn1]
    · rw [hn1, r4]; exact M4
  · first
      | refine wp_if_neg (by simp [full]) ?_
      | (refine wpAny_bind ?_; refine wp_if_neg (by simp [full]) ?_; refine wpAny_pure ?_)
    refine wpAny_pure (q h1 es1 (ep + 1) t1 sb ⟨⟨_, ho1, ⟨hex.1, hex.2.1, hex.2.2⟩, rfl⟩, iel, by rw [isz, hn1], pr, pd, by rw [ps, hn1], by rw [pm]; exact R.mok, tu sb, pq, ?_⟩)
    have h : ¬ (t1.fill * 5 ≥ t1.mask * 3) := fun z => full (decide_eq_true z)
    rw [fl] at h
    rw [hn1]
    omega
theorem isTk {h h' : Heap} {k : List Int} {b : Addr} (x : IsT P w h k b) (hk : ∀ c o, h.get? c = some o → h'.get? c = some o) : IsT P w h' k b := isT_keep x hk
/-- a set of tuples in a later heap -/
theorem TSet.later {h h' : Heap} (R : TSet P w h a L es ep t) (ha : ∀ o, h.get? a = some o → h'.get? a = some o) (ht : ∀ p ∈ L, IsT P w h' p.2 p.1) : TSet P w h' a L es ep t := by
  obtain ⟨o, ho, r⟩ := R.ob
  exact ⟨⟨o, ha o ho, r⟩, R.el, R.sz, R.ris, R.dm, R.psz, R.mok, ht, R.plain, R.room⟩
/-- all of some unlike tuples are put in, one behind another -/
theorem tloop {I S : Addr} {fp wr : List Addr} {G : Array GenState → Array GenState → Prop} {n : Nat} {Pv : Nat → Value → Prop} {St : Nat → Shared → Prop} {C : Result → Shared → Prop} (W : WalksS P w A.in1 I fp wr G n Pv St) (out : S ∉ fp) {ks : List (Addr × List Int)} (hn : n = ks.length) (few : n ≤ 1000)
    (nd : (ks.map fun p => p.2).Nodup) (hv : ∀ i v, Pv i v → ∃ p, ks[i]? = some p ∧ v = .ref p.1) {h0 : Heap} (hk : ∀ p ∈ ks, IsT P w h0 p.2 p.1) (n0 : h0.get? S = none) (n1 : ∀ b ∈ wr, h0.get? b = none) (hu : A.in1.units < cLine) :
    ∀ (r i : Nat) (s : Shared), i + r = n → St i s → (∀ b o, h0.get? b = some o → s.heap.get? b = some o) → (∃ es ep t, TSet P w s.heap S (ks.take i) es ep t) →
      (∀ s' es ep t, Moved (S :: wr) G s s' → (∀ b o, h0.get? b = some o → s'.heap.get? b = some o) → TSet P w s'.heap S ks es ep t → C (.ok (.ret .none)) s') → codeAny (model P w) A (.builtin "set.update.loop" ⟨[.ref S, .ref I], []⟩) C s
  | 0, i, s, hi, st, old, ⟨es, ep, t, R⟩, q => by
    have e : i = n := hi
    subst e
    refine codeAny_builtin F.entry_set_update_loop ?_
    rw [Around.under_plainId F.plain_set_update_loop _]
    refine (wpAny_bind (W.done s _ _ st fun s' m => ?_) : wpAny _ A.in1 (pyNext (.ref I) >>= _) _ _ s)
    have old' : ∀ b o, h0.get? b = some o → s'.heap.get? b = some o := fun b o e => m.heap b o (fun z => by rw [n1 b z] at e; cases e) (old b o e)
    rw [hn, List.take_length] at R
    exact wpAny_pure (q s' es ep t (m.mono fun b z => List.mem_cons_of_mem _ z) old' (R.later (fun o e => m.heap S o (fun z => out (W.sub _ z)) e) fun p hp => isTk (hk p hp) old'))
  | r + 1, i, s, hi, st, old, ⟨es, ep, t, R⟩, q => by
    have lt : i < n := by omega
    refine codeAny_builtin F.entry_set_update_loop ?_
    rw [Around.under_plainId F.plain_set_update_loop _]
    refine (wpAny_bind (W.item i s _ _ lt st fun v s' pv st' m => ?_) : wpAny _ A.in1 (pyNext (.ref I) >>= _) _ _ s)
    obtain ⟨⟨x, k⟩, hp, rfl⟩ := hv i v pv
    have old' : ∀ b o, h0.get? b = some o → s'.heap.get? b = some o := fun b o e => m.heap b o (fun z => by rw [n1 b z] at e; cases e) (old b o e)
    have R' : TSet P w s'.heap S (ks.take i) es ep t := R.later (fun o e => m.heap S o (fun z => out (W.sub _ z)) e) fun p hp => isTk (hk p (List.mem_of_mem_take hp)) old'
    have hx : IsT P w s'.heap k x := isTk (hk _ (List.mem_of_getElem? hp)) old'
    have tk : ks.take (i + 1) = ks.take i ++ [(x, k)] := by rw [List.take_succ, hp]; rfl
    have new : ∀ p ∈ ks.take i, p.2 ≠ k := fun p hq z => by
      have nd2 : ((ks.take (i + 1)).map fun p => p.2).Nodup := nd.sublist ((List.take_sublist _ _).map _)
      rw [tk, List.map_append, List.nodup_append] at nd2
      exact nd2.2.2 p.2 (List.mem_map_of_mem hq) k (List.mem_singleton.mpr rfl) z
    refine (wpAny_bind (wpAny_holding ?_) : wpAny _ _ (holding [Value.ref x] (setAdd S (.ref x)) >>= _) _ _ s')
    unfold setAdd
    refine wpAny_holding (wpAny_bind (wpAny_pyHash_tuple hu hx ?_))
    refine tadd (s := { s' with toks := s'.toks + (k.length + 1) }) R' hx new hu (by rw [List.length_take]; omega) fun h' es' ep' t' sb R2 => ?_
    have old2 : ∀ b o, h0.get? b = some o → h'.get? b = some o := fun b o e => (sb.2 b fun z => by rw [z, n0] at e; cases e).trans (old' b o e)
    rw [← tk] at R2
    refine wpAny_pure ⟨plainId_quiet F.plain_set_update_loop _, tloop W out hn few nd hv hk n0 n1 hu r (i + 1) _ (by omega) (W.frame _ s' _ _ st' (Nat.le_add_right _ _) fun b z o e => ?_) old2 ⟨es', ep', t', R2⟩ fun s2 es2 ep2 t2 m2 old3 R3 => ?_⟩
    · rw [sb.2 b fun y => out (y ▸ z)]; exact e
    · refine q s2 es2 ep2 t2 (Moved.trans W.gtrans ((m.mono fun b z => List.mem_cons_of_mem _ z).then_heap (Nat.le_add_right _ _) fun b o z e => ?_) m2) old3 R3
      rw [sb.2 b fun y => z (by rw [y]; exact List.mem_cons_self ..)]; exact e
/-- the object of a new set -/
abbrev newSet (w : World) : Obj := { cls := .type "set", dict := none, data := .set #[] 0 (.fresh 0 0 (!w.params.followText "set-order")) }
theorem tset0 {h : Heap} (e : h.get? a = some (newSet w)) : TSet P w h a [] #[] 0 (.fresh 0 0 (!w.params.followText "set-order")) :=
  ⟨⟨_, e, ⟨rfl, rfl, rfl⟩, rfl⟩, fun e he => (by cases he), rfl, List.Pairwise.nil, rfl, rfl, .inl rfl, fun p hp => (by cases hp), rfl, (by show 0 * 5 < 7 * 3; decide)⟩
set_option maxHeartbeats 8000000 in
/-- set(xs), xs a list of unlike tuples of ints -/
theorem call_tset {l : Addr} {its : Array Value} {ks : List (Addr × List Int)} {Q : Value → Shared → Prop} (hh : A.handled = none) (hl : s.heap.IsList l its) (hi : its.toList = ks.map fun p => Value.ref p.1) (hk : ∀ p ∈ ks, IsT P w s.heap p.2 p.1)
    (nd : (ks.map fun p => p.2).Nodup) (few : ks.length ≤ 1000) (hu : A.units + 3 < cLine) (q : ∀ h' tk es ep t, TSet P w h' s.heap.objs.size ks es ep t → (∀ b o, s.heap.get? b = some o → h'.get? b = some o) → Q (.ref s.heap.objs.size) { s with heap := h', toks := tk }) :
    wpAny (model P w) A (call (.type "set") [.ref l]) Q E s := by
  obtain ⟨c, tl, hmro⟩ := F.called_set.mro
  have f1 := F.called_set.made
  have f2 := F.called_set.sub
  have f3 := F.called_set.notType
  have f4 := F.called_set.canCreate
  have f5 := F.typeCall_set_1 (.ref l)
  have n0 : ∀ b, s.heap.objs.size ≤ b → s.heap.get? b = none := fun b hb => by
    cases e : s.heap.get? b with
    | none => rfl
    | some o => exact absurd (Heap.lt_size e) (Nat.not_lt.mpr hb)
  have ll : l < s.heap.objs.size := by obtain ⟨o, e, _⟩ := hl; exact Heap.lt_size e
  have sz : its.size = ks.length := by rw [← Array.length_toList, hi, List.length_map]
  refine wpAny_call (codeAny_of_tree (?_ : wpAny _ _ (callAny (.type "set") _) _ _ _))
  refine wpAny_pure ⟨Code.quiet_builtin _ (by decide +kernel), codeAny_builtin F.entry_type_call ?_⟩
  rw [Around.under_plain (weight_type_call_type "set" [.ref l] []) rfl]
  repeat (any_goals (first | assumption | wp_step))
  refine codeAny_mono (code_set_led1 (.ref l) (E := E) (Q₁ := fun v s1 => v = .ref s.heap.objs.size ∧ s1 = { s with heap := s.heap.push (newSet w) }) ⟨rfl, rfl⟩) fun r s1 hr => ?_
  rcases r with e | fl
  · exact hr
  cases fl with
  | ret v =>
    obtain ⟨rfl, rfl⟩ := hr
    have hS : (s.heap.push (newSet w)).get? s.heap.objs.size = some (newSet w) := Heap.get?_push_size _ rfl
    have hT : Shared.TypeIs { s with heap := s.heap.push (newSet w) } (.ref s.heap.objs.size) "set" := ⟨_, hS, rfl⟩
    have f6 := F.called_set.init.lookup
    have f7 := F.called_set.init.bind (.ref s.heap.objs.size)
    repeat (any_goals (first | assumption | wp_step))
    refine codeAny_mono (codeAny_call_builtin (R := wants (fun r s2 => r = .none ∧ ∃ h' tk es ep t, s2 = { s with heap := h', toks := tk } ∧ TSet P w h' s.heap.objs.size ks es ep t ∧ ∀ b o, s.heap.get? b = some o → h'.get? b = some o) E) F.called_set.init.plain F.entry_set_init (check_set_init_1 hT ?_)) fun r2 s2 hr2 => ?_
    · obtain ⟨⟨oc, od, oda, osl⟩, hol, rfl, nl, rfl⟩ := hl
      have hl1 : (s.heap.push (newSet w)).IsList l its := ⟨_, Heap.get?_push_of_some _ hol, rfl, nl, rfl⟩
      have hol' := Heap.get?_push_of_some (newSet w) hol
      have g1 := F.sub_list_set
      have g2 := F.sub_list_frozenset
      have g3 : (Value.type "list" == Value.type "dict") = false := by decide
      unfold Builtin.«set.__init__» noKeywords Builtin.Frozenset.updateFrom
      generalize hPI : pyIter = PI
      wp_walk
      subst hPI
      refine wpAny_pyIter_list hl1 (wpAny_bind (wpAny_runValue ?_))
      have hz : (s.heap.push (newSet w)).objs.size = s.heap.objs.size + 1 := Heap.size_push ..
      refine tloop ((Walks.list (by simp [hh]) _ l (by rw [hz]; exact Nat.ne_of_lt (Nat.lt_succ_of_lt ll)) its).toS) (S := s.heap.objs.size) (fun z => by
          rw [hz] at z
          rcases List.mem_cons.mp z with z | z
          · exact absurd z (Nat.ne_of_lt (Nat.lt_succ_self _))
          · exact absurd (List.mem_singleton.mp z) (Nat.ne_of_gt ll)) (ks := ks) sz (by omega) nd (fun i v hv => ?_) (h0 := s.heap) hk (n0 _ (Nat.le_refl _)) (fun b hb => n0 b (by rw [List.mem_singleton.mp hb, hz]; omega)) hu its.size 0 _ (Nat.zero_add _)
        ⟨⟨_, Heap.get?_push_size _ rfl, rfl, rfl⟩, hl1.push _⟩ (fun b o e => Heap.get?_push_of_some _ (Heap.get?_push_of_some _ e)) ⟨#[], 0, _, tset0 (Heap.get?_push_of_some _ hS)⟩ fun s3 es ep t m old R => ?_
      · have e : its.toList[i]? = some v := by rw [Array.getElem?_toList]; exact hv
        rw [hi, List.getElem?_map] at e
        obtain ⟨p, e1, e2⟩ := Option.map_eq_some_iff.mp e
        exact ⟨p, e1, e2.symm⟩
      · obtain ⟨h3, g3, d3, t3, o3⟩ := s3
        obtain rfl : g3 = s.gens := m.gens
        obtain rfl : d3 = s.drawn := m.drawn
        obtain rfl : o3 = s.os := m.os
        show wpAny _ _ _ _ _ _
        refine wpAny_pure ?_
        show wpAny _ _ (ret Value.none) _ _ _
        exact wpAny_pure ⟨rfl, h3, t3, es, ep, t, rfl, R, old⟩
    · rcases r2 with e | fl2
      · exact hr2
      cases fl2 with
      | ret v =>
        obtain ⟨rfl, h', tk, es, ep, t, rfl, R, old⟩ := hr2
        repeat (any_goals (first | assumption | wp_step))
        exact q _ _ _ _ _ R old
      | _ => exact hr2.elim
  | _ => exact hr.elim
end
section
variable {X : Cx}
/-- set(xs) of unlike tuples of ints, by its number -/
theorem call_setT (hc : X.calm = true) (hu : X.A.units + 64 < cLine) : CallR X (.type "set") (fun xs H Q => ∃ l vs nss, xs = [.ref l] ∧ SqL X.K H l vs ∧ Rel (TI H) vs nss ∧ nss.Nodup ∧ nss.length ≤ 1000 ∧ ∀ p, H p = none → Q (.ref p) (upd H p (SetN p nss.length))) := by
  intro pins s σ H xs us Q I r h
  obtain ⟨l, vs, nss, rfl, hl, rel, nd, few, q⟩ := h
  rw [Vals.ref1 r]
  have hlen : vs.length = nss.length := rel.1
  -- the addresses, with what they hold
  have pick : ∀ (ws : List V) (ms : List (List Int)), Rel (TI H) ws ms → ∃ ks : List (Addr × List Int), ws = ks.map (fun p => V.ref p.1) ∧ ks.map (fun p => p.2) = ms ∧ ∀ p ∈ ks, H p.1 = some (.tup (isV p.2)) := by
    intro ws
    induction ws with
    | nil =>
      intro ms r
      have e : ms = [] := List.eq_nil_of_length_eq_zero r.1.symm
      exact ⟨[], rfl, e.symm, fun p hp => absurd hp List.not_mem_nil⟩
    | cons v ws ih =>
      intro ms r
      cases ms with
      | nil => exact absurd r.1 (by simp)
      | cons n ms =>
        obtain ⟨a, e, ha⟩ := r.2 0 v n rfl rfl
        obtain ⟨ks, k1, k2, k3⟩ := ih ms ⟨by simpa using r.1, fun i x y hx hy => r.2 (i + 1) x y hx hy⟩
        refine ⟨(a, n) :: ks, by rw [List.map_cons, e, k1], by rw [List.map_cons, k2], fun p hp => ?_⟩
        rcases List.mem_cons.mp hp with rfl | hp
        · exact ha
        · exact k3 p hp
  obtain ⟨ks, k1, k2, k3⟩ := pick vs nss rel
  have kl : ks.length = nss.length := by rw [← k2, List.length_map]
  obtain ⟨its, rv, pl, hz⟩ := I.list (by rw [k1] at hl; exact hl)
  refine call_tset (ks := ks) (I.ok.hd hc) pl.isList (by simpa using refs_of_vals rv) (fun p hp => I.isT (.of (k3 p hp))) (by rw [k2]; exact nd) (by omega) (by omega) fun h' tk es ep t R old => ?_
  obtain ⟨o, ho, hex, hd⟩ := R.ob
  exact ⟨.ref s.heap.objs.size, _, I.laid (t' := tk) old (Nat.le_refl _) (setN_ok ⟨o, es, ep, t, ho, hex, hd, TSet.fits (s := { s with heap := h', toks := tk }) R, by rw [R.sz, kl]⟩), rfl, q _ (I.hok.fresh (Nat.le_refl _))⟩
end
end K59
set_option Elab.async false
set_option linter.all false
set_option maxRecDepth 100000
set_option maxHeartbeats 4000000
namespace K59
open PySem PySem.Spec PyProof.Rows L2
theorem DeedAt.mv {φ φ' : Addr → Nat} {H H' : Hp} {v : V} {D : Deed} {M : Addr → Prop} (h : DeedAt φ H v D) (f : Fm M H H') (hM : ∀ b, M b → φ b ≠ 0) (e : Ext φ φ' H) : DeedAt φ' H' v D := by
  cases D with
  | back => obtain ⟨t, e1, ht⟩ := h; exact ⟨t, e1, f.tups _ _ ht⟩
  | bound o => obtain ⟨t, e1, ht⟩ := h; exact ⟨t, e1, f.tups _ _ ht⟩
  | wider n => obtain ⟨t, e1, ht⟩ := h; exact ⟨t, e1, f.tups _ _ ht⟩
  | more ms p =>
    obtain ⟨t, am, vp, e1, ht, ham, zam, hp⟩ := h
    exact ⟨t, am, vp, e1, f.tups _ _ ht, f.at ham fun m => hM _ m zam, by rw [e _ (live_of ham)]; exact zam, hp.fm f⟩
theorem LT.odd {t : Nat} (h : LT t) : t ≠ 0 ∧ ¬ PT t ∧ t ≠ 5 := by
  have k : ∀ {u : Nat}, PT u → u = 1 ∨ u = 2 ∨ u = 3 ∨ u = 4 ∨ ∃ i, u = 10 + 2 * i := fun h => h
  have l : t = 6 ∨ t = 7 ∨ t = 11 ∨ t = 13 ∨ ∃ i, t = 15 + 2 * i := h
  refine ⟨h.ne, fun z => ?_, ?_⟩
  · rcases l with l | l | l | l | ⟨i, l⟩ <;> rcases k z with z | z | z | z | ⟨j, z⟩ <;> omega
  · rcases l with l | l | l | l | ⟨i, l⟩ <;> omega
theorem PT.even {t : Nat} (h : PT t) : t ≠ 0 ∧ ¬ LT t ∧ t ≠ 5 := by
  have l : t = 1 ∨ t = 2 ∨ t = 3 ∨ t = 4 ∨ ∃ i, t = 10 + 2 * i := h
  refine ⟨h.ne, fun z => z.odd.2.1 h, ?_⟩
  rcases l with l | l | l | l | ⟨i, l⟩ <;> omega
theorem isV_nil : isV [] = [] := rfl
theorem isV_cat (l m : List Int) : isV l ++ isV m = isV (l ++ m) := by unfold isV; rw [List.map_append]
/-- what stands at a turn's begin -/
structure LoopAt (K : PySem.W.Frag) (t cl tl mk : Addr) (j : Nat) (H : Hp) (φ : Addr → Nat) (pa pb : Nat → Addr × Addr) (a : KA) (b : MA) (c : Core) (d : Dyn) (ah : List Dyn) (ev : List Int) : Prop where
  tp : Tp φ H t cl (101 + 200 * j)
  lv : Live φ H
  ks : KpAt K φ H pa a c d ah
  md : MdAt φ H pb b c d ah
  tq : H tl = some (.lst a.cv)
  tz : φ tl = 0
  mq : H mk = some (.lst (isV ev))
  mz : φ mk = 0
  inv : Inv j c d ah ev
/-- what stands behind a deed -/
structure DidAt (K : PySem.W.Frag) (t cl kp mh tl mk : Addr) (j : Nat) (cv ncv : List V) (ev ms : List Int) (H : Hp) (φ : Addr → Nat) (pa pb : Nat → Addr × Addr) (a : KA) (b : MA) (c : Core) (d : Dyn) (ah : List Dyn) : Prop where
  ka : a.kp = kp
  mb : b.mh = mh
  tp : Tp φ H t cl (101 + 200 * (j + 1))
  lv : Live φ H
  ks : KpAt K φ H pa a c d ah
  md : MdAt φ H pb b c d ah
  tq : H tl = some (.lst cv)
  tz : φ tl = 0
  mq : H mk = some (.lst (isV ev))
  mz : φ mk = 0
  cv : a.cv = cv ++ ncv
  inv : Inv (j + 1) c d ah (ev ++ ms)
/-- what stands behind a turn -/
structure EndAt (K : PySem.W.Frag) (t cl kp mh tl mk : Addr) (j : Nat) (ncv : List V) (H : Hp) (φ : Addr → Nat) (pa pb : Nat → Addr × Addr) (a : KA) (b : MA) (c : Core) (d : Dyn) (ah : List Dyn) (ev : List Int) : Prop where
  ka : a.kp = kp
  mb : b.mh = mh
  L : LoopAt K t cl tl mk (j + 1) H φ pa pb a b c d ah ev
  cls : ∀ (i : Nat) v, ncv[i]? = some v → ∃ x ∈ c.clauses, TI H v x
  many : ncv.length ≤ 912
section
variable {K : PySem.W.Frag} {t cl kp mh tl mk : Addr} {j : Nat} {cv ncv : List V} {ev ms : List Int} {H H' : Hp} {φ : Addr → Nat} {pa pb : Nat → Addr × Addr} {a : KA} {b : MA} {c : Core} {d : Dyn} {ah : List Dyn}
theorem DidAt.sm (x : DidAt K t cl kp mh tl mk j cv ncv ev ms H φ pa pb a b c d ah) (f : Sm H H') : DidAt K t cl kp mh tl mk j cv ncv ev ms H' φ pa pb a b c d ah :=
  ⟨x.ka, x.mb, x.tp.sm f, x.lv.fm f, x.ks.sm f, x.md.sm f, f.at x.tq, x.tz, f.at x.mq, x.mz, x.cv, x.inv⟩
theorem LoopAt.sm (x : LoopAt K t cl tl mk j H φ pa pb a b c d ah ev) (f : Sm H H') : LoopAt K t cl tl mk j H' φ pa pb a b c d ah ev :=
  ⟨x.tp.sm f, x.lv.fm f, x.ks.sm f, x.md.sm f, f.at x.tq, x.tz, f.at x.mq, x.mz, x.inv⟩
theorem EndAt.sm (x : EndAt K t cl kp mh tl mk j ncv H φ pa pb a b c d ah ev) (f : Sm H H') : EndAt K t cl kp mh tl mk j ncv H' φ pa pb a b c d ah ev :=
  ⟨x.ka, x.mb, x.L.sm f, fun i v h => by obtain ⟨y, h1, h2⟩ := x.cls i v h; exact ⟨y, h1, h2.fm f⟩, x.many⟩
theorem DidAt.end {tl2 mk2 : Addr} (x : DidAt K t cl kp mh tl mk j cv ncv ev ms H φ pa pb a b c d ah) (h1 : H tl2 = some (.lst (cv ++ ncv))) (z1 : φ tl2 = 0) (h2 : H mk2 = some (.lst (isV (ev ++ ms)))) (z2 : φ mk2 = 0) : EndAt K t cl kp mh tl2 mk2 j ncv H φ pa pb a b c d ah (ev ++ ms) := by
  have hl := x.ks.cl.1
  have hf := x.inv.few
  have hc := x.cv
  refine ⟨x.ka, x.mb, ⟨x.tp, x.lv, x.ks, x.md, by rw [h1, x.cv], z1, h2, z2, x.inv⟩, fun i v h => ?_, ?_⟩
  · have hi := (List.getElem?_eq_some_iff.mp h).1
    have e : a.cv[cv.length + i]? = some v := by rw [hc, List.getElem?_append_right (by omega), Nat.add_sub_cancel_left]; exact h
    have hj := (List.getElem?_eq_some_iff.mp e).1
    rw [hl] at hj
    exact ⟨c.clauses[cv.length + i], List.getElem_mem _, x.ks.cl.2 _ v _ e (List.getElem?_eq_getElem hj)⟩
  · rw [hc, List.length_append] at hl; omega
end
section
variable {P : Program} {w : World} {K : PySem.W.Frag} {mg : Str → Option Value} {base : Heap}
theorem sc_law : FnScope ["_law_script", "_law_tape", "_law_first", "_law_turn", "_law_names", "_law_keeper", "_law_held", "_law_told", "_law_marks_here", "_law_found", "_law_known", "_law_clause", "_law_deed_here", "_law_made_here", "_law_name", "_law_meaning", "_law_mark"] ["_law_script"] (defScope s_law) := ⟨rfl, rfl, rfl, by decide +kernel, rfl, by decide +kernel, by decide +kernel⟩
theorem perm_rise {l m : List Int} (p : l.Perm m) (h1 : l.Pairwise (· ≤ ·)) (h2 : m.Pairwise (· < ·)) : l = m :=
  List.Perm.eq_of_pairwise (fun a b _ _ x y => Int.le_antisymm x y) h1 (h2.imp fun h => Int.le_of_lt h) p
theorem all_flat (l : List Int) : (isV l).all flatV = true := by
  rw [List.all_eq_true]
  intro x hx
  obtain ⟨m, _, rfl⟩ := List.mem_map.mp hx
  rfl
theorem inV_not {x : Int} {l : List Int} (h : x ∉ l) : inV (.int x) (isV l) = false := by
  unfold inV
  rw [List.any_eq_false]
  intro y hy z
  obtain ⟨m, hm, rfl⟩ := List.mem_map.mp hy
  have e : m = x := by simpa [eqV] using z
  exact h (e ▸ hm)
theorem paired_refs {K : PySem.W.Frag} {H : Hp} {vs : List V} {xs : List (List Int)} (r : Rel (TI H) vs xs) : Paired (EqV K H 1) vs vs := by
  have h : ∀ v ∈ vs, ∃ a, v = .ref a := fun v hv => by
    obtain ⟨i, hi, e⟩ := List.getElem_of_mem hv
    have e2 : vs[i]? = some v := by rw [List.getElem?_eq_getElem hi, e]
    have hx : i < xs.length := by rw [← r.1]; exact hi
    obtain ⟨a, e3, _⟩ := r.2 i v _ e2 (List.getElem?_eq_getElem hx)
    exact ⟨a, e3⟩
  clear r
  induction vs with
  | nil => exact .nil
  | cons v vs ih =>
    obtain ⟨a, e⟩ := h v (List.mem_cons_self ..)
    exact .cons (.inr (.inl ⟨a, e, e⟩)) (ih fun u hu => h u (List.mem_cons_of_mem _ hu))
def spLaw : Sp := fun vs H Q _ => ∃ (a : Addr) (ns : List Int), vs = [.ref a] ∧ SqL K H a (isV ns) ∧ ∀ H', Q (.bl true) H'
theorem ok_law (hd : Hd K mg) {fd : FuncData} (F : FunD K "law" "law" (defArgs s_law) (defBody s_law) (defScope s_law) [] [] (He.ga K "law") fd) : FnOk P w K mg base CX0 33 (He.ga K "law") fd ["_law_script"] (spLaw (K := K)) := by
  refine F.ok sc_law (fun vs H Q E h => ?_) (fun cdv A outer s H vs Q E hr h => ?_)
  · obtain ⟨_, _, rfl, _⟩ := h; rfl
  · obtain ⟨sa, ns, rfl, ha, k⟩ := h
    refine ⟨_, PSs.nox (pss_cons (ps_set (i := 1) sc_law.nd rfl (Or.inl rfl) (C8.pe_c (cal_law_begun hd) hr (by first | decide | omega) rfl (pa_cons (pv 0) pa_nil)))
    (pss_cons (ps_set (i := 2) sc_law.nd rfl (Or.inl rfl) (C8.pe_c (cal_law_first_things hd) hr (by first | decide | omega) rfl (pa_cons (pv 1) (pa_cons pe_int pa_nil))))
    (pss_cons (ps_par (i := 5) (j := 6) rfl sc_law.nd rfl rfl (by decide) rfl rfl (pa_cons (C8.pe_c (cal_law_made hd) hr (by first | decide | omega) rfl (pa_cons (pv 2) pa_nil)) (pa_cons (C8.pe_c (cal_law_model hd) hr (by first | decide | omega) rfl (pa_cons (pv 2) pa_nil)) pa_nil)) rfl)
    (pss_cons (ps_par (i := 7) (j := 8) rfl sc_law.nd rfl rfl (by decide) rfl rfl (pa_cons (C8.pe_mt0 (cal_Keeper_clauses hd) hr (by first | decide | omega) (pv 5)) (pa_cons (C8.pe_mt0 (cal_Keeper_marks hd) hr (by first | decide | omega) (pv 5)) pa_nil)) rfl)
    (pss_cons (ps_for PassesOwn.never rfl (pi_range1 rfl hd.f_range (pa_cons (C8.pe_c (cal_law_draw hd) hr (by first | decide | omega) rfl (pa_cons (pv 1) (pa_cons pe_int pa_nil))) pa_nil)) (pg_name (i := 3) sc_law.nd rfl (Or.inl rfl))
    (pss_cons (ps_par (i := 12) (j := 13) rfl sc_law.nd rfl rfl (by decide) rfl rfl (pa_cons (C8.pe_c (cal_law_deed hd) hr (by first | decide | omega) rfl (pa_cons (pv 1) (pa_cons (pv 6) (pa_cons pe_int pa_nil)))) (pa_cons (pe_callB call_len_seq (by rfl) hd.f_len PySem.boot_len (pa_cons (C8.pe_mt0 (cal_Keeper_names hd) hr (by first | decide | omega) (pv 5)) pa_nil)) pa_nil)) rfl)
    (pss_cons (ps_expr (C8.pe_c (cal_law_do hd) hr (by first | decide | omega) rfl (pa_cons (pv 6) (pa_cons (pv 12) pa_nil))))
    (pss_cons (ps_set (i := 9) sc_law.nd rfl (Or.inl rfl) (C8.pe_c (cal_law_told_deed hd) hr (by first | decide | omega) rfl (pa_cons (pv 5) (pa_cons (pv 12) pa_nil))))
    (pss_cons (ps_set (i := 8) sc_law.nd rfl (Or.inl rfl) (pe_op op_cat (pv 8) (pe_ifExp (pt_cmpR op_eq (pe_ix ix_tup (pv 12) pe_int (fun _ _ => rfl)) pe_str (nomark _)) (pe_ix ix_tup (pv 12) pe_int (fun _ _ => rfl)) (pe_lst pa_nil))))
    (pss_cons (ps_set (i := 7) sc_law.nd rfl (Or.inl rfl) (pe_op op_cat (pv 7) (pe_ifExp (pt_cmpR op_in_seq (pe_ix ix_tup (pv 12) pe_int (fun _ _ => rfl)) (pe_tup (pa_cons pe_str (pa_cons pe_str pa_nil))) rfl) (pv 9) (pe_lst pa_nil))))
    (pss_cons (ps_if (PW.pt (pw_and (pt_cmpR op_in_seq (pe_ix ix_tup (pv 12) pe_int (fun _ _ => rfl)) (pe_tup (pa_cons pe_str (pa_cons pe_str pa_nil))) rfl) (pw_and1 (pt_cmpR op_ne (pe_callB call_len_seq (by rfl) hd.f_len PySem.boot_len (pa_cons (C8.pe_mt0 (cal_Keeper_names hd) hr (by first | decide | omega) (pv 5)) pa_nil)) (pv 13) (nomark _))))) (pss_one (ps_ret pe_bl)) pss_nil)
    (pss_cons (ps_set (i := 10) sc_law.nd rfl (Or.inr rfl) (pe_callTy (call_dictP rfl) (by rfl) hd.f_dict (by decide +kernel) (pa_cons (pe_op op_cat (pe_lc (own := [("_law_mark", 16)]) (g := (gName 16)) (tt := tYes) (te := (tTup (tCons (tCB bAbs (tCons (tVar 16) tNil)) (tCons (tC (V.bl true)) tNil)))) rfl sc_law.nd (pi_list (pv 8)) (blkOk_by (N := ["_law_script", "_law_tape", "_law_first", "_law_turn", "_law_names", "_law_keeper", "_law_held", "_law_told", "_law_marks_here", "_law_found", "_law_known", "_law_clause", "_law_deed_here", "_law_made_here", "_law_name", "_law_meaning", "_law_mark"]) (sc := defScope s_law) (by decide +kernel)) (fun _ _ _ _ _ => (pg_name (i := 16) sc_law.nd rfl (Or.inl rfl))) (fun _ _ _ _ _ => pts_nil) (fun _ _ _ _ _ => (pe_tup (pa_cons (pe_callB call_abs (by rfl) hd.f_abs (by decide +kernel) (pa_cons (pv 16) pa_nil)) (pa_cons pe_bl pa_nil))))) (pe_lc (own := [("_law_name", 14), ("_law_meaning", 15)]) (g := (gTup K 2 (gCons (gName 14) (gCons (gName 15) gNil)))) (tt := tYes) (te := (tTup (tCons (tVar 14) (tCons (tC (V.bl true)) tNil)))) rfl sc_law.nd (pi_list (C8.pe_mt0 (cal_Keeper_names hd) hr (by first | decide | omega) (pv 5))) (blkOk_by (N := ["_law_script", "_law_tape", "_law_first", "_law_turn", "_law_names", "_law_keeper", "_law_held", "_law_told", "_law_marks_here", "_law_found", "_law_known", "_law_clause", "_law_deed_here", "_law_made_here", "_law_name", "_law_meaning", "_law_mark"]) (sc := defScope s_law) (by decide +kernel)) (fun _ _ _ _ _ => (pg_tup rfl (pgs_cons (pg_name (i := 14) sc_law.nd rfl (Or.inl rfl)) (pgs_cons (pg_name (i := 15) sc_law.nd rfl (Or.inl rfl)) pgs_nil)))) (fun _ _ _ _ _ => pts_nil) (fun _ _ _ _ _ => (pe_tup (pa_cons (pv 14) (pa_cons pe_bl pa_nil)))))) pa_nil)))
    (pss_one (ps_for PassesOwn.never rfl (pi_list (pe_ifExp (pt_cmpR op_in_seq (pe_ix ix_tup (pv 12) pe_int (fun _ _ => rfl)) (pe_tup (pa_cons pe_str (pa_cons pe_str pa_nil))) rfl) (pv 9) (pe_lst pa_nil))) (pg_name (i := 11) sc_law.nd rfl (Or.inl rfl))
    (pss_one (ps_if (pt_cmpR (op_neE hr.units) (pe_lc (own := [("_law_mark", 16)]) (g := (gName 16)) (tt := (tB (tDNotIn (tCB bAbs (tCons (tVar 16) tNil)) (tVar 10)))) (te := (tVar 16)) rfl sc_law.nd (pi_tup (pv 11)) (blkOk_by (N := ["_law_script", "_law_tape", "_law_first", "_law_turn", "_law_names", "_law_keeper", "_law_held", "_law_told", "_law_marks_here", "_law_found", "_law_known", "_law_clause", "_law_deed_here", "_law_made_here", "_law_name", "_law_meaning", "_law_mark"]) (sc := defScope s_law) (by decide +kernel)) (fun _ _ _ _ _ => (pg_name (i := 16) sc_law.nd rfl (Or.inl rfl))) (fun _ _ _ _ _ => (pts_one (pt_cmp (pc_dnotin (hu_of hr) (pe_callB call_abs (by rfl) hd.f_abs (by decide +kernel) (pa_cons (pv 16) pa_nil)) (pv 10))))) (fun _ _ _ _ _ => (pv 16))) (pe_lst pa_nil) (nomark _)) (pss_one (ps_ret pe_bl)) pss_nil))))))))))))
    (pss_cons (ps_set (i := 4) sc_law.nd rfl (Or.inr rfl) (pe_lc (own := [("_law_name", 14), ("_law_meaning", 15)]) (g := (gTup K 2 (gCons (gName 14) (gCons (gName 15) gNil)))) (tt := tYes) (te := (tVar 14)) rfl sc_law.nd (pi_list (C8.pe_mt0 (cal_Keeper_names hd) hr (by first | decide | omega) (pv 5))) (blkOk_by (N := ["_law_script", "_law_tape", "_law_first", "_law_turn", "_law_names", "_law_keeper", "_law_held", "_law_told", "_law_marks_here", "_law_found", "_law_known", "_law_clause", "_law_deed_here", "_law_made_here", "_law_name", "_law_meaning", "_law_mark"]) (sc := defScope s_law) (by decide +kernel)) (fun _ _ _ _ _ => (pg_tup rfl (pgs_cons (pg_name (i := 14) sc_law.nd rfl (Or.inl rfl)) (pgs_cons (pg_name (i := 15) sc_law.nd rfl (Or.inl rfl)) pgs_nil)))) (fun _ _ _ _ _ => pts_nil) (fun _ _ _ _ _ => (pv 14))))
    (pss_cons (ps_if (PW.pt (pw_or (pt_cmpR (op_neD hr.units) (pv 4) (pe_callB cr_sortedI (by rfl) hd.f_sorted (by decide +kernel) (pa_cons (pv 4) pa_nil)) (nomark _)) (pw_or1 (pt_cmpR op_lt (pe_callB call_lenN (by rfl) hd.f_len PySem.boot_len (pa_cons (pe_callTy (call_setI rfl) (by rfl) hd.f_set (by decide +kernel) (pa_cons (pv 4) pa_nil)) pa_nil)) (pe_callB call_len_seq (by rfl) hd.f_len PySem.boot_len (pa_cons (pv 4) pa_nil)) (nomark _))))) (pss_one (ps_ret pe_bl)) pss_nil)
    (pss_cons (ps_if (pt_cmpR (op_neE hr.units) (pe_lc (own := [("_law_mark", 16)]) (g := (gName 16)) (tt := (tTest (tOp (rIn K false) (tCB bAbs (tCons (tVar 16) tNil)) (tVar 4)))) (te := (tVar 16)) rfl sc_law.nd (pi_list (pv 8)) (blkOk_by (N := ["_law_script", "_law_tape", "_law_first", "_law_turn", "_law_names", "_law_keeper", "_law_held", "_law_told", "_law_marks_here", "_law_found", "_law_known", "_law_clause", "_law_deed_here", "_law_made_here", "_law_name", "_law_meaning", "_law_mark"]) (sc := defScope s_law) (by decide +kernel)) (fun _ _ _ _ _ => (pg_name (i := 16) sc_law.nd rfl (Or.inl rfl))) (fun _ _ _ _ _ => (pts_one (pt_cmpR op_in_seq (pe_callB call_abs (by rfl) hd.f_abs (by decide +kernel) (pa_cons (pv 16) pa_nil)) (pv 4) rfl))) (fun _ _ _ _ _ => (pv 16))) (pe_lst pa_nil) (nomark _)) (pss_one (ps_ret pe_bl)) pss_nil)
    (pss_one (ps_ret (pe_and (pe_cmpR (op_eqV hr.units) (C8.pe_mt0 (cal_Keeper_clauses hd) hr (by first | decide | omega) (pv 5)) (pv 7) (nomark _)) (pe_one (pe_cmpR op_eq (pe_callB call_lenN (by rfl) hd.f_len PySem.boot_len (pa_cons (pe_callTy (call_setT rfl hr.units) (by rfl) hd.f_set (by decide +kernel) (pa_cons (pv 7) pa_nil)) pa_nil)) (pe_callB call_len_seq (by rfl) hd.f_len PySem.boot_len (pa_cons (pv 7) pa_nil)) (nomark _)))))))))))))), ?_⟩
    refine ⟨_, rfl, sa, ns, rfl, ha, fun t cl cs H1 nt ncl htc s1 ht hcl hpos hle => ?_⟩
    obtain ⟨φ0, hφ0⟩ : ∃ φ0, φ0 = updA (fun _ => 0) t 5 := ⟨_, rfl⟩
    have e0 : ∀ b, φ0 b = 0 ∨ φ0 b = 5 := fun b => by
      rw [hφ0]
      by_cases z : b = t
      · rw [z]; exact .inr updA_same
      · rw [updA_ne z]; exact .inl rfl
    have tp1 : Tp φ0 H1 t cl 0 := ⟨⟨0, 0, cs, ht, hcl, by rw [hφ0, updA_ne fun z => htc z.symm], hpos, hle, Nat.le_refl _⟩, by rw [hφ0]; exact updA_same⟩
    have lv1 : Live φ0 H1 := fun b hb => by
      rw [hφ0] at hb
      by_cases z : b = t
      · rw [z]; exact live_of ht
      · rw [updA_ne z] at hb; exact absurd rfl hb
    refine ⟨_, rfl, t, cl, φ0, 0, rfl, tp1, lv1, by decide, fun v ms cap ps fresh H2 f2 tp2 fa mo h6 okp sz nk c1 c5 fr => ?_⟩
    obtain ⟨iok, inv0⟩ := Inv.init mo h6 okp sz nk c1 c5 fr
    have lv2 := lv1.fm f2
    refine ⟨_, rfl, φ0, v, ms, cap, ps, fresh, rfl, fa, lv2, fun b z => ?_, iok, fun φ3 pa a3 H3 e3 lv3 s3 kp3 => ?_⟩
    · rcases e0 b with q | q
      · exact z.ne q
      · exact z.even.2.2 q
    obtain ⟨ψ, hψ⟩ : ∃ ψ : Addr → Nat, ∀ b, (LT (φ3 b) ∧ ψ b = 9) ∨ (¬ LT (φ3 b) ∧ ψ b = φ3 b) := by
      refine ⟨fun b => if (φ3 b = 6 ∨ φ3 b = 7 ∨ φ3 b = 11 ∨ φ3 b = 13 ∨ (15 ≤ φ3 b ∧ φ3 b % 2 = 1)) then 9 else φ3 b, fun b => ?_⟩
      have iff : (φ3 b = 6 ∨ φ3 b = 7 ∨ φ3 b = 11 ∨ φ3 b = 13 ∨ (15 ≤ φ3 b ∧ φ3 b % 2 = 1)) ↔ LT (φ3 b) := by
        constructor
        · rintro (h | h | h | h | h)
          · exact .inl h
          · exact .inr (.inl h)
          · exact .inr (.inr (.inl h))
          · exact .inr (.inr (.inr (.inl h)))
          · exact .inr (.inr (.inr (.inr ⟨(φ3 b - 15) / 2, by unfold tgL; omega⟩)))
        · rintro (h | h | h | h | ⟨i, h⟩)
          · exact .inl h
          · exact .inr (.inl h)
          · exact .inr (.inr (.inl h))
          · exact .inr (.inr (.inr (.inl h)))
          · unfold tgL at h
            exact .inr (.inr (.inr (.inr (by omega))))
      by_cases z : LT (φ3 b)
      · exact .inl ⟨z, if_pos (iff.mpr z)⟩
      · exact .inr ⟨z, if_neg fun y => z (iff.mp y)⟩
    have ψ0 : ∀ {b}, φ3 b = 0 → ψ b = 0 := fun {b} h => by
      rcases hψ b with ⟨z, _⟩ | ⟨_, z⟩
      · exact absurd h z.ne
      · rw [z]; exact h
    have nLT : ∀ b, ¬ LT (ψ b) := fun b z => by
      rcases hψ b with ⟨_, y⟩ | ⟨x, y⟩
      · rw [y] at z
        rcases z with z | z | z | z | ⟨i, z⟩
        · cases z
        · cases z
        · cases z
        · cases z
        · unfold tgL at z; omega
      · rw [y] at z; exact x z
    have kpψ : KpAt K ψ H3 pa a3 _ _ [] := kp3.retag fun b h => by
      rcases hψ b with ⟨z, _⟩ | ⟨_, z⟩
      · rcases h with h | h
        · exact absurd h z.ne
        · exact absurd h z.odd.2.1
      · exact z
    have lvψ : Live ψ H3 := fun b h => lv3 b fun z => h (ψ0 z)
    have z2 : ∀ {b}, H2 b ≠ none → φ0 b = 0 → ψ b = 0 := fun hb h => ψ0 (by rw [e3 _ hb]; exact h)
    have tpψ : Tp ψ H3 t cl 100 := by
      obtain ⟨⟨sp, le, cs2, q1, q2, q3, q4, q5, q6⟩, q7⟩ := tp2
      refine ⟨⟨sp, le, cs2, s3.at q1, s3.at q2, z2 (live_of q2) q3, q4, q5, by omega⟩, ?_⟩
      have e5 : φ3 t = 5 := by rw [e3 _ (live_of q1)]; exact q7
      rcases hψ t with ⟨z, _⟩ | ⟨_, z⟩
      · exact absurd e5 z.odd.2.2
      · rw [z]; exact e5
    obtain ⟨tf, amf, vpf, rfl, htf, hamf, zamf, hpf⟩ := fa
    refine ⟨_, rfl, ψ, _, ms, cap, ps, fresh, rfl, ⟨tf, amf, vpf, rfl, s3.at htf, s3.at hamf, z2 (live_of hamf) zamf, hpf.fm s3⟩, lvψ, nLT, iok, fun φ4 pb b4 H4 e4 lv4 s4 md4 => ?_⟩
    have ci := inv0.ci
    have di := inv0.di
    have kp4 : KpAt K φ4 H4 pa a3 _ _ [] := kpψ.mv (M := No) ci.ok.low di.cur (fun x hx => absurd hx List.not_mem_nil) s4.to (fun b z => z.elim) e4 fun _ _ => rfl
    have tp4 : Tp φ4 H4 t cl 100 := tpψ.fm (M := No) s4.to (fun b z => z.elim) e4
    -- the clauses, the marks
    refine ⟨_, _, rfl, _, rfl, _, _, _, rfl, kp4.obj, rfl, φ4, pa, a3, _, _, _, rfl, kp4, fun p5 H5 n5 s5 q5 => ?_⟩
    have kp5 := kp4.sm s5
    refine ⟨_, rfl, _, _, _, rfl, kp5.obj, rfl, φ4, pa, a3, _, _, _, rfl, kp5, fun p6 H6 n6 s6 q6 => ?_⟩
    have zn : ∀ {b} {Ha : Hp}, Sm H4 Ha → Ha b = none → φ4 b = 0 := fun s n => lv4.zero (s.free n)
    have q5' := s6.at q5
    rw [List.append_nil] at q5'
    have q6 : H6 p6 = some (.lst (isV ms)) := q6
    generalize growAll cap (core0 ms (.sums ps) fresh) (newIx 0 ((Part.sums ps).gat ms g0).1.n) = c0 at inv0 kp5 md4 ci di
    refine ⟨_, _, rfl, _, rfl, t, cl, 31, φ4, 100, rfl, (tp4.sm s5).sm s6, by decide, by decide, by decide, fun r7 H7 f7 tp7 hr7 => ⟨(r7 : Int), rfl, by omega, by omega, ?_⟩⟩
    have f57 : Fm (· = t) H6 H7 := f7
    have tM : ∀ {φ : Addr → Nat}, φ t = 5 → ∀ b, b = t → φ b ≠ 0 ∧ ¬ PT (φ b) ∧ ¬ LT (φ b) := fun e b z => by
      rw [z, e]; exact ⟨by decide, fun q => q.even.2.2 rfl, fun q => q.odd.2.2 rfl⟩
    have t5 : φ4 t = 5 := tp4.tag
    refine for_it walk_range (fun j σ H' => ∃ (o3 o9 o10 o11 o12 o13 : Option V) (tl mk : Addr) (φ : Addr → Nat) (pa pb : Nat → Addr × Addr) (a : KA) (b : MA) (c : Core) (d : Dyn) (ah : List Dyn) (ev : List Int),
      σ = [some (.ref sa), some (.ref t), some (.ref tf), o3, none, some (.ref a.kp), some (.ref b.mh), some (.ref tl), some (.ref mk), o9, o10, o11, o12, o13, none, none, none] ∧ LoopAt K t cl tl mk j H' φ pa pb a b c d ah ev) ?_ (fun _ _ _ _ _ => trivial) ?_ ?_
    · have g7 : Fm (· = t) H4 H7 := (s5.trans s6).to.trans f7
      refine ⟨none, none, none, none, none, none, p5, p6, φ4, pa, pb, a3, b4, c0, _, [], ms, rfl, tp7, lv4.fm g7, (kp5.sm s6).fm f7 fun b z => ⟨(tM t5 b z).1, (tM t5 b z).2.1⟩, md4.fm g7 fun b z => ⟨(tM t5 b z).1, (tM t5 b z).2.2⟩, ?_, zn .refl n5, ?_, zn s5 n6, inv0⟩
      · exact f7.at q5' fun z => absurd (zn .refl n5) (tM t5 _ z).1
      · exact f7.at q6 fun z => absurd (zn s5 n6) (tM t5 _ z).1
    · rintro j y σ Hz Ha hj ⟨o3, o9, o10, o11, o12, o13, tl, mk, φ, pa, pb, a, b, c, d, ah, ev, rfl, L⟩ ⟨e2, e1⟩
      subst e2
      obtain ⟨tp, lv, ks, md, htl, ztl, hmk, zmk, inv⟩ := L
      have ci := inv.ci
      have di := inv.di
      have hmany := ci.many
      have hkn := inv.kn
      have hahl := inv.ahl
      have hevl := inv.evl
      have hcl := ks.cl.1
      have hj29 : j ≤ 29 := by omega
      have hco := ci.co1
      have hc1 := di.cap1
      have hc60 := di.cap60
      have hmk12 := di.mks
      refine ⟨_, rfl, _, rfl, t, cl, φ, _, pb, b, c, d, ah, rfl, tp, lv, by omega, md, ci.ok, ci.ol, di.cur, hc1, hc60, hmk12, by omega, hco, fun vd D H1 f1 tp1 dAt dOk => ?_⟩
      have tag5 := tp.tag
      have ks1 := ks.fm f1 fun b z => ⟨(tM tag5 b z).1, (tM tag5 b z).2.1⟩
      refine ⟨_, rfl, _, _, _, rfl, ks1.obj, rfl, φ, pa, a, c, d, ah, rfl, ks1, fun p2 H2 n2 s2 q2 => ⟨_, _, rfl, .inl (.of q2), _, _, rfl, ?_⟩⟩
      rw [List.append_nil]
      have f2 : Fm (· = t) Ha H2 := f1.trans s2.to
      have ks2 := ks1.sm s2
      have md2 := md.fm f2 fun b z => ⟨(tM tag5 b z).1, (tM tag5 b z).2.2⟩
      have lv2 := lv.fm f2
      have tp2 := tp1.sm s2
      have htl2 := f2.at htl fun z => absurd ztl (tM tag5 _ z).1
      have hmk2 := f2.at hmk fun z => absurd zmk (tM tag5 _ z).1
      replace dAt := dAt.mv (M := No) (φ' := φ) s2.to (fun _ z => z.elim) .refl
      have hl : ah.length ≤ 1000 := by omega
      have tpn : ∀ {H' φ'}, Tp φ' H' t cl (101 + 200 * j + 200) → Tp φ' H' t cl (101 + 200 * (j + 1)) := fun h => h.mono (by omega)
      have no5 : ∀ {H' H'' : Hp} {φ' φ'' : Addr → Nat}, Tp φ' H' t cl (101 + 200 * j + 200) → Fm (fun b => LT (φ' b)) H' H'' → Ext φ' φ'' H' → Tp φ'' H'' t cl (101 + 200 * j + 200) := fun h f e => h.fm f (fun b z => ⟨z.odd.1, z.odd.2.2⟩) e
      have no5' : ∀ {H' H'' : Hp} {φ' φ'' : Addr → Nat}, Tp φ' H' t cl (101 + 200 * j + 200) → Fm (fun b => PT (φ' b)) H' H'' → Ext φ' φ'' H' → Tp φ'' H'' t cl (101 + 200 * j + 200) := fun h f e => h.fm f (fun b z => ⟨z.even.1, z.even.2.2⟩) e
      have hkp : ∀ {φ' : Addr → Nat} {b : Addr}, LT (φ' b) → φ' b ≠ 0 ∧ ¬ PT (φ' b) := fun z => ⟨z.odd.1, z.odd.2.1⟩
      have hmd : ∀ {φ' : Addr → Nat} {b : Addr}, PT (φ' b) → φ' b ≠ 0 ∧ ¬ LT (φ' b) := fun z => ⟨z.even.1, z.even.2.1⟩
      rcases D with _ | o | n | ⟨ms2, p⟩
      obtain ⟨ah', e, rfl⟩ : ∃ ah' e, ah = ah' ++ [e] := ⟨ah.dropLast, ah.getLast dOk, (List.dropLast_concat_getLast dOk).symm⟩
      have hl' : ah'.length ≤ 1000 := by rw [List.length_append] at hl; omega
      refine ⟨_, rfl, _, rfl, φ, pb, b, c, d, _, vd, rfl, md2, lv2, .inl ⟨e, ah', rfl, hl', dAt, fun hm gl av H4 f4 md4 => ?_⟩⟩
      have ks4 := ks2.fm f4 fun b z => hkp z
      have dAt4 : DeedAt φ H4 vd .back := dAt.mv f4 (fun b z => z.odd.1) .refl
      refine ⟨_, rfl, _, rfl, φ, pa, a, c, d, _, vd, rfl, ks4, .inl ⟨e, ah', rfl, hl', dAt4, fun hm' gl' av' H5 f5 ks5 => ?_⟩⟩
      have z4 : ∀ {x : Addr}, φ x = 0 → ¬ LT (φ x) := fun h z => z.odd.1 h
      have z5 : ∀ {x : Addr}, φ x = 0 → ¬ PT (φ x) := fun h z => z.even.1 h
      have x5 : DidAt K t cl a.kp b.mh tl mk j a.cv [] ev [] H5 φ pa pb { a with hm := hm', gl := gl', av := av' } { b with hm := hm, gl := gl, av := av } c e ah' := ⟨rfl, rfl, tpn (no5' (no5 tp2 f4 .refl) f5 .refl), (lv2.fm f4).fm f5, ks5, md4.fm f5 fun b z => hmd z, f5.at (f4.at htl2 (z4 ztl)) (z5 ztl), ztl, f5.at (f4.at hmk2 (z4 zmk)) (z5 zmk), zmk, (List.append_nil _).symm, by rw [List.append_nil]; exact inv.back⟩
      obtain ⟨td, rfl, htd⟩ := dAt4
      have htd5 := f5.tups _ _ htd
      -- the marks, what was told
      refine ⟨_, rfl, _, rfl, td, _, _, _, rfl, rfl, .of htd5, tup0, rfl, _, rfl, ifF (by decide +kernel) ⟨szN, fun p6 n6 => upd_new n6 fun H6 s6 q6 => ?_⟩⟩
      have x6 := x5.sm s6
      refine ⟨mk, p6, _, _, rfl, rfl, x6.mq, q6, by rw [isV_len, sizeLine_eq]; show _ + 0 ≤ _; omega, fun p7 n7 => upd_new n7 fun H7 s7 q7 => ?_⟩
      have x7 := x6.sm s7
      have htd7 := s7.at (s6.at htd5)
      rw [← isV_nil, isV_cat] at q7
      have z7 := x6.lv.zero n7
      refine ⟨_, rfl, _, rfl, td, _, _, _, rfl, rfl, .of htd7, tup0, szN, fun p8 n8 => upd_new n8 fun H8 s8 q8 => ⟨p8, _, rfl, .inr (.of q8), rfl, rfl, _, rfl, ifF (by decide +kernel) ⟨szN, fun p9 n9 => upd_new n9 fun H9 s9 q9 => ?_⟩⟩⟩
      have x9 := (x7.sm s8).sm s9
      refine ⟨tl, p9, _, _, rfl, rfl, x9.tq, q9, by rw [sizeLine_eq]; show _ + 0 ≤ _; have := inv.few; omega, fun p10 n10 => upd_new n10 fun H10 s10 q10 => ?_⟩
      have s710 : Sm H7 H10 := (s8.trans s9).trans s10
      have x10 := (x9.sm s10).end q10 (x9.lv.zero n10) (s710.at q7) z7
      have htd10 := s710.at htd7
      refine ⟨_, rfl, td, _, _, _, rfl, rfl, .of htd10, tup0, szN, fun p11 n11 => upd_new n11 fun H11 s11 q11 => ⟨p11, _, rfl, .inr (.of q11), rfl, rfl, _, rfl, ifT (by decide +kernel) ?_⟩⟩
      have ks11 := x10.L.ks.sm s11
      refine ⟨_, rfl, _, _, _, rfl, ks11.obj, rfl, φ, pa, _, _, _, _, (by rfl), ks11, fun p12 H12 n12 s12 q12 => ⟨_, _, rfl, .inl (.of q12), _, rfl, rfl, _, rfl, ifF (by rw [List.append_nil, decide_eq_true rfl]; rfl) ?_⟩⟩
      have htd12 := s12.at (s11.at htd10)
      obtain ⟨NCV, φ5, pa5, pb5, a5, b5, c5, d5, ah5, EV, hN, X⟩ : ∃ NCV φ5 pa5 pb5 a5 b5 c5 d5 ah5 EV, NCV = [] ∧ EndAt K t cl a.kp b.mh p10 p7 j NCV H12 φ5 pa5 pb5 a5 b5 c5 d5 ah5 EV := ⟨_, _, _, _, _, _, _, _, _, _, rfl, (x10.sm s11).sm s12⟩
      rotate_left
      refine ⟨_, rfl, _, rfl, φ, pb, b, c, d, ah, vd, rfl, md2, lv2, .inr (.inl ⟨o, dAt, hl, di.lastOk, dOk, fun r tt H4 f4 md4 => ?_⟩)⟩
      have ks4 := ks2.fm f4 fun b z => hkp z
      have dAt4 : DeedAt φ H4 vd (.bound o) := dAt.mv f4 (fun b z => z.odd.1) .refl
      refine ⟨_, rfl, _, rfl, φ, pa, a, c, d, ah, vd, rfl, ks4, .inr (.inl ⟨o, dAt4, hl, di.lastOk, dOk, fun r' tt' H5 f5 ks5 => ?_⟩)⟩
      have z4 : ∀ {x : Addr}, φ x = 0 → ¬ LT (φ x) := fun h z => z.odd.1 h
      have z5 : ∀ {x : Addr}, φ x = 0 → ¬ PT (φ x) := fun h z => z.even.1 h
      have x5 : DidAt K t cl a.kp b.mh tl mk j a.cv [] ev [] H5 φ pa pb { a with av := a.av ++ [tt'] } { b with av := b.av ++ [tt] } c { d with top := o } (ah ++ [d]) := ⟨rfl, rfl, tpn (no5' (no5 tp2 f4 .refl) f5 .refl), (lv2.fm f4).fm f5, ks5, md4.fm f5 fun b z => hmd z, f5.at (f4.at htl2 (z4 ztl)) (z5 ztl), ztl, f5.at (f4.at hmk2 (z4 zmk)) (z5 zmk), zmk, (List.append_nil _).symm, by rw [List.append_nil]; exact inv.bound⟩
      obtain ⟨td, rfl, htd⟩ := dAt4
      have htd5 := f5.tups _ _ htd
      -- the marks, what was told
      refine ⟨_, rfl, _, rfl, td, _, _, _, rfl, rfl, .of htd5, tup0, rfl, _, rfl, ifF (by decide +kernel) ⟨szN, fun p6 n6 => upd_new n6 fun H6 s6 q6 => ?_⟩⟩
      have x6 := x5.sm s6
      refine ⟨mk, p6, _, _, rfl, rfl, x6.mq, q6, by rw [isV_len, sizeLine_eq]; show _ + 0 ≤ _; omega, fun p7 n7 => upd_new n7 fun H7 s7 q7 => ?_⟩
      have x7 := x6.sm s7
      have htd7 := s7.at (s6.at htd5)
      rw [← isV_nil, isV_cat] at q7
      have z7 := x6.lv.zero n7
      refine ⟨_, rfl, _, rfl, td, _, _, _, rfl, rfl, .of htd7, tup0, szN, fun p8 n8 => upd_new n8 fun H8 s8 q8 => ⟨p8, _, rfl, .inr (.of q8), rfl, rfl, _, rfl, ifF (by decide +kernel) ⟨szN, fun p9 n9 => upd_new n9 fun H9 s9 q9 => ?_⟩⟩⟩
      have x9 := (x7.sm s8).sm s9
      refine ⟨tl, p9, _, _, rfl, rfl, x9.tq, q9, by rw [sizeLine_eq]; show _ + 0 ≤ _; have := inv.few; omega, fun p10 n10 => upd_new n10 fun H10 s10 q10 => ?_⟩
      have s710 : Sm H7 H10 := (s8.trans s9).trans s10
      have x10 := (x9.sm s10).end q10 (x9.lv.zero n10) (s710.at q7) z7
      have htd10 := s710.at htd7
      refine ⟨_, rfl, td, _, _, _, rfl, rfl, .of htd10, tup0, szN, fun p11 n11 => upd_new n11 fun H11 s11 q11 => ⟨p11, _, rfl, .inr (.of q11), rfl, rfl, _, rfl, ifT (by decide +kernel) ?_⟩⟩
      have ks11 := x10.L.ks.sm s11
      refine ⟨_, rfl, _, _, _, rfl, ks11.obj, rfl, φ, pa, _, _, _, _, (by rfl), ks11, fun p12 H12 n12 s12 q12 => ⟨_, _, rfl, .inl (.of q12), _, rfl, rfl, _, rfl, ifF (by rw [List.append_nil, decide_eq_true rfl]; rfl) ?_⟩⟩
      have htd12 := s12.at (s11.at htd10)
      obtain ⟨NCV, φ5, pa5, pb5, a5, b5, c5, d5, ah5, EV, hN, X⟩ : ∃ NCV φ5 pa5 pb5 a5 b5 c5 d5 ah5 EV, NCV = [] ∧ EndAt K t cl a.kp b.mh p10 p7 j NCV H12 φ5 pa5 pb5 a5 b5 c5 d5 ah5 EV := ⟨_, _, _, _, _, _, _, _, _, _, rfl, (x10.sm s11).sm s12⟩
      rotate_left
      obtain ⟨wo, inv'⟩ := inv.wider (by omega) dOk
      refine ⟨_, rfl, _, rfl, φ, pb, b, c, d, ah, vd, rfl, md2, lv2, .inr (.inr (.inl ⟨n, dAt, wo, fun r tt ncv0 nnv0 H4 f4 md4 => ?_⟩))⟩
      have ks4 := ks2.fm f4 fun b z => hkp z
      have dAt4 : DeedAt φ H4 vd (.wider n) := dAt.mv f4 (fun b z => z.odd.1) .refl
      refine ⟨_, rfl, _, rfl, φ, pa, a, c, d, ah, vd, rfl, ks4, .inr (.inr (.inl ⟨n, dAt4, wo, fun q tt' ncv nmv H5 nq f5 ks5 hq => ?_⟩))⟩
      have z4 : ∀ {x : Addr}, φ x = 0 → ¬ LT (φ x) := fun h z => z.odd.1 h
      have z5 : ∀ {x : Addr}, φ x = 0 → ¬ PT (φ x) := fun h z => z.even.1 h
      have x5 : DidAt K t cl a.kp b.mh tl mk j a.cv ncv ev [] H5 φ pa pb { a with av := a.av ++ [tt'], cv := a.cv ++ ncv, mv := a.mv ++ nmv } { b with av := b.av ++ [tt], cv := b.cv ++ ncv0, nv := b.nv ++ nnv0 } (growAll n c d.cur) { d with cap := n } (ah ++ [d]) := ⟨rfl, rfl, tpn (no5' (no5 tp2 f4 .refl) f5 .refl), (lv2.fm f4).fm f5, ks5, md4.fm f5 fun b z => hmd z, f5.at (f4.at htl2 (z4 ztl)) (z5 ztl), ztl, f5.at (f4.at hmk2 (z4 zmk)) (z5 zmk), zmk, rfl, by rw [List.append_nil]; exact inv'⟩
      obtain ⟨td, rfl, htd⟩ := dAt4
      have htd5 := f5.tups _ _ htd
      -- the marks, what was told
      refine ⟨_, rfl, _, rfl, td, _, _, _, rfl, rfl, .of htd5, tup0, rfl, _, rfl, ifF (by decide +kernel) ⟨szN, fun p6 n6 => upd_new n6 fun H6 s6 q6 => ?_⟩⟩
      have x6 := x5.sm s6
      refine ⟨mk, p6, _, _, rfl, rfl, x6.mq, q6, by rw [isV_len, sizeLine_eq]; show _ + 0 ≤ _; omega, fun p7 n7 => upd_new n7 fun H7 s7 q7 => ?_⟩
      have x7 := x6.sm s7
      have htd7 := s7.at (s6.at htd5)
      rw [← isV_nil, isV_cat] at q7
      have z7 := x6.lv.zero n7
      have hq7 := s7.at (s6.at hq)
      refine ⟨_, rfl, _, rfl, td, _, _, _, rfl, rfl, .of htd7, tup0, szN, fun p8 n8 => upd_new n8 fun H8 s8 q8 => ⟨p8, _, rfl, .inr (.of q8), rfl, rfl, _, rfl, ifT (by decide +kernel) ?_⟩⟩
      have x8 := x7.sm s8
      refine ⟨_, rfl, tl, q, _, _, rfl, rfl, x8.tq, s8.at hq7, ?_, fun p10 n10 => upd_new n10 fun H10 s10 q10 => ?_⟩
      · have h1 := x8.ks.cl.1
        have h2 := x8.inv.few
        rw [x8.cv, List.length_append] at h1
        rw [sizeLine_eq]; omega
      have s710 : Sm H7 H10 := s8.trans s10
      have x10 := (x8.sm s10).end q10 (x8.lv.zero n10) (s710.at q7) z7
      have htd10 := s710.at htd7
      refine ⟨_, rfl, td, _, _, _, rfl, rfl, .of htd10, tup0, szN, fun p11 n11 => upd_new n11 fun H12 s11 q11 => ⟨p11, _, rfl, .inr (.of q11), rfl, rfl, _, rfl, ifF (by decide +kernel) ?_⟩⟩
      have htd12 := s11.at htd10
      have hq12 := s11.at (s710.at hq7)
      obtain ⟨NCV, φ5, pa5, pb5, a5, b5, c5, d5, ah5, EV, hN, X⟩ : ∃ NCV φ5 pa5 pb5 a5 b5 c5 d5 ah5 EV, NCV = ncv ∧ EndAt K t cl a.kp b.mh p10 p7 j NCV H12 φ5 pa5 pb5 a5 b5 c5 d5 ah5 EV := ⟨_, _, _, _, _, _, _, _, _, _, rfl, x10.sm s11⟩
      rotate_left
      obtain ⟨L, mok, inv'⟩ := inv.more (by omega) dOk
      refine ⟨_, rfl, _, rfl, φ, pb, b, c, d, ah, vd, rfl, md2, lv2, .inr (.inr (.inr ⟨ms2, p, L, dAt, mok, fun r tt hm gl ncv0 nnv0 φ4 pb4 H4 e4 lv4 hpb4 f4 md4 => ?_⟩))⟩
      have ks4 : KpAt K φ4 H4 pa a c d ah := ks2.mv ci.ok.low di.cur (fun x hx => (inv.da x hx).cur) f4 (fun b z => hkp z) e4 fun _ _ => rfl
      have dAt4 : DeedAt φ4 H4 vd (.more ms2 p) := dAt.mv f4 (fun b z => z.odd.1) e4
      refine ⟨_, rfl, _, rfl, φ4, pa, a, c, d, ah, vd, rfl, ks4, .inr (.inr (.inr ⟨ms2, p, L, dAt4, mok, lv4, fun q tt' hm' gl' ncv nmv φ5 pa5 H5 nq e5 lv5 hpa5 f5 ks5 hq => ?_⟩))⟩
      have z4 : ∀ {x : Addr}, φ x = 0 → ¬ LT (φ x) := fun h z => z.odd.1 h
      have z5 : ∀ {x : Addr}, φ4 x = 0 → ¬ PT (φ4 x) := fun h z => z.even.1 h
      have ztl4 : φ4 tl = 0 := by rw [e4 _ (live_of htl2)]; exact ztl
      have zmk4 : φ4 mk = 0 := by rw [e4 _ (live_of hmk2)]; exact zmk
      have htl4 := f4.at htl2 (z4 ztl)
      have hmk4 := f4.at hmk2 (z4 zmk)
      have md5 := md4.mv (φ' := φ5) (pa' := pb4) inv'.ci.ok.low inv'.di.cur (fun x hx => (inv'.da x hx).cur) f5 (fun b z => hmd z) e5 fun _ _ => rfl
      have x5 : DidAt K t cl a.kp b.mh tl mk j a.cv ncv ev ms2 H5 φ5 pa5 pb4 { a with hm := hm', gl := gl', av := a.av ++ [tt'], cv := a.cv ++ ncv, mv := a.mv ++ nmv } { b with hm := hm, gl := gl, av := b.av ++ [tt], cv := b.cv ++ ncv0, nv := b.nv ++ nnv0 } (growAll d.cap (moreC c L ms2 p) (newIx c.g.n (moreG c.g L ms2 p).n)) (moreD c d L ms2 p) (ah ++ [d]) := ⟨rfl, rfl, tpn (no5' (no5 tp2 f4 e4) f5 e5), lv5, ks5, md5, f5.at htl4 (z5 ztl4), by rw [e5 _ (live_of htl4)]; exact ztl4, f5.at hmk4 (z5 zmk4), by rw [e5 _ (live_of hmk4)]; exact zmk4, rfl, inv'⟩
      obtain ⟨td, am, vp, rfl, htd, ham, zam, hp⟩ := dAt4
      have htd5 := f5.tups _ _ htd
      have ham5 := f5.at ham (z5 zam)
      refine ⟨_, rfl, _, rfl, td, _, _, _, rfl, rfl, .of htd5, tup0, rfl, _, rfl, ifT (by decide +kernel) ⟨_, rfl, td, _, _, _, rfl, rfl, .of htd5, tup1, mk, am, _, _, rfl, rfl, x5.mq, ham5, by rw [isV_len, isV_len, sizeLine_eq]; have := dOk.2.1; omega, fun p7 n7 => upd_new n7 fun H7 s7 q7 => ?_⟩⟩
      have x7 := x5.sm s7
      have htd7 := s7.at htd5
      rw [isV_cat] at q7
      have z7 := x5.lv.zero n7
      have hq7 := s7.at hq
      refine ⟨_, rfl, _, rfl, td, _, _, _, rfl, rfl, .of htd7, tup0, szN, fun p8 n8 => upd_new n8 fun H8 s8 q8 => ⟨p8, _, rfl, .inr (.of q8), rfl, rfl, _, rfl, ifT (by decide +kernel) ?_⟩⟩
      have x8 := x7.sm s8
      refine ⟨_, rfl, tl, q, _, _, rfl, rfl, x8.tq, s8.at hq7, ?_, fun p10 n10 => upd_new n10 fun H10 s10 q10 => ?_⟩
      · have h1 := x8.ks.cl.1
        have h2 := x8.inv.few
        rw [x8.cv, List.length_append] at h1
        rw [sizeLine_eq]; omega
      have s710 : Sm H7 H10 := s8.trans s10
      have x10 := (x8.sm s10).end q10 (x8.lv.zero n10) (s710.at q7) z7
      have htd10 := s710.at htd7
      refine ⟨_, rfl, td, _, _, _, rfl, rfl, .of htd10, tup0, szN, fun p11 n11 => upd_new n11 fun H12 s11 q11 => ⟨p11, _, rfl, .inr (.of q11), rfl, rfl, _, rfl, ifF (by decide +kernel) ?_⟩⟩
      have htd12 := s11.at htd10
      have hq12 := s11.at (s710.at hq7)
      obtain ⟨NCV, φ5, pa5, pb5, a5, b5, c5, d5, ah5, EV, hN, X⟩ : ∃ NCV φ5 pa5 pb5 a5 b5 c5 d5 ah5 EV, NCV = ncv ∧ EndAt K t cl a.kp b.mh p10 p7 j NCV H12 φ5 pa5 pb5 a5 b5 c5 d5 ah5 EV := ⟨_, _, _, _, _, _, _, _, _, _, rfl, x10.sm s11⟩
      rotate_left
      all_goals
        -- what is known
        have inv5 := X.L.inv
        have many5 := inv5.ci.many
        have kn5 := inv5.kn
        have evl5 := inv5.evl
        refine ⟨_, rfl, p7, rfl, ⟨_, .of X.L.mq⟩, lc_all walk_list (M := No) (fun i y H' => ∃ m, (EV.map absI)[i]? = some m ∧ ∃ q, y = .ref q ∧ H' q = some (.tup [.int m, .bl true])) (by rw [isV_len, sizeLine_eq]; omega) (fun _ z => z.elim) (fun H' f' => .of (Sm.at f' X.L.mq)) (fun i y N H H' ⟨m, e, q, e2, h⟩ f => ⟨m, e, q, e2, f.tups _ _ h⟩) ?_ ?_⟩
        · rintro i y Hc Hd' Qy hi fc ⟨rfl, hy⟩ kq
          obtain ⟨m, hm, rfl⟩ := isV_get hy
          exact ⟨rfl, _, rfl, _, rfl, szN, fun p np => upd_new np fun Hu su qu => kq _ Hu su ⟨absI m, by rw [List.getElem?_map, hm]; rfl, p, rfl, qu⟩⟩
        rintro p13 zs H13 n13 s13 q13 hz13 hh13
        have s13 : Sm H12 H13 := s13
        have X13 := X.sm s13
        have o13 := X13.L.ks.obj
        rw [X13.ka] at o13
        refine ⟨_, rfl, _, _, _, rfl, o13, rfl, φ5, pa5, _, _, _, _, (by rw [X.ka]; rfl), X13.L.ks, fun p14 H14 n14 s14 q14 => ?_⟩
        have q14 : H14 p14 = some (.lst a5.mv) := by rw [q14, List.append_nil]
        have X14 := X13.sm s14
        have hmv := X14.L.ks.nm.1
        refine ⟨p14, rfl, ⟨_, .of q14⟩, lc_all walk_list (M := No) (fun i y H' => ∃ m, c5.names[i]? = some m ∧ ∃ q, y = .ref q ∧ H' q = some (.tup [.int m, .bl true])) (by rw [hmv, sizeLine_eq]; omega) (fun _ z => z.elim) (fun H' f' => .of (Sm.at f' q14)) (fun i y N H H' ⟨m, e, q, e2, h⟩ f => ⟨m, e, q, e2, f.tups _ _ h⟩) ?_ ?_⟩
        · rintro i y Hc Hd' Qy hi fc ⟨rfl, hy⟩ kq
          obtain ⟨nm, hnm, t', mt, rfl, ht'⟩ := X14.L.ks.nm.get hy
          exact ⟨t', _, rfl, .of (Sm.at fc ht'), rfl, _, _, rfl, _, _, rfl, rfl, rfl, _, rfl, szN, fun p np => upd_new np fun Hu su qu => kq _ Hu su ⟨nm, hnm, p, rfl, qu⟩⟩
        rintro p15 ws H15 n15 s15 q15 hz15 hh15
        have s15 : Sm H14 H15 := s15
        rw [isV_len] at hz13
        refine ⟨p13, p15, _, _, rfl, rfl, s15.at (s14.at q13), q15, by rw [hz13, hz15, hmv, sizeLine_eq]; omega, fun p16 n16 => upd_new n16 fun H16 s16 q16 => ?_⟩
        have g1 : Rel (fun y (n : Int) => ∃ q, y = .ref q ∧ H16 q = some (.tup [.int n, .bl true])) zs (EV.map absI) := ⟨by rw [hz13, List.length_map], fun i v x hv hx => by
          obtain ⟨m, e, q, e2, h⟩ := hh13 i v hv
          rw [hx] at e
          cases e
          exact ⟨q, e2, s16.at (s15.at (s14.at h))⟩⟩
        have g2 : Rel (fun y (n : Int) => ∃ q, y = .ref q ∧ H16 q = some (.tup [.int n, .bl true])) ws c5.names := ⟨by rw [hz15, hmv], fun i v x hv hx => by
          obtain ⟨m, e, q, e2, h⟩ := hh15 i v hv
          rw [hx] at e
          cases e
          exact ⟨q, e2, s16.at h⟩⟩
        obtain ⟨ps, e16, hps⟩ := pairs_of (K := K) (g1.app g2)
        rw [e16] at q16
        refine ⟨p16, ps, _, rfl, .of q16, hps, fun p17 n17 => upd_new n17 fun H17 s17 q17 => ?_⟩
        have ds : DS (mergeK [] ((EV.map absI ++ c5.names).map fun n => ((Sum.inl n : Key), V.bl true))) (EV.map absI ++ c5.names) := by
          have := DS.nil.merge (DS.of_map (V.bl true) (EV.map absI ++ c5.names))
          rwa [List.nil_append] at this
        generalize mergeK [] ((EV.map absI ++ c5.names).map fun n => ((Sum.inl n : Key), V.bl true)) = kvs at q17 ds
        have s1217 : Sm H12 H17 := ((((s13.trans s14).trans s15).trans s16).trans s17)
        have htd17 := s1217.at htd12
      refine ⟨_, rfl, td, _, _, _, rfl, rfl, .of htd17, tup0, szN, fun p18 n18 => upd_new n18 fun H18 s18 q18 => ⟨p18, _, rfl, .inr (.of q18), rfl, rfl, _, rfl, ifF (by decide +kernel) ⟨szN, fun p19 n19 => upd_new n19 fun H19 s19 q19 => ?_⟩⟩⟩
      have s1719 : Sm H17 H19 := s18.trans s19
      rw [← hN] at q19
      rotate_left
      refine ⟨_, rfl, td, _, _, _, rfl, rfl, .of htd17, tup0, szN, fun p18 n18 => upd_new n18 fun H18 s18 q18 => ⟨p18, _, rfl, .inr (.of q18), rfl, rfl, _, rfl, ifF (by decide +kernel) ⟨szN, fun p19 n19 => upd_new n19 fun H19 s19 q19 => ?_⟩⟩⟩
      have s1719 : Sm H17 H19 := s18.trans s19
      rw [← hN] at q19
      rotate_left
      refine ⟨_, rfl, td, _, _, _, rfl, rfl, .of htd17, tup0, szN, fun p18 n18 => upd_new n18 fun H19 s18 q18 => ⟨p18, _, rfl, .inr (.of q18), rfl, rfl, _, rfl, ifT (by decide +kernel) ⟨_, rfl, ?_⟩⟩⟩
      have s1719 : Sm H17 H19 := s18
      have q19 := Sm.at (s1217.trans s18) hq12
      rw [← hN] at q19
      rotate_left
      refine ⟨_, rfl, td, _, _, _, rfl, rfl, .of htd17, tup0, szN, fun p18 n18 => upd_new n18 fun H19 s18 q18 => ⟨p18, _, rfl, .inr (.of q18), rfl, rfl, _, rfl, ifT (by decide +kernel) ⟨_, rfl, ?_⟩⟩⟩
      have s1719 : Sm H17 H19 := s18
      have q19 := Sm.at (s1217.trans s18) hq12
      rw [← hN] at q19
      rotate_left
      all_goals
        have X19 := X.sm (s1217.trans s1719)
        have q1719 := s1719.at q17
        have many := X.many
        refine ⟨_, rfl, ⟨_, .of q19⟩, for_it walk_list (fun i σ H' => ∃ (o3 o9 o11 o12 o13 : Option V), σ = [some (.ref sa), some (.ref t), some (.ref tf), o3, none, some (.ref a.kp), some (.ref b.mh), some (.ref p10), some (.ref p7), o9, some (.ref p17), o11, o12, o13, none, none, none] ∧ Sm H19 H') ⟨_, _, _, _, _, rfl, .refl⟩ (fun i σ H' _ ⟨_, _, _, _, _, _, h⟩ => .of (h.at q19)) ?_ ?_⟩
        · rintro i y σ Hz Hk hi ⟨o3, o9, o11, o12, o13, rfl, fk⟩ ⟨ek, hy⟩
          subst ek
          obtain ⟨x, hx, txa, rfl, hxa⟩ := X19.cls i y hy
          have hxa := fk.at hxa
          have hxl := X.L.inv.ci.ccl x hx
          have hxi := X.L.inv.ci.cin x hx
          have qk := fk.at q1719
          refine ⟨_, rfl, txa, rfl, ⟨_, .of hxa⟩, lc_fil walk_tup (M := No) (fun H v (m : Int) => True) (fun _ => none) (by rw [isV_len, sizeLine_eq]; omega) (fun _ z => z.elim) (fun H' f' => .of (Sm.at f' hxa)) (fun _ _ _ _ _ h _ => h) ?_ ?_⟩
          · rintro i' x' Hc Hd' Qy Qn hi' fa' ⟨rfl, hx'⟩ ky kn
            obtain ⟨m, hm, rfl⟩ := isV_get hx'
            refine ⟨rfl, _, rfl, _, rfl, _, rfl, p17, _, rfl, DGet.k (k := Sum.inl (absI m)) (Sm.at fa' qk), _, rfl, ?_⟩
            rw [ds.is, decide_eq_true (List.mem_append.mpr (Or.symm (hxi m (List.mem_of_getElem? hm))))]
            exact ifF rfl (kn _ rfl .refl)
          rintro p20 ys H20 n20 s20 q20 hz20
          have s20 : Sm Hk H20 := s20
          have eys : ys = [] := by
            have h := hz20.1
            rw [show (List.range (isV x).length).filterMap (fun _ => (none : Option Int)) = [] from List.filterMap_eq_nil_iff.mpr fun _ _ => rfl] at h
            exact List.eq_nil_of_length_eq_zero h
          subst eys
          refine ⟨szN, fun p21 n21 => upd_new n21 fun H21 s21 q21 => ⟨p20, p21, _, rfl, rfl, .of (s21.at q20), .of q21, _, rfl, ifF rfl ?_⟩⟩
          exact ⟨_, _, _, _, _, rfl, (fk.trans s20).trans s21⟩
        · rintro σ Hk ⟨o3, o9, o11, o12, o13, rfl, fk⟩
          exact ⟨o3, o9, some (.ref p17), o11, o12, o13, p10, p7, φ5, pa5, pb5, a5, b5, c5, d5, ah5, EV, by rw [X.ka, X.mb], X19.L.sm fk⟩
    · rintro σ Ha ⟨o3, o9, o10, o11, o12, o13, tl, mk, φ, pa, pb, a, b, c, d, ah, ev, rfl, L⟩
      have ci := L.inv.ci
      have hmany := ci.many
      have hkn := L.inv.kn
      have hevl := L.inv.evl
      have hfew := L.inv.few
      have hmv := L.ks.nm.1
      have nnd := rise_nodup ci.nmp
      -- the names
      refine ⟨_, rfl, _, _, _, rfl, L.ks.obj, rfl, φ, pa, a, c, d, ah, rfl, L.ks, fun p1 H1 n1 s1 q1 => ?_⟩
      have q1 : H1 p1 = some (.lst a.mv) := by rw [q1, List.append_nil]
      have L1 := L.sm s1
      refine ⟨p1, rfl, ⟨_, .of q1⟩, lc_all walk_list (M := No) (fun i y H' => ∃ m, c.names[i]? = some m ∧ y = .int m) (by rw [hmv, sizeLine_eq]; omega) (fun _ z => z.elim) (fun H' f' => .of (Sm.at f' q1)) (fun i y N H H' h f => h) ?_ ?_⟩
      · rintro i y Hc Hd' Qy hi fc ⟨rfl, hy⟩ kq
        obtain ⟨nm, hnm, t', mt, rfl, ht'⟩ := L1.ks.nm.get hy
        exact ⟨t', _, rfl, .of (Sm.at fc ht'), rfl, _, _, rfl, _, _, rfl, rfl, rfl, _, rfl, kq _ _ .refl ⟨nm, hnm, rfl⟩⟩
      rintro p2 zs H2 n2 s2 q2 hz2 hh2
      have s2 : Sm H1 H2 := s2
      rw [ext_isV (ns := c.names) (by rw [hz2, hmv]) hh2] at q2
      have L2 := L1.sm s2
      -- they rise
      refine ⟨_, rfl, _, rfl, p2, c.names, rfl, .of q2, fun ns' p3 pm so n3 => upd_new n3 fun H3 s3 q3 => ?_⟩
      have e3 : ns' = c.names := perm_rise pm so ci.nmp
      rw [e3] at q3
      refine ⟨.list (c.names.map .int), .list (c.names.map .int), .lst (.of (s3.at q2)) (dp_isV _), .lst (.of q3) (dp_isV _), shaped_ints _, shaped_ints _, _, rfl, ifF (by rw [eqv_ints]; rfl) ?_⟩
      refine ⟨_, rfl, p2, c.names, rfl, .of (s3.at q2), by omega, nnd, fun p4 n4 => upd_new n4 fun H4 s4 q4 => ⟨p4, _, rfl, q4, by omega, _, rfl, _, _, rfl, .inl (.of (s4.at (s3.at q2))), _, _, rfl, rfl, _, rfl, ifF (decide_eq_false (by rw [isV_len]; omega)) ?_⟩⟩
      have L4 := (L2.sm s3).sm s4
      have q24 := s4.at (s3.at q2)
      -- none is a mark's
      refine ⟨_, rfl, mk, rfl, ⟨_, .of L4.mq⟩, lc_fil walk_list (M := No) (fun H v (m : Int) => True) (fun _ => none) (by rw [isV_len, sizeLine_eq]; omega) (fun _ z => z.elim) (fun H' f' => .of (Sm.at f' L4.mq)) (fun _ _ _ _ _ h _ => h) ?_ ?_⟩
      · rintro i x Hc Hd' Qy Qn hi fa ⟨rfl, hx⟩ ky kn
        obtain ⟨m, hm, rfl⟩ := isV_get hx
        have hno := (ci.evc m (List.mem_of_getElem? hm)).2
        refine ⟨rfl, _, rfl, _, rfl, _, rfl, p2, _, rfl, .inl (.of (Sm.at fa q24)), rfl, all_flat _, _, rfl, ?_⟩
        exact ifF (inV_not hno) (kn _ rfl .refl)
      rintro p5 ys H5 n5 s5 q5 hz5
      have s5 : Sm H4 H5 := s5
      have eys : ys = [] := by
        have h := hz5.1
        rw [show (List.range (isV ev).length).filterMap (fun _ => (none : Option Int)) = [] from List.filterMap_eq_nil_iff.mpr fun _ _ => rfl] at h
        exact List.eq_nil_of_length_eq_zero h
      subst eys
      refine ⟨szN, fun p6 n6 => upd_new n6 fun H6 s6 q6 => ⟨p5, p6, _, rfl, rfl, .of (s6.at q5), .of q6, _, rfl, ifF rfl ?_⟩⟩
      have L6 := (L4.sm s5).sm s6
      -- all that was told
      refine ⟨_, rfl, _, _, _, rfl, L6.ks.obj, rfl, φ, pa, a, c, d, ah, rfl, L6.ks, fun p7 H7 n7 s7 q7 => ?_⟩
      have q7 : H7 p7 = some (.lst a.cv) := by rw [q7, List.append_nil]
      have L7 := L6.sm s7
      refine ⟨_, rfl, 1, by decide, .inl ⟨p7, tl, a.cv, a.cv, rfl, rfl, .of q7, .of L7.tq, paired_refs L7.ks.cl⟩, ?_⟩
      refine ⟨_, rfl, iteT ?_⟩
      refine ⟨_, rfl, tl, a.cv, c.clauses, rfl, .of L7.tq, L7.ks.cl, ci.cnd, by omega, fun p8 n8 => upd_new n8 fun H8 s8 q8 => ⟨p8, _, rfl, q8, by omega, _, rfl, _, _, rfl, .inl (.of (s8.at L7.tq)), rfl, ?_⟩⟩
      rw [L7.ks.cl.1]
      have e : decide (iV c.clauses.length = V.int (c.clauses.length : Int)) = true := decide_eq_true rfl
      rw [e]
      exact k H8
end
end K59
set_option Elab.async false
set_option linter.all false
set_option maxRecDepth 100000
set_option maxHeartbeats 0
namespace K59
open PySem PySem.Spec PyProof.Rows L2
theorem facts {P : Program} {w : World} {K : PySem.W.Frag} {h : Heap} {mg : Str → Option Value} {f : Addr} (X : K.In h) (G : h.Ns mainGlobals mg) (hfa : mg ("law" : Str) = some (.ref f)) (c : He.SaysX fa fn [] [] exP w h K) :
    ∃ fd : FuncData, (∀ (s : Shared) (v : Value), BindsTo s fd ⟨[v], []⟩ [("_law_script", v)]) ∧ ∀ base : Heap, K.In base → base.Ns mainGlobals mg → FnOk P w K mg base CX0 33 f fd ["_law_script"] (spLaw (K := K)) := by
  have hd : Hd K mg := ⟨⟨h, X, G⟩, c.t.d, c.more⟩
  obtain ⟨fd, F⟩ := hd.d_law
  have e := hfa.symm.trans hd.g_law
  cases e
  have b := FunD.bindsA (ps := ["_law_script"]) F fun _ _ _ _ _ _ us hl => match us, hl with | [_], _ => rfl
  exact ⟨fd, fun s v => b s [v] rfl, fun base _ _ => ok_law hd F⟩
end K59
open PySem PySem.W PySem.Calls PyProof.Rows
theorem PySem.Challenge.cw_mostclauses_k59_whole_nothing_told_twice_holds : PySem.Challenge.rw_mostclauses_k59_whole_nothing_told_twice.Holds := by
  w_on; o_law
  refine HandSHeadRun.head_any (r := OpenLaw.row PySem.Challenge.rw_mostclauses_k59_whole_nothing_told_twice) (q := view (OpenLaw.row PySem.Challenge.rw_mostclauses_k59_whole_nothing_told_twice).prog [68]) (H := K59.hk) (ob := K59.ob) (M := 6000) (loose := K59.names) (d := HandSHeadRun.topDef (OpenLaw.row PySem.Challenge.rw_mostclauses_k59_whole_nothing_told_twice).prog 68) (kwd := []) K59.ob_eq
    (by kernel_rfl) (fun s => by kernel_rfl) K59.run (by kernel_rfl) (by kernel_rfl) (by kernel_rfl) (by rfl) (by first | assumption | decide +kernel) (by decide +kernel) ⟨rfl, rfl, rfl, rfl, rfl, by decide +kernel⟩ ?hw ?hc
  case hw => w_witness2
  case hc =>
    refine L2.walk_ofE (l := PySem.Challenge.rw_mostclauses_k59_whole_nothing_told_twice) (n := 63) (k := 33) (x := "_law_script") (CX := L2.CX0) rfl (by decide) (by kernel_rfl) ⟨rfl, by decide, by decide⟩ ?F (fun _ _ _ _ z => z)
    intro w mg fa h Y G hmg0
    obtain ⟨K, KX, c⟩ := Y
    have hmg : mg ("law" : PySem.Str) = some (.ref fa) := by
      have e : (HandSHeadRun.topDef (OpenLaw.row PySem.Challenge.rw_mostclauses_k59_whole_nothing_told_twice).prog 68).name = ("law" : PySem.Str) := by kernel_rfl
      rw [← e]
      exact hmg0
    obtain ⟨fd, hb, hF⟩ := K59.facts (P := (PySem.Challenge.rw_mostclauses_k59_whole_nothing_told_twice).prog) (w := w) KX G hmg c
    exact ⟨K, fd, K59.spLaw (K := K), KX, hb, fun H a ns hl _ hS => ⟨a, ns, rfl, hS, fun _ => rfl⟩, hF⟩
