import PyProof.Rows.All
import Wide.All
import OpenK.AllK
import Wide.FinOn
import KE.KStateDown
import Lean
import HandS.ForMost
import HandS.WordsExc
import HandS.Defaults
import HandS.Property
import HandS.ClsMeth
import HandS.Head0
import HandS.Head1
import HandS.Head2
import HandS.HeadEnd
import HandS.HeadHook1
import HandS.HeadHook2
import HandS.HeadHook3
import HandS.HeadNt
import HandS.Flow
import HandS.Style
import HandS.Wide
import HandS.IsInst
import HandS.MakeKwOnly
import HandS.Star
import HandS.TupLen
import HandS.Zip
import HandS.SortKw
import HandS.RaiseMore
import KE.KDictDisplayH
import PyProof.Rows.TupDisplay
import HandS.DictTup
import HandS.More
import OpenK.KMeth
import HandS.SlotsOwn
import HandS.Walk
import HandS.WordsDict
import PyProof.ListNew
import KE.KDictZip
import KE.DataMinMax
import HandS.FStrTup
import PySem.Challenge.RW_ringlists_k26_whole_order_by_comparing
set_option Elab.async false
set_option linter.all false
set_option maxRecDepth 100000
namespace Rk
open PySem L2
/-! the text by places -/
def top (i : Nat) : Stmt := PySem.Challenge.pw_ringlists_k26_whole_order_by_comparing.main.body.getD i (.Pass ⟨0, 0, 0, 0⟩)
abbrev s_is_integer : Stmt := top 15
abbrev s_is_within : Stmt := top 16
abbrev s_is_word : Stmt := top 17
abbrev s_is_leaf : Stmt := top 18
abbrev s_is_reference : Stmt := top 19
abbrev s_is_item : Stmt := top 20
abbrev s_is_box : Stmt := top 21
abbrev s_pair_of : Stmt := top 22
abbrev s_check_sign : Stmt := top 23
abbrev s_Verdicts_init : Stmt := inClass (top 29) 0
abbrev s_Verdicts_of_pair : Stmt := inClass (top 29) 1
abbrev s_Verdicts_go_on : Stmt := inClass (top 29) 2
abbrev s_Verdicts_decide : Stmt := inClass (top 29) 3
abbrev s_Verdicts_entered_from : Stmt := inClass (top 29) 4
abbrev s_steps_until_deep : Stmt := top 30
abbrev s_Outcome_init : Stmt := inClass (top 33) 0
abbrev s_Outcome_ends : Stmt := inClass (top 33) 2
abbrev s_Outcome_measure : Stmt := inClass (top 33) 3
abbrev s_Outcome_at : Stmt := inClass (top 33) 4
abbrev s_Outcome_go_round : Stmt := inClass (top 33) 5
abbrev s_equality : Stmt := top 34
abbrev s_stands : Stmt := top 39
abbrev s_answer : Stmt := top 40
abbrev s_first_unlike : Stmt := top 41
abbrev s_decided : Stmt := top 42
abbrev s_word_of : Stmt := top 43
abbrev s_ordering : Stmt := top 44
abbrev s_Heap_init : Stmt := inClass (top 46) 2
abbrev s_Heap_of : Stmt := inClass (top 46) 3
abbrev s_Heap_len : Stmt := inClass (top 46) 5
abbrev s_Heap_has : Stmt := inClass (top 46) 7
abbrev s_Heap_size : Stmt := inClass (top 46) 8
abbrev s_Heap_need_box : Stmt := inClass (top 46) 9
abbrev s_Heap_need_place : Stmt := inClass (top 46) 10
abbrev s_Heap_need_item : Stmt := inClass (top 46) 11
abbrev s_Heap_need_room : Stmt := inClass (top 46) 12
abbrev s_Heap_new : Stmt := inClass (top 46) 13
abbrev s_Heap_add_at : Stmt := inClass (top 46) 15
abbrev s_Heap_add_last : Stmt := inClass (top 46) 16
abbrev s_Heap_contents : Stmt := inClass (top 46) 20
abbrev s_law_bag : Stmt := top 48
abbrev s_law_take : Stmt := top 49
abbrev s_law_leaf : Stmt := top 50
abbrev s_law_contents : Stmt := top 51
abbrev s_law_twofold : Stmt := top 52
abbrev s_law_heap : Stmt := top 53
abbrev s_law_shown : Stmt := top 54
abbrev s_law_told : Stmt := top 55
abbrev s_law_by_mark : Stmt := top 56
abbrev s_law_ordered_contents : Stmt := top 57
abbrev s_law_due : Stmt := top 58
abbrev s_law_at : Stmt := top 59
abbrev s_law : Stmt := top 60
end Rk
set_option Elab.async false
set_option linter.all false
set_option maxRecDepth 100000
set_option maxHeartbeats 0
namespace RkHd
open PySem PySem.Spec PyProof.Rows L2 Rk
def d_is_integer : He5.DefA := ⟨fun K => He.ga K "is_integer", "is_integer", "is_integer", defArgs s_is_integer, defBody s_is_integer, defScope s_is_integer, [], []⟩
def d_is_within : He5.DefA := ⟨fun K => He.ga K "is_within", "is_within", "is_within", defArgs s_is_within, defBody s_is_within, defScope s_is_within, [], []⟩
def d_is_word : He5.DefA := ⟨fun K => He.ga K "is_word", "is_word", "is_word", defArgs s_is_word, defBody s_is_word, defScope s_is_word, [], []⟩
def d_is_leaf : He5.DefA := ⟨fun K => He.ga K "is_leaf", "is_leaf", "is_leaf", defArgs s_is_leaf, defBody s_is_leaf, defScope s_is_leaf, [], []⟩
def d_is_reference : He5.DefA := ⟨fun K => He.ga K "is_reference", "is_reference", "is_reference", defArgs s_is_reference, defBody s_is_reference, defScope s_is_reference, [], []⟩
def d_is_item : He5.DefA := ⟨fun K => He.ga K "is_item", "is_item", "is_item", defArgs s_is_item, defBody s_is_item, defScope s_is_item, [], []⟩
def d_is_box : He5.DefA := ⟨fun K => He.ga K "is_box", "is_box", "is_box", defArgs s_is_box, defBody s_is_box, defScope s_is_box, [], []⟩
def d_pair_of : He5.DefA := ⟨fun K => He.ga K "pair_of", "pair_of", "pair_of", defArgs s_pair_of, defBody s_pair_of, defScope s_pair_of, [], []⟩
def d_check_sign : He5.DefA := ⟨fun K => He.ga K "check_sign", "check_sign", "check_sign", defArgs s_check_sign, defBody s_check_sign, defScope s_check_sign, [], []⟩
def d_Verdicts_init : He5.DefA := ⟨fun K => He.ma K (He.ga K "Verdicts") "__init__", "__init__", "Verdicts.__init__", defArgs s_Verdicts_init, defBody s_Verdicts_init, defScope s_Verdicts_init, [], []⟩
def d_Verdicts_of_pair : He5.DefA := ⟨fun K => He.ma K (He.ga K "Verdicts") "of_pair", "of_pair", "Verdicts.of_pair", defArgs s_Verdicts_of_pair, defBody s_Verdicts_of_pair, defScope s_Verdicts_of_pair, [], []⟩
def d_Verdicts_go_on : He5.DefA := ⟨fun K => He.ma K (He.ga K "Verdicts") "go_on", "go_on", "Verdicts.go_on", defArgs s_Verdicts_go_on, defBody s_Verdicts_go_on, defScope s_Verdicts_go_on, [], []⟩
def d_Verdicts_decide : He5.DefA := ⟨fun K => He.ma K (He.ga K "Verdicts") "decide", "decide", "Verdicts.decide", defArgs s_Verdicts_decide, defBody s_Verdicts_decide, defScope s_Verdicts_decide, [], []⟩
def d_Verdicts_entered_from : He5.DefA := ⟨fun K => He.ma K (He.ga K "Verdicts") "entered_from", "entered_from", "Verdicts.entered_from", defArgs s_Verdicts_entered_from, defBody s_Verdicts_entered_from, defScope s_Verdicts_entered_from, [], []⟩
def d_steps_until_deep : He5.DefA := ⟨fun K => He.ga K "steps_until_deep", "steps_until_deep", "steps_until_deep", defArgs s_steps_until_deep, defBody s_steps_until_deep, defScope s_steps_until_deep, [], []⟩
def d_Outcome_init : He5.DefA := ⟨fun K => He.ma K (He.ga K "Outcome") "__init__", "__init__", "Outcome.__init__", defArgs s_Outcome_init, defBody s_Outcome_init, defScope s_Outcome_init, [], [("number", .non), ("loop", .non)]⟩
def d_Outcome_ends : He5.DefA := ⟨fun K => He5.wf K (He.ga K "Outcome") "property" "ends", "ends", "Outcome.ends", defArgs s_Outcome_ends, defBody s_Outcome_ends, defScope s_Outcome_ends, [], []⟩
def d_Outcome_measure : He5.DefA := ⟨fun K => He.ma K (He.ga K "Outcome") "measure", "measure", "Outcome.measure", defArgs s_Outcome_measure, defBody s_Outcome_measure, defScope s_Outcome_measure, [], []⟩
def d_Outcome_at : He5.DefA := ⟨fun K => He.ma K (He.ga K "Outcome") "at", "at", "Outcome.at", defArgs s_Outcome_at, defBody s_Outcome_at, defScope s_Outcome_at, [], []⟩
def d_Outcome_go_round : He5.DefA := ⟨fun K => He.ma K (He.ga K "Outcome") "go_round", "go_round", "Outcome.go_round", defArgs s_Outcome_go_round, defBody s_Outcome_go_round, defScope s_Outcome_go_round, [], []⟩
def d_equality : He5.DefA := ⟨fun K => He.ga K "equality", "equality", "equality", defArgs s_equality, defBody s_equality, defScope s_equality, [], []⟩
def d_stands : He5.DefA := ⟨fun K => He.ga K "stands", "stands", "stands", defArgs s_stands, defBody s_stands, defScope s_stands, [], []⟩
def d_answer : He5.DefA := ⟨fun K => He.ga K "answer", "answer", "answer", defArgs s_answer, defBody s_answer, defScope s_answer, [], []⟩
def d_first_unlike : He5.DefA := ⟨fun K => He.ga K "first_unlike", "first_unlike", "first_unlike", defArgs s_first_unlike, defBody s_first_unlike, defScope s_first_unlike, [], []⟩
def d_decided : He5.DefA := ⟨fun K => He.ga K "decided", "decided", "decided", defArgs s_decided, defBody s_decided, defScope s_decided, [], []⟩
def d_word_of : He5.DefA := ⟨fun K => He.ga K "word_of", "word_of", "word_of", defArgs s_word_of, defBody s_word_of, defScope s_word_of, [], []⟩
def d_ordering : He5.DefA := ⟨fun K => He.ga K "ordering", "ordering", "ordering", defArgs s_ordering, defBody s_ordering, defScope s_ordering, [], []⟩
def d_Heap_init : He5.DefA := ⟨fun K => He.ma K (He.ga K "Heap") "__init__", "__init__", "Heap.__init__", defArgs s_Heap_init, defBody s_Heap_init, defScope s_Heap_init, [], []⟩
def d_Heap_of : He5.DefA := ⟨fun K => He5.wf K (He.ga K "Heap") "classmethod" "of", "of", "Heap.of", defArgs s_Heap_of, defBody s_Heap_of, defScope s_Heap_of, [], []⟩
def d_Heap_len : He5.DefA := ⟨fun K => He.ma K (He.ga K "Heap") "__len__", "__len__", "Heap.__len__", defArgs s_Heap_len, defBody s_Heap_len, defScope s_Heap_len, [], []⟩
def d_Heap_has : He5.DefA := ⟨fun K => He.ma K (He.ga K "Heap") "__contains__", "__contains__", "Heap.__contains__", defArgs s_Heap_has, defBody s_Heap_has, defScope s_Heap_has, [], []⟩
def d_Heap_size : He5.DefA := ⟨fun K => He5.wf K (He.ga K "Heap") "property" "size", "size", "Heap.size", defArgs s_Heap_size, defBody s_Heap_size, defScope s_Heap_size, [], []⟩
def d_Heap_need_box : He5.DefA := ⟨fun K => He.ma K (He.ga K "Heap") "need_box", "need_box", "Heap.need_box", defArgs s_Heap_need_box, defBody s_Heap_need_box, defScope s_Heap_need_box, [], []⟩
def d_Heap_need_place : He5.DefA := ⟨fun K => He.ma K (He.ga K "Heap") "need_place", "need_place", "Heap.need_place", defArgs s_Heap_need_place, defBody s_Heap_need_place, defScope s_Heap_need_place, [], []⟩
def d_Heap_need_item : He5.DefA := ⟨fun K => He.ma K (He.ga K "Heap") "need_item", "need_item", "Heap.need_item", defArgs s_Heap_need_item, defBody s_Heap_need_item, defScope s_Heap_need_item, [], []⟩
def d_Heap_need_room : He5.DefA := ⟨fun K => He.ma K (He.ga K "Heap") "need_room", "need_room", "Heap.need_room", defArgs s_Heap_need_room, defBody s_Heap_need_room, defScope s_Heap_need_room, [], []⟩
def d_Heap_new : He5.DefA := ⟨fun K => He.ma K (He.ga K "Heap") "new", "new", "Heap.new", defArgs s_Heap_new, defBody s_Heap_new, defScope s_Heap_new, [], []⟩
def d_Heap_add_at : He5.DefA := ⟨fun K => He.ma K (He.ga K "Heap") "add_at", "add_at", "Heap.add_at", defArgs s_Heap_add_at, defBody s_Heap_add_at, defScope s_Heap_add_at, [], []⟩
def d_Heap_add_last : He5.DefA := ⟨fun K => He.ma K (He.ga K "Heap") "add_last", "add_last", "Heap.add_last", defArgs s_Heap_add_last, defBody s_Heap_add_last, defScope s_Heap_add_last, [], []⟩
def d_Heap_contents : He5.DefA := ⟨fun K => He.ma K (He.ga K "Heap") "contents", "contents", "Heap.contents", defArgs s_Heap_contents, defBody s_Heap_contents, defScope s_Heap_contents, [], []⟩
def d_law_bag : He5.DefA := ⟨fun K => He.ga K "_law_bag", "_law_bag", "_law_bag", defArgs s_law_bag, defBody s_law_bag, defScope s_law_bag, [], []⟩
def d_law_take : He5.DefA := ⟨fun K => He.ga K "_law_take", "_law_take", "_law_take", defArgs s_law_take, defBody s_law_take, defScope s_law_take, [], []⟩
def d_law_leaf : He5.DefA := ⟨fun K => He.ga K "_law_leaf", "_law_leaf", "_law_leaf", defArgs s_law_leaf, defBody s_law_leaf, defScope s_law_leaf, [], []⟩
def d_law_contents : He5.DefA := ⟨fun K => He.ga K "_law_contents", "_law_contents", "_law_contents", defArgs s_law_contents, defBody s_law_contents, defScope s_law_contents, [], []⟩
def d_law_twofold : He5.DefA := ⟨fun K => He.ga K "_law_twofold", "_law_twofold", "_law_twofold", defArgs s_law_twofold, defBody s_law_twofold, defScope s_law_twofold, [], []⟩
def d_law_heap : He5.DefA := ⟨fun K => He.ga K "_law_heap", "_law_heap", "_law_heap", defArgs s_law_heap, defBody s_law_heap, defScope s_law_heap, [], []⟩
def d_law_shown : He5.DefA := ⟨fun K => He.ga K "_law_shown", "_law_shown", "_law_shown", defArgs s_law_shown, defBody s_law_shown, defScope s_law_shown, [], []⟩
def d_law_told : He5.DefA := ⟨fun K => He.ga K "_law_told", "_law_told", "_law_told", defArgs s_law_told, defBody s_law_told, defScope s_law_told, [], []⟩
def d_law_by_mark : He5.DefA := ⟨fun K => He.ga K "_law_by_mark", "_law_by_mark", "_law_by_mark", defArgs s_law_by_mark, defBody s_law_by_mark, defScope s_law_by_mark, [], []⟩
def d_law_ordered_contents : He5.DefA := ⟨fun K => He.ga K "_law_ordered_contents", "_law_ordered_contents", "_law_ordered_contents", defArgs s_law_ordered_contents, defBody s_law_ordered_contents, defScope s_law_ordered_contents, [], []⟩
def d_law_due : He5.DefA := ⟨fun K => He.ga K "_law_due", "_law_due", "_law_due", defArgs s_law_due, defBody s_law_due, defScope s_law_due, [], []⟩
def d_law_at : He5.DefA := ⟨fun K => He.ga K "_law_at", "_law_at", "_law_at", defArgs s_law_at, defBody s_law_at, defScope s_law_at, [], []⟩
def d_law : He5.DefA := ⟨fun K => He.ga K "law", "law", "law", defArgs s_law, defBody s_law, defScope s_law, [], []⟩
def fns : List He5.DefA := [d_is_integer, d_is_within, d_is_word, d_is_leaf, d_is_reference, d_is_item, d_is_box, d_pair_of, d_check_sign, d_Verdicts_init, d_Verdicts_of_pair, d_Verdicts_go_on, d_Verdicts_decide, d_Verdicts_entered_from, d_steps_until_deep, d_Outcome_init, d_Outcome_ends, d_Outcome_measure, d_Outcome_at, d_Outcome_go_round, d_equality, d_stands, d_answer, d_first_unlike, d_decided, d_word_of, d_ordering, d_Heap_init, d_Heap_of, d_Heap_len, d_Heap_has, d_Heap_size, d_Heap_need_box, d_Heap_need_place, d_Heap_need_item, d_Heap_need_room, d_Heap_new, d_Heap_add_at, d_Heap_add_last, d_Heap_contents, d_law_bag, d_law_take, d_law_leaf, d_law_contents, d_law_twofold, d_law_heap, d_law_shown, d_law_told, d_law_by_mark, d_law_ordered_contents, d_law_due, d_law_at, d_law]
def facts : List He.Fa := ([.glo "is_integer", .glo "is_within", .glo "is_word", .glo "is_leaf", .glo "is_reference", .glo "is_item", .glo "is_box", .glo "pair_of", .glo "check_sign", .glo "steps_until_deep", .glo "equality", .glo "stands", .glo "answer", .glo "first_unlike", .glo "decided", .glo "word_of", .glo "ordering", .glo "_law_bag", .glo "_law_take", .glo "_law_leaf", .glo "_law_contents", .glo "_law_twofold", .glo "_law_heap", .glo "_law_shown", .glo "_law_told", .glo "_law_by_mark", .glo "_law_ordered_contents", .glo "_law_due", .glo "_law_at", .glo "law"] : List He.Fa) ++
  ([.glo "Verdicts", .cls "Verdicts", .mkr "Verdicts", .glo "Outcome", .cls "Outcome", .mkr "Outcome", .glo "Heap", .cls "Heap", .mkr "Heap", .noat "Verdicts" "lists", .noat "Verdicts" "known", .noat "Verdicts" "deepest", .noat "Outcome" "word", .noat "Outcome" "number", .noat "Outcome" "verdicts", .noat "Outcome" "course", .noat "Outcome" "loop", .noat "Outcome" "steps", .noat "Outcome" "depth", .noat "Heap" "lists", .meth "Verdicts" "of_pair", .meth "Verdicts" "go_on", .meth "Verdicts" "decide", .meth "Verdicts" "entered_from", .meth "Outcome" "measure", .meth "Outcome" "at", .meth "Outcome" "go_round", .meth "Heap" "__len__", .meth "Heap" "__contains__", .meth "Heap" "need_box"] : List He.Fa) ++
  ([.meth "Heap" "need_place", .meth "Heap" "need_item", .meth "Heap" "need_room", .meth "Heap" "new", .meth "Heap" "add_at", .meth "Heap" "add_last", .meth "Heap" "contents", .free "isinstance", .free "len", .free "int", .free "bool", .free "str", .free "tuple", .free "list", .free "range", .free "zip", .free "max", .free "min", .free "sum", .free "abs", .free "all", .free "repr", .str "BOX" "box", .str "LETTERS" "abcdefghijklmnopqrstuvwxyz", .int "MOST_LETTERS" 8, .str "EQUAL" "equal", .str "UNLIKE" "unlike", .str "ENDLESS" "endless", .str "TOO_DEEP" "too deep", .str "YES" "yes"] : List He.Fa) ++
  ([.str "NO" "no", .str "NO_ORDER" "no order", .int "MOST_LIMIT" (10 ^ 30), .int "LENGTHS" (-1), .glo "SIGNS"] : List He.Fa)
/-- the rest of what is asked of the top, as one Bool -/
def propB (K : PySem.W.Frag) (c f : Str) : Bool :=
  He.eqO (PySem.W.findIn K (.ref (He.ga K c)) f) (some (some (.ref (He.ma K (He.ga K c) f)))) && (He.eqO (PySem.W.specialIn K (.ref (He.ma K (He.ga K c) f)) "__get__") (some (some (.builtin "property.__get__"))) &&
    (decide (PySem.W.takesIn K (.ref (He.ma K (He.ga K c) f)) = some true) && (match PySem.W.recIn K (He.ma K (He.ga K c) f) "property" with
      | some (.ref _ :: _) => true
      | _ => false)))
theorem propB_ok {K : PySem.W.Frag} {c f : Str} (h : propB K c f = true) : PropOf K (He.ga K c) f (He.ma K (He.ga K c) f) (He5.wf K (He.ga K c) "property" f) := by
  obtain ⟨h1, h⟩ := He.ba h
  obtain ⟨h2, h⟩ := He.ba h
  obtain ⟨h3, h4⟩ := He.ba h
  refine ⟨He.eqO_ok h1, He.eqO_ok h2, of_decide_eq_true h3, ?_⟩
  show ∃ rest, PySem.W.recIn K (He.ma K (He.ga K c) f) "property" = some (.ref (match PySem.W.recIn K (He.ma K (He.ga K c) f) "property" with
    | some (.ref g :: _) => g
    | _ => 0) :: rest)
  split at h4
  · rename_i g r e
    exact ⟨r, by rw [e]⟩
  · cases h4
/-- a class's constant, read off the class -/
def cvalB (K : PySem.W.Frag) (c f : Str) (i : Int) : Bool := match PySem.W.findCls K (.ref (He.ga K c)) (.type "type") f with
  | some (.val (.int j _)) => decide (j = i)
  | _ => false
theorem cvalB_ok {K : PySem.W.Frag} {c f : Str} {i : Int} (h : cvalB K c f i = true) : ∃ u, ClX.CVal K (He.ga K c) (.type "type") f (.int i) u := by
  unfold cvalB at h
  split at h
  · rename_i j t e
    exact ⟨_, e, t, by rw [of_decide_eq_true h]⟩
  · cases h
def creadB (K : PySem.W.Frag) (c : Str) : Bool := PySem.W.readsIn K (He.ga K c) (.type "type") && He.eqO (PySem.W.specialIn K (.ref (He.ga K c)) "__getattribute__") (some (some (.builtin "type.__getattribute__")))
theorem creadB_ok {K : PySem.W.Frag} {c : Str} (h : creadB K c = true) : ClX.CRead K (He.ga K c) (.type "type") := by
  obtain ⟨h1, h2⟩ := He.ba h
  exact ⟨h1, He.eqO_ok h2⟩
def moreB (K : PySem.W.Frag) : Bool := propB K "Outcome" "ends" && (propB K "Heap" "size" && (creadB K "Heap" && (cvalB K "Heap" "MOST_BOXES" 60 && (cvalB K "Heap" "MOST_ITEMS" 300 &&
  (He5.wrapB K (He.ga K "Heap") "classmethod" "classmethod.__get__" "of" && (PySem.W.fnIn K (He5.wf K (He.ga K "Heap") "classmethod" "of") && He.tupB K "SIGNS" [.str "<", .str "<=", .str ">", .str ">="]))))))
/-! addresses that are reached: each once, by a mask -/
def addB : List Addr → Nat → List Addr → Nat × List Addr
  | [], m, acc => (m, acc)
  | a :: r, m, acc => match Nat.testBit m a with
    | true => addB r m acc
    | false => addB r (m ||| (1 <<< a)) (a :: acc)
def refsB (g : Addr → Option Obj) (as : List Addr) : List Addr := as.flatMap fun a => match g a with
  | some o => He.refsD o
  | none => []
def growB (g : Addr → Option Obj) : Nat → Nat × List Addr → List Addr → List Addr
  | 0, _, all => all
  | n + 1, p, all => match addB (refsB g p.2) p.1 [] with
    | (m, new) => growB g n (m, new) (new ++ all)
def asB (g : Addr → Option Obj) : List Addr := growB g 6 (1 <<< PySem.mainGlobals, [PySem.mainGlobals]) [PySem.mainGlobals, PySem.cStatics]
abbrev AlR : Type := He.AlD × Bool
def obsR (as : (Addr → Option Obj) → List Addr) (g : Addr → Option Obj) : AlR := (He5.obsA facts fns (He.frG g (as g)), moreB (He.frG g (as g)))
def Says (K : PySem.W.Frag) : Prop := He5.SaysA facts fns K ∧ moreB K = true
def hookR (as : (Addr → Option Obj) → List Addr) : PySem.W.Hook where
  α := AlR
  obs := fun s => obsR as s.heap.get?
  val := fun _ => (He5.valA fns, true)
  says := fun _ h => ∃ K : PySem.W.Frag, K.In h ∧ Says K
  of := fun _ s e => ⟨He.frG s.heap.get? (as s.heap.get?), He.frG_in, congrArg (fun z : AlR => z.1) e, congrArg (fun z : AlR => z.2) e⟩
  keeps := fun _ _ _ ⟨K, hK, c⟩ k => ⟨K, PySem.W.Frag.In.keeps hK k, c⟩
def obR (as : (Addr → Option Obj) → List Addr) (s : PySem.W.SharedT) : AlR := obsR as (HandSHeadRun.getT s)
theorem obR_eq (as : (Addr → Option Obj) → List Addr) (s : PySem.W.SharedT) : obR as s = (hookR as).obs s.abs := by
  have e : HandSHeadRun.getT s = s.abs.heap.get? := funext (HandSHeadRun.getT_eq s)
  show obsR as (HandSHeadRun.getT s) = obsR as s.abs.heap.get?
  rw [e]
def hook : PySem.W.Hook := hookR asB
def ob : PySem.W.SharedT → AlR := obR asB
theorem ob_eq (s : PySem.W.SharedT) : ob s = hook.obs s.abs := obR_eq asB s
def loose : List PySem.Str := (["_wall", "__name__", "RingError", "BadItem", "BadLimit", "BadSign", "NoBox", "NoPlace", "Full", "BOX", "LETTERS", "MOST_LETTERS", "MOST_LIMIT", "SIGNS", "is_integer", "is_within", "is_word", "is_leaf", "is_reference", "is_item", "is_box", "pair_of", "check_sign", "EQUAL", "UNLIKE", "ENDLESS", "LENGTHS", "Verdicts", "steps_until_deep", "TOO_DEEP"] : List PySem.Str) ++
  (["Outcome", "equality", "YES", "NO", "NO_ORDER", "stands", "answer", "first_unlike", "decided", "word_of", "ordering", "Heap", "_law_bag", "_law_take", "_law_leaf", "_law_contents", "_law_twofold", "_law_heap", "_law_shown", "_law_told", "_law_by_mark", "_law_ordered_contents", "_law_due", "_law_at"] : List PySem.Str)
abbrev R : PySem.W.OpenRow := PySem.W.OpenLaw.row PySem.Challenge.rw_ringlists_k26_whole_order_by_comparing
theorem run (w : World) : HandSHeadRun.RunEq R (PySem.W.view R.prog [60]) hook ob 8000 loose w := by
  intro os
  kernel_rfl
end RkHd
set_option Elab.async false
set_option linter.all false
/-! The mathematics of comparing boxes: no program in sight. -/
namespace Rk
open PySem
inductive It where
  | i (n : Int) | w (s : Str) | b (n : Nat)
  deriving DecidableEq
abbrev Ctn := List (List It)
abbrev Pr := Nat × Nat
def rw (c : Ctn) (x : Nat) : List It := c.getD x []
def pairOf : It → It → Option Pr
  | .b x, .b y => if x = y then none else some (x, y)
  | _, _ => none
inductive Wd where
  | eq | un | en
  deriving DecidableEq
/-- a verdict: word, steps, depth, place -/
structure Vd where
  w : Wd
  s : Nat
  d : Nat
  pl : Int
  deriving DecidableEq
/-- a finite one -/
structure Fv where
  un : Bool
  s : Nat
  d : Nat
  deriving DecidableEq
def Vd.fin (v : Vd) : Option Fv := match v.w with
  | .en => none
  | .eq => some ⟨false, v.s, v.d⟩
  | .un => some ⟨true, v.s, v.d⟩
def scan (f : Pr → Option Fv) : List (It × It) → Nat → Nat → Nat → Vd
  | [], pl, s, d => ⟨.eq, s, d, pl⟩
  | (a, b) :: r, pl, s, d => match pairOf a b with
    | none => if a = b then scan f r (pl + 1) s d else ⟨.un, s, d, pl⟩
    | some q => match f q with
      | none => ⟨.en, 0, 0, pl⟩
      | some v => if v.un = true then ⟨.un, s + v.s, max d (v.d + 1), pl⟩ else scan f r (pl + 1) (s + v.s) (max d (v.d + 1))
def kids (f : Pr → Option Fv) : List (It × It) → List Pr
  | [] => []
  | (a, b) :: r => match pairOf a b with
    | none => if a = b then kids f r else []
    | some q => q :: match f q with
      | none => []
      | some v => if v.un = true then [] else kids f r
def zp (c : Ctn) (p : Pr) : List (It × It) := (rw c p.1).zip (rw c p.2)
def step (c : Ctn) (f : Pr → Option Fv) (p : Pr) : Vd :=
  if (rw c p.1).length = (rw c p.2).length then scan f (zp c p) 0 1 1 else ⟨.un, 1, 1, -1⟩
def run (c : Ctn) : Nat → Pr → Option Fv
  | 0, _ => none
  | n + 1, p => (step c (run c n) p).fin
/-- g knows at least what f knows -/
def Le (f g : Pr → Option Fv) : Prop := ∀ q v, f q = some v → g q = some v
theorem scan_mono {f g : Pr → Option Fv} (h : Le f g) : ∀ (l : List (It × It)) (pl s d : Nat) (v : Fv), (scan f l pl s d).fin = some v → scan g l pl s d = scan f l pl s d
  | [], _, _, _, _, _ => rfl
  | (a, b) :: r, pl, s, d, v, e => by
    unfold scan at e ⊢
    cases hp : pairOf a b with
    | none =>
      simp only [hp] at e ⊢
      by_cases hab : a = b
      · simp only [if_pos hab] at e ⊢
        exact scan_mono h r _ _ _ v e
      · simp only [if_neg hab] at e ⊢
    | some q =>
      simp only [hp] at e ⊢
      cases hf : f q with
      | none => simp only [hf] at e; cases e
      | some u =>
        rw [h q u hf]
        simp only [hf] at e ⊢
        by_cases hu : u.un = true
        · simp only [if_pos hu]
        · simp only [if_neg hu] at e ⊢
          exact scan_mono h r _ _ _ v e
theorem step_mono {c : Ctn} {f g : Pr → Option Fv} (h : Le f g) (p : Pr) (v : Fv) (e : (step c f p).fin = some v) : step c g p = step c f p := by
  unfold step at e ⊢
  by_cases hl : (rw c p.1).length = (rw c p.2).length
  · rw [if_pos hl] at e ⊢
    rw [if_pos hl]
    exact scan_mono h _ _ _ _ v e
  · rw [if_neg hl, if_neg hl]
theorem run_succ (c : Ctn) : ∀ n, Le (run c n) (run c (n + 1))
  | 0, _, _, e => nomatch e
  | n + 1, p, v, e => by
    show (step c (run c (n + 1)) p).fin = some v
    rw [step_mono (run_succ c n) p v e]
    exact e
theorem run_le (c : Ctn) {n m : Nat} (h : n ≤ m) : Le (run c n) (run c m) := by
  induction h with
  | refl => exact fun _ _ e => e
  | step _ ih => exact fun q v e => run_succ c _ q v (ih q v e)
open Classical in
noncomputable def Vc (c : Ctn) (p : Pr) : Option Fv := if h : ∃ n, (run c n p).isSome = true then run c h.choose p else none
theorem V_of {c : Ctn} {p : Pr} {n : Nat} {v : Fv} (e : run c n p = some v) : Vc c p = some v := by
  have h : ∃ n, (run c n p).isSome = true := ⟨n, by rw [e]; rfl⟩
  unfold Vc
  rw [dif_pos h]
  obtain ⟨u, hu⟩ := Option.isSome_iff_exists.mp h.choose_spec
  rw [hu]
  rcases Nat.le_total n h.choose with k | k
  · exact (hu.symm.trans (run_le c k p v e)).symm ▸ rfl
  · exact ((run_le c k p u hu).symm.trans e)
theorem of_V {c : Ctn} {p : Pr} {v : Fv} (e : Vc c p = some v) : ∃ n, run c n p = some v := by
  unfold Vc at e
  split at e
  · exact ⟨_, e⟩
  · cases e
theorem run_V (c : Ctn) (n : Nat) : Le (run c n) (Vc c) := fun _ _ e => V_of e
/-- a finite scan uses only a finite part of Vc -/
theorem scan_fin {c : Ctn} : ∀ (l : List (It × It)) (pl s d : Nat) (v : Fv), (scan (Vc c) l pl s d).fin = some v → ∃ n, scan (run c n) l pl s d = scan (Vc c) l pl s d
  | [], _, _, _, _, _ => ⟨0, rfl⟩
  | (a, b) :: r, pl, s, d, v, e => by
    unfold scan at e ⊢
    cases hp : pairOf a b with
    | none =>
      simp only [hp] at e ⊢
      by_cases hab : a = b
      · simp only [if_pos hab] at e ⊢
        exact scan_fin r _ _ _ v e
      · simp only [if_neg hab] at e ⊢
        exact ⟨0, trivial⟩
    | some q =>
      simp only [hp] at e ⊢
      cases hf : Vc c q with
      | none => simp only [hf] at e; cases e
      | some u =>
        simp only [hf] at e ⊢
        obtain ⟨m, hm⟩ := of_V hf
        by_cases hu : u.un = true
        · refine ⟨m, ?_⟩
          simp only [hm, if_pos hu]
        · simp only [if_neg hu] at e ⊢
          obtain ⟨n, hn⟩ := scan_fin r _ _ _ v e
          refine ⟨max m n, ?_⟩
          simp only [run_le c (Nat.le_max_left m n) q u hm, if_neg hu]
          have e2 : (scan (run c n) r (pl + 1) (s + u.s) (max d (u.d + 1))).fin = some v := by rw [hn]; exact e
          rw [scan_mono (run_le c (Nat.le_max_right m n)) r _ _ _ v e2, hn]
/-- the verdict of a pair, with its place -/
noncomputable def VV (c : Ctn) (p : Pr) : Vd := step c (Vc c) p
theorem V_fix (c : Ctn) (p : Pr) : Vc c p = (VV c p).fin := by
  cases e : (VV c p).fin with
  | none =>
    cases e2 : Vc c p with
    | none => rfl
    | some v =>
      obtain ⟨n, hn⟩ := of_V e2
      cases n with
      | zero => cases hn
      | succ n =>
        have h := step_mono (c := c) (run_V c n) p v hn
        unfold VV at e
        rw [h] at e
        exact (hn.symm.trans e)
  | some v =>
    have h : ∃ n, step c (run c n) p = VV c p := by
      unfold VV step at e ⊢
      by_cases hl : (rw c p.1).length = (rw c p.2).length
      · rw [if_pos hl] at e
        obtain ⟨n, hn⟩ := scan_fin _ _ _ _ v e
        exact ⟨n, by rw [if_pos hl, if_pos hl]; exact hn⟩
      · exact ⟨0, by rw [if_neg hl, if_neg hl]⟩
    obtain ⟨n, hn⟩ := h
    exact V_of (n := n + 1) (by show (step c (run c n) p).fin = some v; rw [hn]; exact e)
noncomputable def kidsOf (c : Ctn) (p : Pr) : List Pr := if (rw c p.1).length = (rw c p.2).length then kids (Vc c) (zp c p) else []
/-- a kid is needed -/
theorem kid_need {c : Ctn} {q : Pr} {n : Nat} : ∀ (l : List (It × It)) (pl s d : Nat) (v : Fv), q ∈ kids (Vc c) l → (scan (run c n) l pl s d).fin = some v → (run c n q).isSome = true
  | [], _, _, _, _, h, _ => by cases h
  | (a, b) :: r, pl, s, d, v, h, e => by
    unfold scan at e
    unfold kids at h
    cases hp : pairOf a b with
    | none =>
      simp only [hp] at e h
      by_cases hab : a = b
      · simp only [if_pos hab] at e h
        exact kid_need r _ _ _ v h e
      · simp only [if_neg hab] at h
        cases h
    | some q' =>
      simp only [hp] at e h
      cases hf : run c n q' with
      | none => simp only [hf] at e; cases e
      | some u =>
        rcases List.mem_cons.mp h with rfl | h
        · rw [hf]; rfl
        · simp only [hf, run_V c n q' u hf] at e h
          by_cases hu : u.un = true
          · rw [if_pos hu] at h; cases h
          · rw [if_neg hu] at h
            simp only [if_neg hu] at e
            exact kid_need r _ _ _ v h e
theorem kidsOf_need {c : Ctn} {p q : Pr} {n : Nat} (h : q ∈ kidsOf c p) (e : (run c (n + 1) p).isSome = true) : (run c n q).isSome = true := by
  unfold kidsOf at h
  by_cases hl : (rw c p.1).length = (rw c p.2).length
  · rw [if_pos hl] at h
    obtain ⟨v, hv⟩ := Option.isSome_iff_exists.mp e
    have hv : (step c (run c n) p).fin = some v := hv
    unfold step at hv
    rw [if_pos hl] at hv
    exact kid_need _ _ _ _ v h hv
  · rw [if_neg hl] at h; cases h
/-- a stack of pairs, the top first: each one is a kid of the next -/
def Stk (c : Ctn) : List Pr → Prop
  | [] => True
  | [_] => True
  | q :: p :: r => q ∈ kidsOf c p ∧ Stk c (p :: r)
theorem Stk.tail {c : Ctn} {p : Pr} {r : List Pr} (h : Stk c (p :: r)) : Stk c r := by
  cases r with
  | nil => trivial
  | cons q r => exact h.2
theorem Stk.need {c : Ctn} : ∀ {r : List Pr} {t p : Pr}, Stk c (t :: r) → p ∈ t :: r → ∀ n, (run c n p).isSome = true → ∃ m, m ≤ n ∧ (run c m t).isSome = true
  | [], t, p, _, hp, n, e => by
    rcases List.mem_cons.mp hp with rfl | h
    · exact ⟨n, Nat.le_refl _, e⟩
    · cases h
  | q :: r, t, p, h, hp, n, e => by
    rcases List.mem_cons.mp hp with rfl | hp
    · exact ⟨n, Nat.le_refl _, e⟩
    · obtain ⟨m, hm, e2⟩ := Stk.need h.2 hp n e
      cases m with
      | zero => cases e2
      | succ m => exact ⟨m, by omega, kidsOf_need h.1 e2⟩
/-- a kid of the top that stands on the stack: endless -/
theorem Stk.endless {c : Ctn} {t q : Pr} {r : List Pr} (h : Stk c (t :: r)) (hq : q ∈ t :: r) (hk : q ∈ kidsOf c t) : Vc c q = none := by
  have key : ∀ n, (run c n t).isSome = true → False := by
    intro n
    induction n using Nat.strongRecOn with
    | _ n ih =>
      intro e
      cases n with
      | zero => cases e
      | succ n =>
        obtain ⟨m, hm, e2⟩ := h.need hq n (kidsOf_need hk e)
        exact ih m (by omega) e2
  cases e : Vc c q with
  | none => rfl
  | some v =>
    obtain ⟨n, hn⟩ := of_V e
    obtain ⟨m, _, e2⟩ := h.need hq n (by rw [hn]; rfl)
    exact (key m e2).elim
end Rk
set_option Elab.async false
set_option linter.all false
namespace Rk
open PySem
theorem drop_at {α : Type} {l : List α} {i : Nat} {x : α} (h : l[i]? = some x) : l.drop i = x :: l.drop (i + 1) := by
  obtain ⟨hi, e⟩ := List.getElem?_eq_some_iff.mp h
  rw [List.drop_eq_getElem_cons hi, e]
/-- a frame of the stack: at this place, with these steps and depth; all kids ahead are known -/
def FrOk (c : Ctn) (k : Pr → Prop) (p : Pr) (pl s d : Nat) : Prop :=
  ((rw c p.1).length = (rw c p.2).length → pl ≤ (zp c p).length ∧ VV c p = scan (Vc c) ((zp c p).drop pl) pl s d ∧
    ∀ q ∈ kidsOf c p, k q ∨ q ∈ kids (Vc c) ((zp c p).drop pl))
theorem FrOk.fresh (c : Ctn) (k : Pr → Prop) (p : Pr) : FrOk c k p 0 1 1 := fun hl => by
  refine ⟨Nat.zero_le _, ?_, fun q hq => .inr ?_⟩
  · show step c (Vc c) p = _
    unfold step
    rw [if_pos hl, List.drop_zero]
  · unfold kidsOf at hq
    rw [if_pos hl] at hq
    rw [List.drop_zero]
    exact hq
theorem FrOk.mono {c : Ctn} {k k' : Pr → Prop} {p : Pr} {pl s d : Nat} (h : FrOk c k p pl s d) (m : ∀ q, k q → k' q) : FrOk c k' p pl s d := fun hl => by
  obtain ⟨h1, h2, h3⟩ := h hl
  exact ⟨h1, h2, fun q hq => (h3 q hq).imp (m q) id⟩
section
variable {c : Ctn} {k : Pr → Prop} {p q : Pr} {pl s d : Nat} {a b : It} {u : Fv}
theorem FrOk.same (h : FrOk c k p pl s d) (hl : (rw c p.1).length = (rw c p.2).length) (hx : (zp c p)[pl]? = some (a, b)) (hp : pairOf a b = none) (hab : a = b) : FrOk c k p (pl + 1) s d := fun _ => by
  obtain ⟨h1, h2, h3⟩ := h hl
  have e := drop_at hx
  refine ⟨(List.getElem?_eq_some_iff.mp hx).1, ?_, fun q hq => ?_⟩
  · rw [h2, e]
    show (match pairOf a b with | none => _ | some q => _) = _
    simp only [hp, if_pos hab]
  · refine (h3 q hq).imp id fun z => ?_
    rw [e] at z
    unfold kids at z
    simp only [hp, if_pos hab] at z
    exact z
theorem FrOk.leaf (h : FrOk c k p pl s d) (hl : (rw c p.1).length = (rw c p.2).length) (hx : (zp c p)[pl]? = some (a, b)) (hp : pairOf a b = none) (hab : ¬ a = b) :
    VV c p = ⟨.un, s, d, pl⟩ ∧ ∀ q ∈ kidsOf c p, k q := by
  obtain ⟨h1, h2, h3⟩ := h hl
  have e := drop_at hx
  refine ⟨?_, fun q hq => (h3 q hq).elim id fun z => ?_⟩
  · rw [h2, e]
    show (match pairOf a b with | none => _ | some q => _) = _
    simp only [hp, if_neg hab]
  · rw [e] at z
    unfold kids at z
    simp only [hp, if_neg hab] at z
    cases z
theorem FrOk.kid (hl : (rw c p.1).length = (rw c p.2).length) (h : FrOk c k p pl s d) (hx : (zp c p)[pl]? = some (a, b)) (hp : pairOf a b = some q) (hk : ∀ q ∈ kids (Vc c) ((zp c p).drop pl), q ∈ kidsOf c p) : q ∈ kidsOf c p := by
  refine hk q ?_
  rw [drop_at hx]
  unfold kids
  simp only [hp]
  exact List.mem_cons_self ..
theorem FrOk.endl (h : FrOk c k p pl s d) (hl : (rw c p.1).length = (rw c p.2).length) (hx : (zp c p)[pl]? = some (a, b)) (hp : pairOf a b = some q) (hv : Vc c q = none) :
    VV c p = ⟨.en, 0, 0, pl⟩ ∧ ∀ r ∈ kidsOf c p, k r ∨ r = q := by
  obtain ⟨h1, h2, h3⟩ := h hl
  have e := drop_at hx
  refine ⟨?_, fun r hr => (h3 r hr).imp id fun z => ?_⟩
  · rw [h2, e]
    show (match pairOf a b with | none => _ | some q => _) = _
    simp only [hp, hv]
  · rw [e] at z
    unfold kids at z
    simp only [hp, hv] at z
    rcases List.mem_cons.mp z with z | z
    · exact z
    · cases z
theorem FrOk.unl (h : FrOk c k p pl s d) (hl : (rw c p.1).length = (rw c p.2).length) (hx : (zp c p)[pl]? = some (a, b)) (hp : pairOf a b = some q) (hv : Vc c q = some u) (hu : u.un = true) :
    VV c p = ⟨.un, s + u.s, max d (u.d + 1), pl⟩ ∧ ∀ r ∈ kidsOf c p, k r ∨ r = q := by
  obtain ⟨h1, h2, h3⟩ := h hl
  have e := drop_at hx
  refine ⟨?_, fun r hr => (h3 r hr).imp id fun z => ?_⟩
  · rw [h2, e]
    show (match pairOf a b with | none => _ | some q => _) = _
    simp only [hp, hv, if_pos hu]
  · rw [e] at z
    unfold kids at z
    simp only [hp, hv, if_pos hu] at z
    rcases List.mem_cons.mp z with z | z
    · exact z
    · cases z
theorem FrOk.next (h : FrOk c k p pl s d) (hl : (rw c p.1).length = (rw c p.2).length) (hx : (zp c p)[pl]? = some (a, b)) (hp : pairOf a b = some q) (hv : Vc c q = some u) (hu : ¬ u.un = true) (hq : k q) :
    FrOk c k p (pl + 1) (s + u.s) (max d (u.d + 1)) := fun _ => by
  obtain ⟨h1, h2, h3⟩ := h hl
  have e := drop_at hx
  refine ⟨(List.getElem?_eq_some_iff.mp hx).1, ?_, fun r hr => ?_⟩
  · rw [h2, e]
    show (match pairOf a b with | none => _ | some q => _) = _
    simp only [hp, hv, if_neg hu]
  · rcases h3 r hr with z | z
    · exact .inl z
    · rw [e] at z
      unfold kids at z
      simp only [hp, hv, if_neg hu] at z
      rcases List.mem_cons.mp z with z | z
      · exact .inl (z ▸ hq)
      · exact .inr z
theorem FrOk.fin (h : FrOk c k p pl s d) (hl : (rw c p.1).length = (rw c p.2).length) (hn : pl = (zp c p).length) : VV c p = ⟨.eq, s, d, pl⟩ ∧ ∀ r ∈ kidsOf c p, k r := by
  obtain ⟨h1, h2, h3⟩ := h hl
  have e : (zp c p).drop pl = [] := by rw [hn]; exact List.drop_length ..
  refine ⟨by rw [h2, e]; rfl, fun r hr => (h3 r hr).elim id fun z => ?_⟩
  rw [e] at z
  cases z
end
theorem lens_ne {c : Ctn} {p : Pr} (hl : ¬ (rw c p.1).length = (rw c p.2).length) : VV c p = ⟨.un, 1, 1, -1⟩ ∧ kidsOf c p = [] := by
  refine ⟨?_, ?_⟩
  · show step c (Vc c) p = _
    unfold step
    rw [if_neg hl]
  · unfold kidsOf
    rw [if_neg hl]
theorem kids_drop {f : Pr → Option Fv} : ∀ (l : List (It × It)) (i : Nat) (q : Pr), True → True
  | _, _, _, _ => trivial
theorem zp_len {c : Ctn} {p : Pr} (hl : (rw c p.1).length = (rw c p.2).length) : (zp c p).length = (rw c p.1).length := by
  unfold zp
  rw [List.length_zip, ← hl]
  exact Nat.min_self _
theorem zp_at {c : Ctn} {p : Pr} {i : Nat} {a b : It} (ha : (rw c p.1)[i]? = some a) (hb : (rw c p.2)[i]? = some b) : (zp c p)[i]? = some (a, b) := by
  unfold zp
  rw [List.getElem?_zip_eq_some]
  exact ⟨ha, hb⟩
/-! ### how many steps a known pair takes -/
theorem scan_congr {f g : Pr → Option Fv} : ∀ (l : List (It × It)) (pl s d : Nat), (∀ q ∈ kids g l, f q = g q) → scan f l pl s d = scan g l pl s d
  | [], _, _, _, _ => rfl
  | (a, b) :: r, pl, s, d, h => by
    unfold scan
    unfold kids at h
    cases hp : pairOf a b with
    | none =>
      simp only [hp] at h ⊢
      by_cases hab : a = b
      · simp only [if_pos hab] at h ⊢
        exact scan_congr r _ _ _ h
      · simp only [if_neg hab]
    | some q =>
      simp only [hp] at h ⊢
      rw [h q (List.mem_cons_self ..)]
      cases hg : g q with
      | none => rfl
      | some u =>
        simp only [hg] at h ⊢
        by_cases hu : u.un = true
        · simp only [if_pos hu]
        · simp only [if_neg hu] at h ⊢
          exact scan_congr r _ _ _ fun q hq => h q (List.mem_cons_of_mem _ hq)
theorem run_kids {c : Ctn} {p : Pr} {n : Nat} (h : ∀ q ∈ kidsOf c p, ∀ u, Vc c q = some u → run c n q = some u) {v : Fv} (hv : Vc c p = some v) : run c (n + 1) p = some v := by
  rw [V_fix] at hv
  rw [← hv]
  show (step c (run c n) p).fin = (step c (Vc c) p).fin
  unfold step
  by_cases hl : (rw c p.1).length = (rw c p.2).length
  · rw [if_pos hl, if_pos hl]
    rw [scan_congr (f := run c n) (g := Vc c)]
    intro q hq
    have hk : q ∈ kidsOf c p := by
      unfold kidsOf
      rw [if_pos hl]
      exact hq
    cases e : Vc c q with
    | some u => exact h q hk u e
    | none =>
      cases e2 : run c n q with
      | none => rfl
      | some u => rw [run_V c n q u e2] at e; cases e
  · rw [if_neg hl, if_neg hl]
theorem scan_bound {f : Pr → Option Fv} {S Dp : Nat} (h : ∀ q u, f q = some u → u.s ≤ S ∧ u.d ≤ Dp) : ∀ (l : List (It × It)) (pl s d : Nat), (scan f l pl s d).s ≤ s + l.length * S ∧ (scan f l pl s d).d ≤ max d (Dp + 1)
  | [], _, s, d => ⟨Nat.le_add_right .., Nat.le_max_left ..⟩
  | (a, b) :: r, pl, s, d => by
    have z : (r.length + 1) * S = r.length * S + S := Nat.succ_mul ..
    unfold scan
    cases hp : pairOf a b with
    | none =>
      dsimp only
      by_cases hab : a = b
      · rw [if_pos hab]
        obtain ⟨h1, h2⟩ := scan_bound h r (pl + 1) s d
        exact ⟨by rw [List.length_cons, z]; omega, h2⟩
      · rw [if_neg hab]
        exact ⟨Nat.le_add_right .., Nat.le_max_left ..⟩
    | some q =>
      dsimp only
      cases hf : f q with
      | none =>
        exact ⟨Nat.zero_le _, Nat.zero_le _⟩
      | some u =>
        obtain ⟨q1, q2⟩ := h q u hf
        by_cases hu : u.un = true
        · dsimp only
          rw [if_pos hu, List.length_cons, z]
          dsimp only
          omega
        · dsimp only
          rw [if_neg hu, List.length_cons, z]
          obtain ⟨h1, h2⟩ := scan_bound h r (pl + 1) (s + u.s) (max d (u.d + 1))
          omega
theorem fin_some {v : Vd} {u : Fv} (h : v.fin = some u) : u.s = v.s ∧ u.d = v.d ∧ (u.un = true ↔ v.w = .un) ∧ v.w ≠ .en := by
  obtain ⟨w, s, d, pl⟩ := v
  cases w <;> simp [Vd.fin] at h <;> subst h <;> simp
theorem run_bound {c : Ctn} {M : Nat} (hM : ∀ x, (rw c x).length ≤ M) : ∀ (n : Nat) (p : Pr) (v : Fv), run c n p = some v → v.s ≤ (M + 1) ^ n ∧ v.d ≤ n
  | 0, _, _, e => nomatch e
  | n + 1, p, v, e => by
    have e : (step c (run c n) p).fin = some v := e
    obtain ⟨e1, e2, _⟩ := fin_some e
    have b1 : 1 ≤ (M + 1) ^ n := Nat.one_le_pow _ _ (Nat.succ_pos _)
    have b2 : (M + 1) ^ (n + 1) = M * (M + 1) ^ n + (M + 1) ^ n := by rw [Nat.pow_succ, Nat.mul_comm, Nat.succ_mul]
    rw [e1, e2]
    unfold step
    by_cases hl : (rw c p.1).length = (rw c p.2).length
    · rw [if_pos hl]
      obtain ⟨h1, h2⟩ := scan_bound (f := run c n) (run_bound hM n) (zp c p) 0 1 1
      have h3 : (zp c p).length * (M + 1) ^ n ≤ M * (M + 1) ^ n := Nat.mul_le_mul_right _ (by rw [zp_len hl]; exact hM _)
      refine ⟨by omega, ?_⟩
      refine Nat.le_trans h2 (Nat.max_le.mpr ⟨by omega, by omega⟩)
    · rw [if_neg hl]
      refine ⟨?_, by show 1 ≤ n + 1; omega⟩
      show 1 ≤ _
      omega
/-- the known pairs in the order of their deciding -/
def KnB (c : Ctn) (ks : List Pr) : Prop := ∀ i p, ks[i]? = some p → ∀ v, Vc c p = some v → run c (i + 1) p = some v
theorem KnB.nil (c : Ctn) : KnB c [] := fun i p h => by simp at h
theorem KnB.snoc {c : Ctn} {ks : List Pr} {p : Pr} (h : KnB c ks) (hk : ∀ v, Vc c p = some v → ∀ q ∈ kidsOf c p, q ∈ ks) : KnB c (ks ++ [p]) := by
  intro i r hi v hv
  rcases Nat.lt_or_ge i ks.length with k | k
  · rw [List.getElem?_append_left k] at hi
    exact h i r hi v hv
  · rw [List.getElem?_append_right k] at hi
    have hi0 : i - ks.length = 0 := by
      rcases Nat.eq_zero_or_pos (i - ks.length) with z | z
      · exact z
      · rw [List.getElem?_eq_none (by show 1 ≤ _; exact z)] at hi
        cases hi
    rw [hi0] at hi
    have hi : p = r := Option.some.inj hi
    subst hi
    refine run_kids (fun q hq u hu => ?_) hv
    obtain ⟨j, hj, e⟩ := List.mem_iff_getElem.mp (hk v hv q hq)
    have e2 := h j q (by rw [List.getElem?_eq_getElem hj, e]) u hu
    exact run_le c (by omega) q u e2
theorem KnB.bound {c : Ctn} {ks : List Pr} {M : Nat} (hM : ∀ x, (rw c x).length ≤ M) (h : KnB c ks) {p : Pr} (hp : p ∈ ks) {v : Fv} (hv : Vc c p = some v) : v.s ≤ (M + 1) ^ ks.length ∧ v.d ≤ ks.length := by
  obtain ⟨j, hj, e⟩ := List.mem_iff_getElem.mp hp
  have e2 := h j p (by rw [List.getElem?_eq_getElem hj, e]) v hv
  obtain ⟨h1, h2⟩ := run_bound hM _ _ _ e2
  exact ⟨Nat.le_trans h1 (Nat.pow_le_pow_right (Nat.succ_pos _) (by omega)), by omega⟩
theorem nodup_nat_le : ∀ (n : Nat) (l : List Nat), l.Nodup → (∀ x ∈ l, x < n) → l.length ≤ n
  | 0, [], _, _ => Nat.le_refl _
  | 0, x :: l, _, h => by have := h x (List.mem_cons_self ..); omega
  | n + 1, l, hn, h => by
    by_cases hm : n ∈ l
    · have h1 := nodup_nat_le n (l.erase n) (hn.erase n) (fun x hx => by
        have h2 := h x (List.mem_of_mem_erase hx)
        have h3 : x ≠ n := fun e => by
          subst e
          exact (List.Nodup.not_mem_erase hn) hx
        omega)
      rw [List.length_erase_of_mem hm] at h1
      omega
    · have h1 := nodup_nat_le n l hn (fun x hx => by
        have h2 := h x hx
        have h3 : x ≠ n := fun e => hm (e ▸ hx)
        omega)
      omega
theorem nodup_pr_le {N : Nat} {l : List Pr} (hn : l.Nodup) (h : ∀ p ∈ l, p.1 < N ∧ p.2 < N) : l.length ≤ N * N := by
  have h1 := nodup_nat_le (N * N) (l.map fun p => p.1 * N + p.2) (by
    rw [List.Nodup, List.pairwise_map]
    refine List.Pairwise.imp_of_mem (fun {a b} ha hb hab e => hab ?_) hn
    obtain ⟨a1, a2⟩ := h a ha
    obtain ⟨b1, b2⟩ := h b hb
    have hN : 0 < N := by omega
    have q1 : a.1 = b.1 := by
      have := congrArg (· / N) e
      rw [Nat.mul_comm, Nat.mul_add_div hN, Nat.div_eq_of_lt a2, Nat.mul_comm b.1, Nat.mul_add_div hN, Nat.div_eq_of_lt b2] at this
      omega
    have q2 : a.2 = b.2 := by rw [q1] at e; omega
    exact Prod.ext q1 q2) (fun x hx => by
    obtain ⟨p, hp, rfl⟩ := List.mem_map.mp hx
    obtain ⟨p1, p2⟩ := h p hp
    have : p.1 * N + N ≤ N * N := by
      rw [← Nat.succ_mul]
      exact Nat.mul_le_mul_right _ p1
    show p.1 * N + p.2 < N * N
    omega)
  rw [List.length_map] at h1
  exact h1
/-- the references of a heap are numbers of its boxes -/
def Rng (c : Ctn) : Prop := ∀ x, ∀ it ∈ rw c x, ∀ n, it = .b n → n < c.length
theorem pairOf_some {a b : It} {q : Pr} (h : pairOf a b = some q) : a = .b q.1 ∧ b = .b q.2 ∧ q.1 ≠ q.2 := by
  cases a <;> cases b <;> simp [pairOf] at h
  obtain ⟨h1, h2⟩ := h
  subst h2
  exact ⟨rfl, rfl, h1⟩
theorem pairOf_none {a b : It} (h : pairOf a b = none) : a = b ∨ ¬ ((∃ x, a = .b x) ∧ ∃ y, b = .b y) := by
  cases a <;> cases b <;> simp [pairOf] at h ⊢
  exact h
theorem kids_mem {f : Pr → Option Fv} : ∀ (l : List (It × It)) (q : Pr), q ∈ kids f l → ∃ a b, (a, b) ∈ l ∧ pairOf a b = some q
  | [], _, h => by cases h
  | (a, b) :: r, q, h => by
    unfold kids at h
    cases hp : pairOf a b with
    | none =>
      simp only [hp] at h
      by_cases hab : a = b
      · simp only [if_pos hab] at h
        obtain ⟨x, y, h1, h2⟩ := kids_mem r q h
        exact ⟨x, y, List.mem_cons_of_mem _ h1, h2⟩
      · simp only [if_neg hab] at h
        cases h
    | some q' =>
      simp only [hp] at h
      rcases List.mem_cons.mp h with rfl | h
      · exact ⟨a, b, List.mem_cons_self .., hp⟩
      · cases hf : f q' with
        | none => rw [hf] at h; cases h
        | some u =>
          simp only [hf] at h
          by_cases hu : u.un = true
          · rw [if_pos hu] at h; cases h
          · rw [if_neg hu] at h
            obtain ⟨x, y, h1, h2⟩ := kids_mem r q h
            exact ⟨x, y, List.mem_cons_of_mem _ h1, h2⟩
theorem kidsOf_rng {c : Ctn} (hr : Rng c) {p q : Pr} (h : q ∈ kidsOf c p) : q.1 < c.length ∧ q.2 < c.length := by
  unfold kidsOf at h
  split at h
  · obtain ⟨a, b, h1, h2⟩ := kids_mem _ _ h
    obtain ⟨e1, e2, _⟩ := pairOf_some h2
    have := List.of_mem_zip h1
    exact ⟨hr _ _ this.1 _ e1, hr _ _ this.2 _ e2⟩
  · cases h
end Rk
set_option Elab.async false
set_option linter.all false
namespace Rk
open PySem
/-- the first kid that is endless or deeper than L; the steps of those ahead -/
def brk (f : Pr → Option Fv) (L : Nat) : List Pr → Nat × Option Pr
  | [] => (0, none)
  | q :: r => match f q with
    | none => (0, some q)
    | some v => if L < v.d then (0, some q) else (v.s + (brk f L r).1, (brk f L r).2)
/-- the steps until a pair is too deep -/
noncomputable def T (c : Ctn) : Nat → Pr → Nat
  | 0, _ => 0
  | L + 1, p => 1 + (brk (Vc c) L (kidsOf c p)).1 + T c L ((brk (Vc c) L (kidsOf c p)).2.getD p)
noncomputable def nN (c : Ctn) (D : Nat) (p : Pr) : Pr := (brk (Vc c) D (kidsOf c p)).2.getD p
noncomputable def cC (c : Ctn) (D : Nat) (p : Pr) : Nat := 1 + (brk (Vc c) D (kidsOf c p)).1
noncomputable def itN (c : Ctn) (D : Nat) : Nat → Pr → Pr
  | 0, p => p
  | k + 1, p => nN c D (itN c D k p)
noncomputable def sumC (c : Ctn) (D : Nat) : Nat → Pr → Nat
  | 0, _ => 0
  | k + 1, p => sumC c D k p + cC c D (itN c D k p)
theorem brk_ge {f : Pr → Option Fv} {D L : Nat} (hL : D ≤ L) : ∀ (l : List Pr), (∀ q ∈ l, ∀ v, f q = some v → v.d ≤ D) → brk f L l = brk f D l
  | [], _ => rfl
  | q :: r, h => by
    unfold brk
    cases hf : f q with
    | none => rfl
    | some v =>
      have h1 := h q (List.mem_cons_self ..) v hf
      dsimp only
      rw [if_neg (by omega), if_neg (by omega), brk_ge hL r fun q hq => h q (List.mem_cons_of_mem _ hq)]
theorem brk_mem {f : Pr → Option Fv} {L : Nat} : ∀ (l : List Pr) (q : Pr), (brk f L l).2 = some q → q ∈ l
  | [], _, h => nomatch h
  | p :: r, q, h => by
    unfold brk at h
    cases hf : f p with
    | none =>
      simp only [hf] at h
      exact Option.some.inj h ▸ List.mem_cons_self ..
    | some v =>
      simp only [hf] at h
      by_cases hd : L < v.d
      · rw [if_pos hd] at h
        exact Option.some.inj h ▸ List.mem_cons_self ..
      · rw [if_neg hd] at h
        exact List.mem_cons_of_mem _ (brk_mem r q h)
/-- a set of pairs that holds its kids, all finite ones at most D deep -/
structure Cl (c : Ctn) (D : Nat) (S : Pr → Prop) : Prop where
  kid : ∀ p, S p → ∀ q ∈ kidsOf c p, S q
  dep : ∀ p, S p → ∀ v, Vc c p = some v → v.d ≤ D
section
variable {c : Ctn} {D : Nat} {S : Pr → Prop}
theorem Cl.nN (h : Cl c D S) {p : Pr} (hp : S p) : S (nN c D p) := by
  unfold Rk.nN
  cases e : (brk (Vc c) D (kidsOf c p)).2 with
  | none => exact hp
  | some q => exact h.kid p hp q (brk_mem _ _ e)
theorem Cl.nxt (h : Cl c D S) {p : Pr} (hp : S p) (L : Nat) : S ((brk (Vc c) L (kidsOf c p)).2.getD p) := by
  cases e : (brk (Vc c) L (kidsOf c p)).2 with
  | none => exact hp
  | some q => exact h.kid p hp q (brk_mem _ _ e)
theorem Cl.brk (h : Cl c D S) {p : Pr} (hp : S p) {L : Nat} (hL : D ≤ L) : brk (Vc c) L (kidsOf c p) = brk (Vc c) D (kidsOf c p) := brk_ge hL _ fun q hq v hv => h.dep q (h.kid p hp q hq) v hv
theorem Cl.itN (h : Cl c D S) {p : Pr} (hp : S p) : ∀ k, S (itN c D k p)
  | 0 => hp
  | k + 1 => h.nN (h.itN hp k)
theorem T_path (h : Cl c D S) {p : Pr} (hp : S p) : ∀ (k l : Nat), D ≤ l → T c (l + k) p = sumC c D k p + T c l (itN c D k p)
  | 0, l, _ => by show T c l p = 0 + T c l p; omega
  | k + 1, l, hl => by
    have e := T_path h hp k (l + 1) (by omega)
    have e2 : l + (k + 1) = l + 1 + k := by omega
    rw [e2, e]
    have e3 : T c (l + 1) (itN c D k p) = cC c D (itN c D k p) + T c l (nN c D (itN c D k p)) := by
      show 1 + (Rk.brk (Vc c) l (kidsOf c _)).1 + T c l ((Rk.brk (Vc c) l (kidsOf c _)).2.getD _) = _
      rw [h.brk (h.itN hp k) hl]
      rfl
    rw [e3]
    show _ = sumC c D k p + cC c D (itN c D k p) + T c l (nN c D (itN c D k p))
    omega
theorem T_cycle (h : Cl c D S) {p : Pr} (hp : S p) {k : Nat} (hk : itN c D k p = p) {l : Nat} (hl : D ≤ l) : ∀ j, T c (l + j * k) p = j * sumC c D k p + T c l p
  | 0 => by rw [Nat.zero_mul, Nat.zero_mul]; show T c l p = 0 + T c l p; omega
  | j + 1 => by
    have e : l + (j + 1) * k = (l + j * k) + k := by rw [Nat.succ_mul]; omega
    rw [e, T_path h hp k (l + j * k) (by omega), hk, T_cycle h hp hk hl j, Nat.succ_mul]
    omega
/-- what a remembered pair tells: from q at the limit f, behind b steps, one came here -/
def PasOk (c : Ctn) (D : Nat) (S : Pr → Prop) (q : Pr) (f b : Nat) (p : Pr) (l s : Nat) : Prop :=
  S q ∧ ∃ k, f = l + k ∧ (D ≤ l → itN c D k q = p ∧ s = b + sumC c D k q)
theorem PasOk.here {p : Pr} {l s : Nat} (hp : S p) : PasOk c D S p l s p l s := ⟨hp, 0, rfl, fun _ => ⟨rfl, rfl⟩⟩
theorem PasOk.step (h : Cl c D S) {q p : Pr} {f b l s : Nat} (hp : S p) (o : PasOk c D S q f b p (l + 1) s) :
    PasOk c D S q f b ((brk (Vc c) l (kidsOf c p)).2.getD p) l (s + 1 + (brk (Vc c) l (kidsOf c p)).1) ∧ l < f := by
  obtain ⟨hq, k, hf, hk⟩ := o
  refine ⟨⟨hq, k + 1, by omega, fun hl => ?_⟩, by omega⟩
  obtain ⟨e1, e2⟩ := hk (by omega)
  subst e1
  rw [h.brk hp hl]
  refine ⟨rfl, ?_⟩
  show _ = b + (sumC c D k q + (1 + (Rk.brk (Vc c) D (kidsOf c (Rk.itN c D k q))).1))
  omega
theorem PasOk.skip (h : Cl c D S) {p : Pr} {f b l s : Nat} (o : PasOk c D S p f b p l s) (hl : D ≤ l) (hf : l < f) :
    b ≤ s ∧ T c l p = ((l - D) / (f - l)) * (s - b) + T c (l - ((l - D) / (f - l)) * (f - l)) p ∧ D ≤ l - ((l - D) / (f - l)) * (f - l) := by
  obtain ⟨hq, k, hk0, hk⟩ := o
  obtain ⟨e1, e2⟩ := hk hl
  have ek : f - l = k := by omega
  have es : s - b = sumC c D k p := by omega
  rw [ek, es]
  have hd : ((l - D) / k) * k ≤ l - D := Nat.div_mul_le_self ..
  refine ⟨by omega, ?_, by omega⟩
  have e := T_cycle h hq e1 (l := l - (l - D) / k * k) (by omega) ((l - D) / k)
  have e3 : l - (l - D) / k * k + (l - D) / k * k = l := by omega
  rw [e3] at e
  exact e
theorem brk_cost {f : Pr → Option Fv} {L B : Nat} : ∀ (l : List Pr), (∀ q ∈ l, ∀ v, f q = some v → v.s ≤ B) → (Rk.brk f L l).1 ≤ l.length * B
  | [], _ => Nat.zero_le _
  | q :: r, h => by
    have ih := brk_cost (L := L) r fun q hq => h q (List.mem_cons_of_mem _ hq)
    unfold Rk.brk
    cases hf : f q with
    | none => exact Nat.zero_le _
    | some v =>
      have h1 := h q (List.mem_cons_self ..) v hf
      dsimp only
      by_cases hd : L < v.d
      · rw [if_pos hd]; exact Nat.zero_le _
      · rw [if_neg hd, List.length_cons, Nat.succ_mul]
        dsimp only
        omega
end
/-! ### outcomes at a limit -/
abbrev Rw := Nat × List Pr
def tooDeep : Str := "too deep"
/-- the word and the steps at a limit, from a row on -/
inductive At (c : Ctn) (w : Str) (rows : List Rw) (loop : Option Nat) : Nat → Nat → Str × Nat → Prop
  | done {spot room : Nat} (h : rows.length ≤ spot) : At c w rows loop spot room (w, 0)
  | deep {spot room e : Nat} {ps : List Pr} (h : rows[spot]? = some (e, ps)) (he : room < e) : At c w rows loop spot room (tooDeep, 0)
  | stop {spot room e a : Nat} {ps : List Pr} {q : Pr} (h : rows[spot]? = some (e, ps)) (he : e ≤ room) (hb : brk (Vc c) (room - e) ps = (a, some q)) :
      At c w rows loop spot room (tooDeep, e + a + T c (room - e) q)
  | go {spot room e a : Nat} {ps : List Pr} {r : Str × Nat} (h : rows[spot]? = some (e, ps)) (he : e ≤ room) (hb : brk (Vc c) (room - e) ps = (a, none))
      (hr : At c w rows loop (if spot + 1 = rows.length ∧ loop.isSome = true then loop.getD 0 else spot + 1) (room - e) r) : At c w rows loop spot room (r.1, e + a + r.2)
theorem At.det {c : Ctn} {w : Str} {rows : List Rw} {loop : Option Nat} {spot room : Nat} {x y : Str × Nat} (h : At c w rows loop spot room x) (k : At c w rows loop spot room y) : x = y := by
  induction h generalizing y with
  | done h =>
    cases k with
    | done => rfl
    | deep h2 => rw [List.getElem?_eq_none h] at h2; cases h2
    | stop h2 => rw [List.getElem?_eq_none h] at h2; cases h2
    | go h2 => rw [List.getElem?_eq_none h] at h2; cases h2
  | deep h he =>
    cases k with
    | done h2 => rw [List.getElem?_eq_none h2] at h; cases h
    | deep h2 => rfl
    | stop h2 he2 => rw [h] at h2; cases h2; omega
    | go h2 he2 => rw [h] at h2; cases h2; omega
  | stop h he hb =>
    cases k with
    | done h2 => rw [List.getElem?_eq_none h2] at h; cases h
    | deep h2 he2 => rw [h] at h2; cases h2; omega
    | stop h2 he2 hb2 => rw [h] at h2; cases h2; rw [hb] at hb2; cases hb2; rfl
    | go h2 he2 hb2 => rw [h] at h2; cases h2; rw [hb] at hb2; cases hb2
  | go h he hb hr ih =>
    cases k with
    | done h2 => rw [List.getElem?_eq_none h2] at h; cases h
    | deep h2 he2 => rw [h] at h2; cases h2; omega
    | stop h2 he2 hb2 => rw [h] at h2; cases h2; rw [hb] at hb2; cases hb2
    | go h2 he2 hb2 hr2 => rw [h] at h2; cases h2; rw [hb] at hb2; cases hb2; rw [ih hr2]
/-- a row ahead -/
theorem At.shift {c : Ctn} {w : Str} {rows : List Rw} {loop : Option Nat} {z : Rw} {spot room : Nat} {x : Str × Nat} (h : At c w rows loop spot room x) : At c w (z :: rows) (loop.map (· + 1)) (spot + 1) room x := by
  have up : ∀ {i : Nat} {e : Rw}, rows[i]? = some e → (z :: rows)[i + 1]? = some e := fun h => by rw [List.getElem?_cons_succ]; exact h
  induction h with
  | done h => exact .done (by rw [List.length_cons]; omega)
  | deep h he => exact .deep (up h) he
  | stop h he hb => exact .stop (up h) he hb
  | @go spot room e a ps r h he hb hr ih =>
    refine .go (up h) he hb ?_
    cases loop with
    | none =>
      simp only [Option.isSome_none, Bool.false_eq_true, and_false, if_false, Option.map_none] at ih ⊢
      exact ih
    | some l =>
      simp only [Option.isSome_some, and_true, Option.map_some, Option.getD_some, List.length_cons] at ih ⊢
      by_cases hs : spot + 1 = rows.length
      · rw [if_pos hs] at ih
        rw [if_pos (by omega)]
        exact ih
      · rw [if_neg hs] at ih
        rw [if_neg (by omega)]
        exact ih
/-! ### measuring -/
noncomputable def sumS (c : Ctn) (ps : List Pr) : Nat := (ps.map fun q => ((Vc c q).map (·.s)).getD 0).sum
noncomputable def maxD (c : Ctn) (ps : List Pr) : Nat := (ps.map fun q => ((Vc c q).map (·.d)).getD 0).foldr max 0
noncomputable def meS (c : Ctn) : List Rw → Nat
  | [] => 0
  | (e, ps) :: r => e + sumS c ps + meS c r
noncomputable def meD (c : Ctn) : Nat → List Rw → Nat
  | _, [] => 0
  | o, (e, ps) :: r => max (o + e + maxD c ps) (meD c (o + e) r)
/-- all pairs are finite -/
def AllFin (c : Ctn) (rows : List Rw) : Prop := ∀ e ps, (e, ps) ∈ rows → ∀ q ∈ ps, ∃ v, Vc c q = some v
theorem brk_fits {c : Ctn} {L : Nat} : ∀ (ps : List Pr), (∀ q ∈ ps, ∃ v, Vc c q = some v) → maxD c ps ≤ L → brk (Vc c) L ps = (sumS c ps, none)
  | [], _, _ => rfl
  | q :: r, hf, hd => by
    obtain ⟨v, hv⟩ := hf q (List.mem_cons_self ..)
    have e1 : maxD c (q :: r) = max v.d (maxD c r) := by
      unfold maxD
      rw [List.map_cons, List.foldr_cons, hv]
      rfl
    have e2 : sumS c (q :: r) = v.s + sumS c r := by
      unfold sumS
      rw [List.map_cons, List.sum_cons, hv]
      rfl
    rw [e1] at hd
    have ih := brk_fits (L := L) r (fun q hq => hf q (List.mem_cons_of_mem _ hq)) (by omega)
    unfold brk
    simp only [hv, ih, e2]
    rw [if_neg (by omega)]
theorem At.fits {c : Ctn} {w : Str} {rows : List Rw} (hf : AllFin c rows) : ∀ (tl : List Rw) (spot o room : Nat), rows.drop spot = tl → meD c o tl ≤ o + room → At c w rows none spot room (w, meS c tl)
  | [], spot, o, room, hd, _ => by
    refine .done ?_
    have h := congrArg List.length hd
    rw [List.length_drop] at h
    simp only [List.length_nil] at h
    omega
  | (e, ps) :: r, spot, o, room, hd, hm => by
    have hx : rows[spot]? = some (e, ps) := by
      have h := congrArg (fun l => l[0]?) hd
      simp only [List.getElem?_drop, Nat.add_zero, List.getElem?_cons_zero] at h
      exact h
    have hd2 : rows.drop (spot + 1) = r := by
      rw [drop_at hx] at hd
      exact (List.cons.inj hd).2
    unfold meD at hm
    have hm1 : o + e + maxD c ps ≤ o + room := Nat.le_trans (Nat.le_max_left ..) hm
    have hm2 : meD c (o + e) r ≤ o + room := Nat.le_trans (Nat.le_max_right ..) hm
    have ih := At.fits (w := w) hf r (spot + 1) (o + e) (room - e) hd2 (by omega)
    have hmem : (e, ps) ∈ rows := List.mem_of_getElem? hx
    have hb := brk_fits (c := c) (L := room - e) ps (hf e ps hmem) (by omega)
    have h := At.go (c := c) (w := w) (rows := rows) (loop := none) (room := room) hx (by omega) hb (r := (w, meS c r)) (by
      simp only [Option.isSome_none, Bool.false_eq_true, and_false, if_false]
      exact ih)
    exact h
/-- one round of the loop: all pairs fit -/
theorem At.round {c : Ctn} {w : Str} {rows : List Rw} {l D : Nat} (hl : l < rows.length) (h1 : ∀ e ps, (e, ps) ∈ rows → e = 1) (hf : ∀ e ps, (e, ps) ∈ rows.drop l → ∀ q ∈ ps, ∃ v, Vc c q = some v ∧ v.d ≤ D) :
    ∀ (tl : List Rw) (spot room : Nat) (x : Str × Nat), l ≤ spot → spot < rows.length → rows.drop spot = tl → D + tl.length ≤ room → At c w rows (some l) l (room - tl.length) x →
      At c w rows (some l) spot room (x.1, meS c tl + x.2)
  | [], spot, room, x, _, hs, hd, _, _ => by
    have h := congrArg List.length hd
    rw [List.length_drop] at h
    simp only [List.length_nil] at h
    omega
  | (e, ps) :: r, spot, room, x, hls, hs, hd, hr, hx => by
    have hxx : rows[spot]? = some (e, ps) := by
      have h := congrArg (fun l => l[0]?) hd
      simp only [List.getElem?_drop, Nat.add_zero, List.getElem?_cons_zero] at h
      exact h
    have hd2 : rows.drop (spot + 1) = r := by
      rw [drop_at hxx] at hd
      exact (List.cons.inj hd).2
    have hmem : (e, ps) ∈ rows := List.mem_of_getElem? hxx
    have he := h1 e ps hmem
    subst he
    rw [List.length_cons] at hr hx
    have hmem2 : (1, ps) ∈ rows.drop l := by
      rw [List.mem_iff_getElem?]
      refine ⟨spot - l, ?_⟩
      rw [List.getElem?_drop]
      have : l + (spot - l) = spot := by omega
      rw [this]
      exact hxx
    have hmx : ∀ (ps : List Pr), (∀ q ∈ ps, ∃ v, Vc c q = some v ∧ v.d ≤ D) → maxD c ps ≤ D := by
      intro ps
      induction ps with
      | nil => intro _; exact Nat.zero_le _
      | cons q r ih =>
        intro h
        obtain ⟨v, hv, hd⟩ := h q (List.mem_cons_self ..)
        have ih := ih fun q hq => h q (List.mem_cons_of_mem _ hq)
        unfold maxD at ih ⊢
        rw [List.map_cons, List.foldr_cons, hv]
        exact Nat.max_le.mpr ⟨hd, ih⟩
    have hb := brk_fits (c := c) (L := room - 1) ps (fun q hq => (hf 1 ps hmem2 q hq).imp fun v h => h.1) (Nat.le_trans (hmx ps (hf 1 ps hmem2)) (by omega))
    have hlen : rows.length - (spot + 1) = r.length := by rw [← List.length_drop, hd2]
    have goal : At c w rows (some l) (if spot + 1 = rows.length ∧ (some l).isSome = true then (some l).getD 0 else spot + 1) (room - 1) (x.1, meS c r + x.2) := by
      simp only [Option.isSome_some, and_true, Option.getD_some]
      by_cases hs2 : spot + 1 = rows.length
      · rw [if_pos hs2]
        have : r = [] := by
          rw [← List.length_eq_zero_iff]
          omega
        subst this
        simp only [List.length_nil, Nat.zero_add] at hx
        show At c w rows (some l) l (room - 1) (x.1, 0 + x.2)
        rw [Nat.zero_add]
        exact hx
      · rw [if_neg hs2]
        refine At.round hl h1 hf r (spot + 1) (room - 1) x (by omega) (by omega) hd2 (by omega) ?_
        have : room - 1 - r.length = room - (r.length + 1) := by omega
        rw [this]
        exact hx
    have h := At.go hxx (by omega) hb goal
    have e3 : 1 + sumS c ps + (meS c r + x.2) = meS c ((1, ps) :: r) + x.2 := by
      show _ = 1 + sumS c ps + meS c r + x.2
      omega
    rw [← e3]
    exact h
theorem At.rounds {c : Ctn} {w : Str} {rows : List Rw} {l D : Nat} (hl : l < rows.length) (h1 : ∀ e ps, (e, ps) ∈ rows → e = 1) (hf : ∀ e ps, (e, ps) ∈ rows.drop l → ∀ q ∈ ps, ∃ v, Vc c q = some v ∧ v.d ≤ D)
    {x : Str × Nat} : ∀ (j room : Nat), D + j * (rows.drop l).length ≤ room → At c w rows (some l) l (room - j * (rows.drop l).length) x → At c w rows (some l) l room (x.1, j * meS c (rows.drop l) + x.2)
  | 0, room, _, h => by
    rw [Nat.zero_mul, Nat.sub_zero] at h
    rw [Nat.zero_mul, Nat.zero_add]
    exact h
  | j + 1, room, hr, h => by
    rw [Nat.succ_mul] at hr h
    have ih := At.rounds hl h1 hf j (room - (rows.drop l).length) (x := x) (by omega) (by
      have : room - (rows.drop l).length - j * (rows.drop l).length = room - (j * (rows.drop l).length + (rows.drop l).length) := by omega
      rw [this]
      exact h)
    have k := At.round hl h1 hf (rows.drop l) l room _ (Nat.le_refl _) hl rfl (by omega) ih
    rw [Nat.succ_mul]
    have : meS c (rows.drop l) + (j * meS c (rows.drop l) + x.2) = j * meS c (rows.drop l) + meS c (rows.drop l) + x.2 := by omega
    rw [← this]
    exact k
end Rk
set_option Elab.async false
set_option linter.all false
namespace Rk
open PySem
def sEnd : Str := "endless"
/-- the pairs compared until the first unlike items; none: endless, some none: no unlike items -/
def fuS (f : Pr → Option Fv) : List (It × It) → List Pr × Option (Option (It × It))
  | [] => ([], some none)
  | (a, b) :: r => match pairOf a b with
    | none => if a = b then fuS f r else ([], some (some (a, b)))
    | some q => match f q with
      | none => ([q], none)
      | some v => if v.un = true then ([q], some (some (a, b))) else (q :: (fuS f r).1, (fuS f r).2)
inductive Ch (c : Ctn) (wo : It → It → Str) (an : Nat → Nat → Str) : List Pr → Pr → Str → List Rw → Option Nat → Prop
  | again {seen : List Pr} {p : Pr} (h : p ∈ seen) : Ch c wo an seen p sEnd [] (some (seen.idxOf p))
  | endl {seen : List Pr} {p : Pr} {ps : List Pr} (h : ¬ p ∈ seen) (hf : fuS (Vc c) (zp c p) = (ps, none)) : Ch c wo an seen p sEnd [(1, ps)] none
  | lens {seen : List Pr} {p : Pr} {ps : List Pr} (h : ¬ p ∈ seen) (hf : fuS (Vc c) (zp c p) = (ps, some none)) : Ch c wo an seen p (an (rw c p.1).length (rw c p.2).length) [(1, ps)] none
  | leaf {seen : List Pr} {p : Pr} {ps : List Pr} {a b : It} (h : ¬ p ∈ seen) (hf : fuS (Vc c) (zp c p) = (ps, some (some (a, b)))) (hp : pairOf a b = none) : Ch c wo an seen p (wo a b) [(1, ps)] none
  | next {seen : List Pr} {p q : Pr} {ps : List Pr} {a b : It} {w : Str} {rows : List Rw} {l : Option Nat} (h : ¬ p ∈ seen) (hf : fuS (Vc c) (zp c p) = (ps, some (some (a, b)))) (hp : pairOf a b = some q)
      (hn : Ch c wo an (seen ++ [p]) q w rows l) : Ch c wo an seen p w ((1, ps) :: rows) l
section
variable {c : Ctn} {wo : It → It → Str} {an : Nat → Nat → Str}
theorem Ch.det {seen : List Pr} {p : Pr} {w w' : Str} {rows rows' : List Rw} {l l' : Option Nat} (h : Ch c wo an seen p w rows l) (k : Ch c wo an seen p w' rows' l') : w = w' ∧ rows = rows' ∧ l = l' := by
  induction h generalizing w' rows' l' with
  | again h =>
    cases k with
    | again => exact ⟨rfl, rfl, rfl⟩
    | endl h2 => exact (h2 h).elim
    | lens h2 => exact (h2 h).elim
    | leaf h2 => exact (h2 h).elim
    | next h2 => exact (h2 h).elim
  | endl h hf =>
    cases k with
    | again h2 => exact (h h2).elim
    | endl h2 hf2 => rw [hf] at hf2; cases hf2; exact ⟨rfl, rfl, rfl⟩
    | lens h2 hf2 => rw [hf] at hf2; cases hf2
    | leaf h2 hf2 => rw [hf] at hf2; cases hf2
    | next h2 hf2 => rw [hf] at hf2; cases hf2
  | lens h hf =>
    cases k with
    | again h2 => exact (h h2).elim
    | endl h2 hf2 => rw [hf] at hf2; cases hf2
    | lens h2 hf2 => rw [hf] at hf2; cases hf2; exact ⟨rfl, rfl, rfl⟩
    | leaf h2 hf2 => rw [hf] at hf2; cases hf2
    | next h2 hf2 => rw [hf] at hf2; cases hf2
  | leaf h hf hp =>
    cases k with
    | again h2 => exact (h h2).elim
    | endl h2 hf2 => rw [hf] at hf2; cases hf2
    | lens h2 hf2 => rw [hf] at hf2; cases hf2
    | leaf h2 hf2 => rw [hf] at hf2; cases hf2; exact ⟨rfl, rfl, rfl⟩
    | next h2 hf2 hp2 => rw [hf] at hf2; cases hf2; rw [hp] at hp2; cases hp2
  | next h hf hp hn ih =>
    cases k with
    | again h2 => exact (h h2).elim
    | endl h2 hf2 => rw [hf] at hf2; cases hf2
    | lens h2 hf2 => rw [hf] at hf2; cases hf2
    | leaf h2 hf2 hp2 => rw [hf] at hf2; cases hf2; rw [hp] at hp2; cases hp2
    | next h2 hf2 hp2 hn2 =>
      rw [hf] at hf2; cases hf2
      rw [hp] at hp2; cases hp2
      obtain ⟨e1, e2, e3⟩ := ih hn2
      exact ⟨e1, by rw [e2], e3⟩
theorem fuS_mem {f : Pr → Option Fv} {a b : It} {ps : List Pr} : ∀ (l : List (It × It)), fuS f l = (ps, some (some (a, b))) → (a, b) ∈ l
  | [], h => nomatch h
  | (x, y) :: r, h => by
    unfold fuS at h
    cases hp : pairOf x y with
    | none =>
      simp only [hp] at h
      by_cases hab : x = y
      · rw [if_pos hab] at h
        exact List.mem_cons_of_mem _ (fuS_mem (ps := ps) r h)
      · rw [if_neg hab] at h
        cases h
        exact List.mem_cons_self ..
    | some q =>
      simp only [hp] at h
      cases hf : f q with
      | none => simp only [hf] at h; cases h
      | some v =>
        simp only [hf] at h
        by_cases hu : v.un = true
        · rw [if_pos hu] at h
          cases h
          exact List.mem_cons_self ..
        · rw [if_neg hu] at h
          have h2 : (fuS f r).2 = some (some (a, b)) := (Prod.ext_iff.mp h).2
          exact List.mem_cons_of_mem _ (fuS_mem (ps := (fuS f r).1) r (Prod.ext rfl h2))
theorem fuS_fin {c : Ctn} : ∀ (l : List (It × It)) (x : Option (It × It)), (fuS (Vc c) l).2 = some x → ∀ q ∈ (fuS (Vc c) l).1, ∃ v, Vc c q = some v
  | [], _, _, _, h => by cases h
  | (a, b) :: r, x, h, q, hq => by
    unfold fuS at h hq
    cases hp : pairOf a b with
    | none =>
      simp only [hp] at h hq
      by_cases hab : a = b
      · rw [if_pos hab] at h hq
        exact fuS_fin r x h q hq
      · rw [if_neg hab] at hq
        cases hq
    | some p =>
      simp only [hp] at h hq
      cases hf : Vc c p with
      | none => simp only [hf] at h; cases h
      | some v =>
        simp only [hf] at h hq
        by_cases hu : v.un = true
        · rw [if_pos hu] at hq
          rcases List.mem_cons.mp hq with rfl | z
          · exact ⟨v, hf⟩
          · cases z
        · rw [if_neg hu] at h hq
          rcases List.mem_cons.mp hq with rfl | z
          · exact ⟨v, hf⟩
          · exact fuS_fin r x h q z
theorem Ch.ones {seen : List Pr} {p : Pr} {w : Str} {rows : List Rw} {l : Option Nat} (h : Ch c wo an seen p w rows l) : ∀ e ps, (e, ps) ∈ rows → e = 1 := by
  induction h with
  | again => intro _ _ h; cases h
  | endl => intro e ps h; rcases List.mem_cons.mp h with h | h; exact (Prod.ext_iff.mp h).1; cases h
  | lens => intro e ps h; rcases List.mem_cons.mp h with h | h; exact (Prod.ext_iff.mp h).1; cases h
  | leaf => intro e ps h; rcases List.mem_cons.mp h with h | h; exact (Prod.ext_iff.mp h).1; cases h
  | next _ _ _ _ ih => intro e ps h; rcases List.mem_cons.mp h with h | h; exact (Prod.ext_iff.mp h).1; exact ih e ps h
theorem Ch.lt {seen : List Pr} {p : Pr} {w : Str} {rows : List Rw} {l : Option Nat} (h : Ch c wo an seen p w rows l) : ∀ i, l = some i → i < seen.length + rows.length := by
  induction h with
  | again h => intro i hi; cases hi; exact List.idxOf_lt_length_of_mem h
  | endl => intro i hi; cases hi
  | lens => intro i hi; cases hi
  | leaf => intro i hi; cases hi
  | next _ _ _ _ ih =>
    intro i hi
    have := ih i hi
    rw [List.length_append, List.length_singleton] at this
    rw [List.length_cons]
    omega
theorem Ch.fin {seen : List Pr} {p : Pr} {w : Str} {rows : List Rw} {l : Option Nat} (h : Ch c wo an seen p w rows l) : (¬ w = sEnd ∨ ¬ l = none) → AllFin c rows := by
  have one : ∀ {p : Pr} {ps : List Pr} {x : Option (It × It)} {e : Nat} {ps' : List Pr}, fuS (Vc c) (zp c p) = (ps, some x) → (e, ps') = (1, ps) → ∀ q ∈ ps', ∃ v, Vc c q = some v := by
    intro p ps x e ps' hf h2 q hq
    cases h2
    have h3 := fuS_fin (c := c) (zp c p) x (by rw [hf]) q
    rw [hf] at h3
    exact h3 hq
  induction h with
  | again => intro _ e ps h; cases h
  | endl => intro h; exact (h.elim (fun z => z rfl) (fun z => z rfl)).elim
  | lens _ hf => intro _ e ps h; rcases List.mem_cons.mp h with h | h; exact one hf h; cases h
  | leaf _ hf => intro _ e ps h; rcases List.mem_cons.mp h with h | h; exact one hf h; cases h
  | next _ hf _ _ ih => intro z e ps h; rcases List.mem_cons.mp h with h | h; exact one hf h; exact ih z e ps h
theorem Ch.noloop {seen : List Pr} {p : Pr} {w : Str} {rows : List Rw} {l : Option Nat} (h : Ch c wo an seen p w rows l) (hw : ¬ w = sEnd) : l = none := by
  induction h with
  | again => exact (hw rfl).elim
  | endl => rfl
  | lens => rfl
  | leaf => rfl
  | next _ _ _ _ ih => exact ih hw
theorem Ch.ne {seen : List Pr} {p : Pr} {w : Str} {rows : List Rw} {l : Option Nat} (h : Ch c wo an seen p w rows l) (hp : ¬ p ∈ seen) : rows ≠ [] := by
  cases h with
  | again h => exact (hp h).elim
  | endl => exact List.cons_ne_nil _ _
  | lens => exact List.cons_ne_nil _ _
  | leaf => exact List.cons_ne_nil _ _
  | next => exact List.cons_ne_nil _ _
/-- a pair ahead that is not met again -/
theorem Ch.shift {S : Pr → Prop} (hS : ∀ p, S p → ∀ ps a b q, fuS (Vc c) (zp c p) = (ps, some (some (a, b))) → pairOf a b = some q → S q) {z : Pr} (hz : ¬ S z)
    {seen : List Pr} {p : Pr} {w : Str} {rows : List Rw} {l : Option Nat} (h : Ch c wo an seen p w rows l) : S p → Ch c wo an (z :: seen) p w rows (l.map (· + 1)) := by
  have out : ∀ {p : Pr} {seen : List Pr}, S p → ¬ p ∈ seen → ¬ p ∈ z :: seen := by
    intro p seen hp h k
    rcases List.mem_cons.mp k with rfl | k
    · exact hz hp
    · exact h k
  induction h with
  | @again seen p h =>
    intro hp
    have hne : (z == p) = false := by
      rw [beq_eq_false_iff_ne]
      rintro rfl
      exact hz hp
    have e : (z :: seen).idxOf p = seen.idxOf p + 1 := by
      rw [List.idxOf_cons, hne]
      rfl
    have k := Ch.again (c := c) (wo := wo) (an := an) (List.mem_cons_of_mem z h)
    rw [e] at k
    exact k
  | endl h hf => intro hp; exact .endl (out hp h) hf
  | lens h hf => intro hp; exact .lens (out hp h) hf
  | leaf h hf hq => intro hp; exact .leaf (out hp h) hf hq
  | next h hf hq hn ih => intro hp; exact .next (out hp h) hf hq (ih (hS _ hp _ _ _ _ hf hq))
end
/-! ### the law's two boxes -/
def refsOf (pairs : List Pr) (t0 t1 : Int) : List (It × It) := pairs.map (fun q => (It.b q.1, It.b q.2)) ++ [(.i t0, .i t1)]
def fuF (f : Pr → Option Fv) (t0 t1 : Int) : List Pr → List Pr × Option (Option (It × It))
  | [] => ([], some (if t0 = t1 then none else some (.i t0, .i t1)))
  | q :: r => match f q with
    | none => ([q], none)
    | some v => if v.un = true then ([q], some (some (.b q.1, .b q.2))) else (q :: (fuF f t0 t1 r).1, (fuF f t0 t1 r).2)
def diff (pairs : List Pr) : List Pr := pairs.filter fun q => decide (q.1 ≠ q.2)
theorem fuS_law (f : Pr → Option Fv) (t0 t1 : Int) : ∀ pairs : List Pr, fuS f (refsOf pairs t0 t1) = fuF f t0 t1 (diff pairs)
  | [] => by
    show fuS f [(.i t0, .i t1)] = _
    unfold fuS
    show (if (It.i t0) = .i t1 then fuS f [] else ([], some (some (.i t0, .i t1)))) = ([], some (if t0 = t1 then none else some (.i t0, .i t1)))
    by_cases h : t0 = t1
    · rw [if_pos h, if_pos (by rw [h])]
      rfl
    · rw [if_neg h, if_neg (by intro e; cases e; exact h rfl)]
  | (x, y) :: r => by
    have ih := fuS_law f t0 t1 r
    show fuS f ((.b x, .b y) :: refsOf r t0 t1) = _
    unfold fuS diff
    by_cases h : x = y
    · subst h
      rw [List.filter_cons_of_neg (by simp)]
      simp only [pairOf, if_true]
      exact ih
    · rw [List.filter_cons_of_pos (by simpa using h)]
      simp only [pairOf, if_neg h]
      show (match f (x, y) with | none => _ | some v => _) = fuF f t0 t1 ((x, y) :: diff r)
      unfold fuF
      rw [ih]
/-- up to the i-th pair all are equal -/
def EqTo (c : Ctn) (F : List Pr) (i : Nat) : Prop := ∀ j q, j < i → F[j]? = some q → ∃ v, Vc c q = some v ∧ ¬ v.un = true
theorem EqTo.cons {c : Ctn} {q : Pr} {r : List Pr} {i : Nat} (h : EqTo c (q :: r) (i + 1)) : (∃ v, Vc c q = some v ∧ ¬ v.un = true) ∧ EqTo c r i :=
  ⟨h 0 q (Nat.succ_pos _) rfl, fun j p hj hp => h (j + 1) p (by omega) (by rw [List.getElem?_cons_succ]; exact hp)⟩
theorem fuF_end {c : Ctn} {t0 t1 : Int} {q : Pr} : ∀ {F : List Pr} {i : Nat}, F[i]? = some q → EqTo c F i → Vc c q = none → fuF (Vc c) t0 t1 F = (F.take (i + 1), none)
  | [], _, h, _, _ => by simp at h
  | p :: r, 0, h, _, hv => by
    have : p = q := Option.some.inj h
    subst this
    unfold fuF
    rw [hv]
    rfl
  | p :: r, i + 1, h, he, hv => by
    obtain ⟨⟨v, hp, hu⟩, he⟩ := he.cons
    rw [List.getElem?_cons_succ] at h
    have ih := fuF_end (t0 := t0) (t1 := t1) h he hv
    unfold fuF
    simp only [hp, if_neg hu, ih]
    rfl
theorem fuF_unl {c : Ctn} {t0 t1 : Int} {q : Pr} {v : Fv} : ∀ {F : List Pr} {i : Nat}, F[i]? = some q → EqTo c F i → Vc c q = some v → v.un = true → fuF (Vc c) t0 t1 F = (F.take (i + 1), some (some (.b q.1, .b q.2)))
  | [], _, h, _, _, _ => by simp at h
  | p :: r, 0, h, _, hv, hu => by
    have : p = q := Option.some.inj h
    subst this
    unfold fuF
    simp only [hv, if_pos hu]
    rfl
  | p :: r, i + 1, h, he, hv, hu => by
    obtain ⟨⟨v, hp, hu'⟩, he⟩ := he.cons
    rw [List.getElem?_cons_succ] at h
    have ih := fuF_unl (t0 := t0) (t1 := t1) h he hv hu
    unfold fuF
    simp only [hp, if_neg hu', ih]
    rfl
theorem fuF_all {c : Ctn} {t0 t1 : Int} : ∀ {F : List Pr}, EqTo c F F.length → fuF (Vc c) t0 t1 F = (F, some (if t0 = t1 then none else some (.i t0, .i t1)))
  | [], _ => rfl
  | p :: r, he => by
    obtain ⟨⟨v, hp, hu⟩, he⟩ := he.cons
    have ih := fuF_all (t0 := t0) (t1 := t1) he
    unfold fuF
    simp only [hp, if_neg hu, ih]
theorem sumS_snoc {c : Ctn} {ps : List Pr} {q : Pr} {v : Fv} (h : Vc c q = some v) : sumS c (ps ++ [q]) = sumS c ps + v.s := by
  unfold sumS
  rw [List.map_append, List.sum_append, List.map_singleton, h]
  simp
theorem maxD_snoc {c : Ctn} {q : Pr} {v : Fv} (h : Vc c q = some v) : ∀ ps : List Pr, maxD c (ps ++ [q]) = max (maxD c ps) v.d
  | [] => by
    unfold maxD
    rw [List.nil_append, List.map_singleton, h]
    show max v.d 0 = max 0 v.d
    omega
  | p :: r => by
    have ih := maxD_snoc h r
    unfold maxD at ih ⊢
    rw [List.cons_append, List.map_cons, List.foldr_cons, ih, List.map_cons, List.foldr_cons]
    omega
theorem take_snoc {α : Type} {l : List α} {i : Nat} {x : α} (h : l[i]? = some x) : l.take (i + 1) = l.take i ++ [x] := by
  rw [List.take_add_one, h]
  rfl
theorem meD_succ {c : Ctn} : ∀ (rows : List Rw) (o : Nat), rows ≠ [] → meD c (o + 1) rows = meD c o rows + 1
  | [], _, h => (h rfl).elim
  | (e, ps) :: r, o, _ => by
    unfold meD
    cases r with
    | nil =>
      show max (o + 1 + e + maxD c ps) 0 = max (o + e + maxD c ps) 0 + 1
      omega
    | cons z r =>
      have ih := meD_succ (c := c) (z :: r) (o + e) (List.cons_ne_nil _ _)
      have e1 : o + 1 + e = o + e + 1 := by omega
      rw [e1, ih]
      omega
theorem brk_cons {f : Pr → Option Fv} {L : Nat} {q : Pr} {r : List Pr} : brk f L (q :: r) = match f q with
    | none => (0, some q)
    | some v => if L < v.d then (0, some q) else (v.s + (brk f L r).1, (brk f L r).2) := rfl
theorem brk_pre {c : Ctn} {L : Nat} : ∀ (ps : List Pr) (qs : List Pr), (∀ q ∈ ps, ∃ v, Vc c q = some v) → maxD c ps ≤ L → brk (Vc c) L (ps ++ qs) = (sumS c ps + (brk (Vc c) L qs).1, (brk (Vc c) L qs).2)
  | [], qs, _, _ => by
    show brk (Vc c) L qs = (0 + (brk (Vc c) L qs).1, (brk (Vc c) L qs).2)
    rw [Nat.zero_add]
  | q :: r, qs, hf, hd => by
    obtain ⟨v, hv⟩ := hf q (List.mem_cons_self ..)
    have e1 : maxD c (q :: r) = max v.d (maxD c r) := by
      unfold maxD
      rw [List.map_cons, List.foldr_cons, hv]
      rfl
    have e2 : sumS c (q :: r) = v.s + sumS c r := by
      unfold sumS
      rw [List.map_cons, List.sum_cons, hv]
      rfl
    rw [e1] at hd
    have ih := brk_pre (L := L) r qs (fun q hq => hf q (List.mem_cons_of_mem _ hq)) (by omega)
    rw [List.cons_append, brk_cons]
    simp only [hv, ih, e2]
    rw [if_neg (by omega)]
    refine Prod.ext ?_ rfl
    show v.s + (sumS c r + _) = v.s + sumS c r + _
    omega
/-- a compared pair at a limit -/
theorem At.one_deep {c : Ctn} {w : Str} {q : Pr} {L : Nat} {x : Str × Nat} (h : At c w [(0, [q])] none 0 L x) (hq : ∀ v, Vc c q = some v → L < v.d) : x = (tooDeep, T c L q) := by
  have hb : brk (Vc c) (L - 0) [q] = (0, some q) := by
    rw [Nat.sub_zero]
    unfold brk
    cases e : Vc c q with
    | none => rfl
    | some v => simp only [if_pos (hq v e)]
  have k := At.stop (c := c) (w := w) (loop := none) (room := L) (spot := 0) (rows := [(0, [q])]) rfl (Nat.zero_le _) hb
  have e := h.det k
  rw [e]
  simp
theorem At.one_fits {c : Ctn} {w : Str} {q : Pr} {L : Nat} {x : Str × Nat} {v : Fv} (h : At c w [(0, [q])] none 0 L x) (hq : Vc c q = some v) (hd : v.d ≤ L) : x = (w, v.s) := by
  have hb : brk (Vc c) (L - 0) [q] = (v.s, none) := by
    rw [Nat.sub_zero]
    unfold brk
    simp only [hq]
    rw [if_neg (by omega)]
    rfl
  have k := At.go (c := c) (w := w) (loop := none) (room := L) (spot := 0) (rows := [(0, [q])]) rfl (Nat.zero_le _) hb (r := (w, 0)) (.done (by simp))
  have e := h.det k
  rw [e]
  simp
section
variable {c : Ctn} {wo : It → It → Str} {an : Nat → Nat → Str} {p0 : Pr} {pairs : List Pr} {t0 t1 : Int}
/-- the boxes below m refer to boxes below m alone -/
def Low (c : Ctn) (m : Nat) : Prop := ∀ x, x < m → ∀ it ∈ rw c x, ∀ n, it = .b n → n < m
theorem Low.next {m : Nat} (h : Low c m) : ∀ p : Pr, (p.1 < m ∧ p.2 < m) → ∀ ps a b q, fuS (Vc c) (zp c p) = (ps, some (some (a, b))) → pairOf a b = some q → q.1 < m ∧ q.2 < m := by
  intro p hp ps a b q hf hq
  obtain ⟨e1, e2, _⟩ := pairOf_some hq
  have := List.of_mem_zip (fuS_mem _ hf)
  exact ⟨h _ hp.1 _ this.1 _ e1, h _ hp.2 _ this.2 _ e2⟩
theorem law_unl {m i : Nat} {q : Pr} {v : Fv} (hl : Low c m) (hz : zp c p0 = refsOf pairs t0 t1) (h0 : ¬ (p0.1 < m ∧ p0.2 < m)) (hi : (diff pairs)[i]? = some q) (he : EqTo c (diff pairs) i) (hv : Vc c q = some v) (hu : v.un = true)
    (hq : q.1 < m ∧ q.2 < m) {w : Str} {rows : List Rw} {l : Option Nat} (h : Ch c wo an [] q w rows l) : Ch c wo an [] p0 w ((1, (diff pairs).take (i + 1)) :: rows) (l.map (· + 1)) := by
  have hf : fuS (Vc c) (zp c p0) = ((diff pairs).take (i + 1), some (some (.b q.1, .b q.2))) := by rw [hz, fuS_law, fuF_unl hi he hv hu]
  have hne : q.1 ≠ q.2 := by
    have := List.mem_of_getElem? hi
    simpa using (List.mem_filter.mp this).2
  refine Ch.next (q := q) (by simp) hf (by simp [pairOf, hne]) ?_
  exact h.shift (S := fun p => p.1 < m ∧ p.2 < m) hl.next (z := p0) h0 hq
theorem law_end {i : Nat} {q : Pr} (hz : zp c p0 = refsOf pairs t0 t1) (hi : (diff pairs)[i]? = some q) (he : EqTo c (diff pairs) i) (hv : Vc c q = none) : Ch c wo an [] p0 sEnd [(1, (diff pairs).take (i + 1))] none :=
  .endl (by simp) (by rw [hz, fuS_law, fuF_end hi he hv])
/-- the word of the leaves -/
def tailW (wo : It → It → Str) (an : Nat → Nat → Str) (t0 t1 : Int) (n : Nat) : Str := if t0 = t1 then an n n else wo (.i t0) (.i t1)
theorem law_all {n : Nat} (hz : zp c p0 = refsOf pairs t0 t1) (h1 : (rw c p0.1).length = n) (h2 : (rw c p0.2).length = n) (he : EqTo c (diff pairs) (diff pairs).length) : Ch c wo an [] p0 (tailW wo an t0 t1 n) [(1, diff pairs)] none := by
  have hf : fuS (Vc c) (zp c p0) = (diff pairs, some (if t0 = t1 then none else some (.i t0, .i t1))) := by rw [hz, fuS_law, fuF_all he]
  unfold tailW
  by_cases h : t0 = t1
  · rw [if_pos h] at hf ⊢
    have k := Ch.lens (c := c) (wo := wo) (an := an) (seen := []) (by simp) hf
    rw [h1, h2] at k
    exact k
  · rw [if_neg h] at hf ⊢
    exact .leaf (by simp) hf rfl
theorem at_stop {F : List Pr} {i room : Nat} {q : Pr} {w : Str} {rows : List Rw} {l : Option Nat} (hi : F[i]? = some q) (he : EqTo c F i) (hd : maxD c (F.take i) ≤ room - 1) (hr : 1 ≤ room) (hq : ∀ v, Vc c q = some v → room - 1 < v.d) :
    At c w ((1, F.take (i + 1)) :: rows) l 0 room (tooDeep, 1 + sumS c (F.take i) + T c (room - 1) q) := by
  have hb : brk (Vc c) (room - 1) (F.take (i + 1)) = (sumS c (F.take i), some q) := by
    rw [take_snoc hi, brk_pre (F.take i) [q] (fun p hp => ?_) hd]
    · have : brk (Vc c) (room - 1) [q] = (0, some q) := by
        unfold brk
        cases e : Vc c q with
        | none => rfl
        | some v => simp only [if_pos (hq v e)]
      rw [this]
      rfl
    · obtain ⟨j, hj⟩ := List.mem_iff_getElem?.mp hp
      rw [List.getElem?_take] at hj
      split at hj
      · rename_i hji
        exact (he j p hji hj).imp fun v h => h.1
      · cases hj
  exact At.stop (by rfl) hr hb
theorem at_go {F : List Pr} {i room : Nat} {q : Pr} {v : Fv} {w : Str} {rows : List Rw} {l : Option Nat} (hi : F[i]? = some q) (he : EqTo c F i) (hd : maxD c (F.take i) ≤ room - 1) (hr : 1 ≤ room) (hv : Vc c q = some v) (hq : v.d ≤ room - 1) (hne : rows ≠ [])
    {x : Str × Nat} (hx : At c w rows l 0 (room - 1) x) : At c w ((1, F.take (i + 1)) :: rows) (l.map (· + 1)) 0 room (x.1, 1 + (sumS c (F.take i) + v.s) + x.2) := by
  have hb : brk (Vc c) (room - 1) (F.take (i + 1)) = (sumS c (F.take i) + v.s, none) := by
    rw [take_snoc hi, brk_pre (F.take i) [q] (fun p hp => ?_) hd]
    · have : brk (Vc c) (room - 1) [q] = (v.s, none) := by
        unfold brk
        simp only [hv]
        rw [if_neg (by omega)]
        rfl
      rw [this]
    · obtain ⟨j, hj⟩ := List.mem_iff_getElem?.mp hp
      rw [List.getElem?_take] at hj
      split at hj
      · rename_i hji
        exact (he j p hji hj).imp fun v h => h.1
      · cases hj
  refine At.go (by rfl) hr hb ?_
  have : ¬ (0 + 1 = ((1, F.take (i + 1)) :: rows).length) := by
    rw [List.length_cons]
    have : rows.length ≠ 0 := fun z => hne (List.length_eq_zero_iff.mp z)
    omega
  rw [if_neg (fun z => this z.1)]
  exact hx.shift
theorem at_all {F : List Pr} {room : Nat} {w : Str} (he : EqTo c F F.length) (hd : maxD c F ≤ room - 1) (hr : 1 ≤ room) : At c w [(1, F)] none 0 room (w, 1 + sumS c F) := by
  have hb := brk_fits (c := c) (L := room - 1) F (fun p hp => ?_) hd
  · have h := At.go (c := c) (w := w) (loop := none) (spot := 0) (rows := [(1, F)]) (room := room) rfl hr hb (r := (w, 0)) (.done (by simp))
    exact h
  · obtain ⟨j, hj, e⟩ := List.mem_iff_getElem.mp hp
    exact (he j p hj (by rw [List.getElem?_eq_getElem hj, e])).imp fun v h => h.1
end
end Rk
set_option Elab.async false
set_option linter.all false
namespace Rk
open PySem
theorem scan_pl {f : Pr → Option Fv} : ∀ (l : List (It × It)) (pl s d : Nat), (pl : Int) ≤ (scan f l pl s d).pl ∧ (scan f l pl s d).pl ≤ pl + l.length
  | [], pl, s, d => ⟨Int.le_refl _, by simp [scan]⟩
  | (a, b) :: r, pl, s, d => by
    unfold scan
    have h1 := scan_pl (f := f) r (pl + 1)
    cases hp : pairOf a b with
    | none =>
      simp only
      split
      · have := h1 s d
        simp only [List.length_cons]
        omega
      · simp only [List.length_cons]
        omega
    | some q =>
      simp only
      split
      · simp only [List.length_cons]
        omega
      · split
        · simp only [List.length_cons]
          omega
        · rename_i v _ _
          have := h1 (s + v.s) (max d (v.d + 1))
          simp only [List.length_cons]
          omega
theorem kids_take {f : Pr → Option Fv} : ∀ (l : List (It × It)) (pl s d : Nat), kids f l = (l.take ((scan f l pl s d).pl + 1 - pl).toNat).filterMap fun x => pairOf x.1 x.2
  | [], _, _, _ => by simp [kids]
  | (a, b) :: r, pl, s, d => by
    unfold scan kids
    have tk : ∀ v : Vd, (pl : Int) + 1 ≤ v.pl → (v.pl + 1 - pl).toNat = (v.pl + 1 - (pl + 1 : Nat)).toNat + 1 := fun v h => by omega
    cases hp : pairOf a b with
    | none =>
      simp only
      by_cases e : a = b
      · rw [if_pos e, if_pos e, kids_take r (pl + 1) s d, tk _ (by have := (scan_pl (f := f) r (pl + 1) s d).1; omega), List.take_succ_cons, List.filterMap_cons]
        simp only [hp]
      · rw [if_neg e, if_neg e]
        have z : ((pl : Int) + 1 - pl).toNat = 1 := by omega
        simp [z, hp]
    | some q =>
      simp only
      cases hf : f q with
      | none =>
        have z : ((pl : Int) + 1 - pl).toNat = 1 := by omega
        simp [z, hp]
      | some u =>
        simp only
        by_cases hu : u.un = true
        · rw [if_pos hu, if_pos hu]
          have z : ((pl : Int) + 1 - pl).toNat = 1 := by omega
          simp [z, hp]
        · rw [if_neg hu, if_neg hu, kids_take r (pl + 1) (s + u.s) (max d (u.d + 1)), tk _ (by have := (scan_pl (f := f) r (pl + 1) (s + u.s) (max d (u.d + 1))).1; omega), List.take_succ_cons, List.filterMap_cons]
          simp only [hp]
theorem kidsOf_take (c : Ctn) (p : Pr) : kidsOf c p = ((zp c p).take ((VV c p).pl + 1).toNat).filterMap fun x => pairOf x.1 x.2 := by
  unfold kidsOf
  by_cases hl : (rw c p.1).length = (rw c p.2).length
  · rw [if_pos hl]
    have z := kids_take (f := Vc c) (zp c p) 0 0 0
    have e : (VV c p).pl = (scan (Vc c) (zp c p) 0 1 1).pl := by unfold VV step; rw [if_pos hl]
    rw [e]
    have z := kids_take (f := Vc c) (zp c p) 0 1 1
    simpa using z
  · rw [if_neg hl, (lens_ne hl).1]
    rfl
theorem VV_pl (c : Ctn) (p : Pr) : -1 ≤ (VV c p).pl := by
  by_cases hl : (rw c p.1).length = (rw c p.2).length
  · unfold VV step
    rw [if_pos hl]
    have := (scan_pl (f := Vc c) (zp c p) 0 1 1).1
    omega
  · rw [(lens_ne hl).1]
    decide
end Rk
set_option Elab.async false
set_option linter.all false
namespace Rk
open PySem
/-- a verdict's depth is at least 1 -/
theorem scan_d1 {f : Pr → Option Fv} : ∀ (l : List (It × It)) (pl s d : Nat) (v : Fv), 1 ≤ d → (scan f l pl s d).fin = some v → 1 ≤ v.d
  | [], _, _, _, _, h, e => by
    cases e
    exact h
  | (a, b) :: r, pl, s, d, v, h, e => by
    unfold scan at e
    cases hp : pairOf a b with
    | none =>
      simp only [hp] at e
      by_cases hab : a = b
      · rw [if_pos hab] at e
        exact scan_d1 r _ _ _ v h e
      · rw [if_neg hab] at e
        cases e
        exact h
    | some q =>
      simp only [hp] at e
      cases hf : f q with
      | none => simp only [hf] at e; cases e
      | some u =>
        simp only [hf] at e
        have h2 : 1 ≤ max d (u.d + 1) := Nat.le_trans h (Nat.le_max_left _ _)
        by_cases hu : u.un = true
        · rw [if_pos hu] at e
          cases e
          exact h2
        · rw [if_neg hu] at e
          exact scan_d1 r _ _ _ v h2 e
theorem Vc_d1 {c : Ctn} {q : Pr} {v : Fv} (h : Vc c q = some v) : 1 ≤ v.d := by
  rw [V_fix] at h
  unfold VV step at h
  by_cases hl : (rw c q.1).length = (rw c q.2).length
  · rw [if_pos hl] at h
    exact scan_d1 _ _ _ _ v (Nat.le_refl _) h
  · rw [if_neg hl] at h
    cases h
    exact Nat.le_refl _
theorem fuF_pre {c : Ctn} {t0 t1 : Int} {q : Pr} : ∀ {F : List Pr} {i : Nat}, F[i]? = some q → EqTo c F i → ∃ tl, (fuF (Vc c) t0 t1 F).1 = F.take (i + 1) ++ tl
  | [], _, h, _ => by simp at h
  | p :: r, 0, h, _ => by
    have : p = q := Option.some.inj h
    subst this
    unfold fuF
    cases hv : Vc c p with
    | none => exact ⟨[], rfl⟩
    | some v =>
      simp only
      by_cases hu : v.un = true
      · rw [if_pos hu]; exact ⟨[], rfl⟩
      · rw [if_neg hu]; exact ⟨_, rfl⟩
  | p :: r, i + 1, h, he => by
    obtain ⟨⟨v, hp, hu⟩, he⟩ := he.cons
    rw [List.getElem?_cons_succ] at h
    obtain ⟨tl, ih⟩ := fuF_pre (t0 := t0) (t1 := t1) h he
    unfold fuF
    simp only [hp, if_neg hu, ih]
    exact ⟨tl, rfl⟩
section
variable {c : Ctn} {wo : It → It → Str} {an : Nat → Nat → Str} {p0 : Pr} {pairs : List Pr} {t0 t1 : Int}
theorem Ch.row0 {w : Str} {rows : List Rw} {l : Option Nat} (h : Ch c wo an [] p0 w rows l) : ∃ rest, rows = (1, (fuS (Vc c) (zp c p0)).1) :: rest := by
  cases h with
  | again h => cases h
  | endl h hf => exact ⟨[], by rw [hf]⟩
  | lens h hf => exact ⟨[], by rw [hf]⟩
  | leaf h hf hp => exact ⟨[], by rw [hf]⟩
  | next h hf hp hn => exact ⟨_, by rw [hf]⟩
/-- the order's own course, too deep within its first row -/
theorem out_stop {i room : Nat} {q : Pr} {w : Str} {rows : List Rw} {l : Option Nat} (ch : Ch c wo an [] p0 w rows l) (hz : zp c p0 = refsOf pairs t0 t1) (hi : (diff pairs)[i]? = some q) (he : EqTo c (diff pairs) i) (hd : maxD c ((diff pairs).take i) ≤ room - 1) (hr : 1 ≤ room)
    (hq : ∀ v, Vc c q = some v → room - 1 < v.d) : At c w rows l 0 room (tooDeep, 1 + sumS c ((diff pairs).take i) + T c (room - 1) q) := by
  obtain ⟨rest, hrow⟩ := ch.row0
  rw [hz, fuS_law] at hrow
  obtain ⟨tl, ht⟩ := fuF_pre (t0 := t0) (t1 := t1) hi he
  rw [ht, take_snoc hi, List.append_assoc] at hrow
  have hb : brk (Vc c) (room - 1) ((diff pairs).take i ++ ([q] ++ tl)) = (sumS c ((diff pairs).take i), some q) := by
    rw [brk_pre ((diff pairs).take i) ([q] ++ tl) (fun p hp => ?_) hd]
    · have : brk (Vc c) (room - 1) ([q] ++ tl) = (0, some q) := by
        rw [List.singleton_append, brk_cons]
        cases e : Vc c q with
        | none => rfl
        | some v => simp only [if_pos (hq v e)]
      rw [this]
      rfl
    · obtain ⟨j, hj⟩ := List.mem_iff_getElem?.mp hp
      rw [List.getElem?_take] at hj
      split at hj
      · rename_i hji
        exact (he j p hji hj).imp fun v h => h.1
      · cases hj
  rw [hrow]
  exact At.stop (by rfl) hr hb
theorem EqTo.succ {F : List Pr} {i : Nat} {q : Pr} {v : Fv} (he : EqTo c F i) (hi : F[i]? = some q) (hv : Vc c q = some v) (hu : ¬ v.un = true) : EqTo c F (i + 1) := fun j q' hj hq => by
  rcases Nat.lt_or_ge j i with z | z
  · exact he j q' z hq
  · have : j = i := by omega
    subst this
    rw [hi] at hq
    cases hq
    exact ⟨v, hv, hu⟩
theorem fits_or (c : Ctn) (q : Pr) (L : Nat) : (∀ v, Vc c q = some v → L < v.d) ∨ ∃ v, Vc c q = some v ∧ v.d ≤ L := by
  cases e : Vc c q with
  | none => exact .inl fun v z => nomatch z
  | some v =>
    rcases Nat.lt_or_ge L v.d with z | z
    · exact .inl fun u hu => by cases hu; exact z
    · exact .inr ⟨v, rfl, z⟩
end
end Rk
set_option Elab.async false
set_option linter.all false
set_option maxRecDepth 100000
set_option maxHeartbeats 4000000
namespace Rk
open PySem PySem.Spec PyProof.Rows L2
/-! ### what is kept of the abstract heap: all but the things at S; every tuple -/
structure Kp (S : List Addr) (H H' : Hp) : Prop where
  k : ∀ b o, ¬ b ∈ S → H b = some o → H' b = some o
  t : ∀ b xs, H b = some (.tup xs) → H' b = some (.tup xs)
section
variable {S S' : List Addr} {H H1 H2 H' : Hp} {a p : Addr} {o u : HO}
theorem Kp.refl (S : List Addr) (H : Hp) : Kp S H H := ⟨fun _ _ _ e => e, fun _ _ e => e⟩
theorem Kp.trans (x : Kp S H H1) (y : Kp S H1 H2) : Kp S H H2 := ⟨fun b o n e => y.k b o n (x.k b o n e), fun b xs e => y.t b xs (x.t b xs e)⟩
theorem Kp.mono (x : Kp S H H1) (h : ∀ b ∈ S, b ∈ S') : Kp S' H H1 := ⟨fun b o n e => x.k b o (fun z => n (h b z)) e, x.t⟩
theorem Kp.of0 (x : Kp [] H H1) : Kp S H H1 := x.mono fun _ z => nomatch z
theorem Kp.new (h : H p = none) : Kp S H (upd H p o) := ⟨fun b u _ e => by rw [upd_ne (ne_of_none e h)]; exact e, fun b xs e => by rw [upd_ne (ne_of_none e h)]; exact e⟩
theorem Kp.new' (x : Kp S H H1) (h : H1 p = none) : Kp S H (upd H1 p o) := x.trans (Kp.new h)
theorem Kp.wr (hS : a ∈ S) (h : H a = some u) (hu : ∀ xs, u ≠ .tup xs) : Kp S H (upd H a o) :=
  ⟨fun b v n e => by rw [upd_ne (show b ≠ a from fun z => n (z ▸ hS))]; exact e, fun b xs e => by rw [upd_ne (show b ≠ a from fun z => hu xs (by rw [z, h] at e; exact Option.some.inj e))]; exact e⟩
theorem Kp.wr' (x : Kp S H H1) (hS : a ∈ S) (h : H1 a = some u) (hu : ∀ xs, u ≠ .tup xs) : Kp S H (upd H1 a o) := x.trans (Kp.wr hS h hu)
/-- what was not there before is free to change -/
theorem Kp.drop (x : Kp (a :: S) H H1) (h : H a = none) : Kp S H H1 := ⟨fun b o n e => x.k b o (fun z => (List.mem_cons.mp z).elim (fun z => by rw [z, h] at e; cases e) n) e, x.t⟩
theorem Kp.free (x : Kp S H H1) (n : ¬ a ∈ S) (h : H1 a = none) : H a = none := by
  cases e : H a with
  | none => rfl
  | some o => rw [x.k a o n e] at h; cases h
theorem Kp.same (x : Kp [] H H1) : Same H H1 := fun b o e => x.k b o (fun z => nomatch z) e
theorem Kp.ofSame (x : Same H H1) : Kp S H H1 := ⟨fun b o _ e => x b o e, fun b xs e => x b _ e⟩
theorem Kp.at0 (x : Kp [] H H1) (e : H a = some o) : H1 a = some o := x.k a o (fun z => nomatch z) e
theorem Kp.sqL {K : PySem.W.Frag} {xs : List V} (x : Kp S H H1) (n : ¬ a ∈ S) (h : SqL K H a xs) : SqL K H1 a xs :=
  h.elim (fun h => .inl (h.elim (fun h => .inl (x.k _ _ n h)) fun ⟨o, h⟩ => .inr ⟨o, x.k _ _ n h⟩)) fun h => .inr h
end
theorem nn {S : List Addr} {H : Hp} {a p : Addr} (h : H p = none) (hS : ∀ b ∈ S, ∃ o, H b = some o) : ¬ p ∈ S := fun z => by
  obtain ⟨o, e⟩ := hS p z
  rw [h] at e; cases e
/-! ### short words for calls -/
section
variable (P : Program) (w : World) (K : PySem.W.Frag) (mg : Str → Option Value) (base : Heap)
/-- a def of the module, as a caller takes it -/
def Fn0 (k : Nat) (x : Str) (ps : List Str) (sp : Sp) : Prop := ∃ (f : Addr) (fd : FuncData), mg x = some (.ref f) ∧ PySem.W.keepIn K (.ref f) = true ∧ Binds K fd ps [] ∧ FnOk P w K mg base CX0 k f fd ps sp
/-- a method of the class at C -/
def Mt0 (k : Nat) (C : Addr) (m : Str) (ps : List Str) (sp : Sp) : Prop := ∃ (f : Addr) (fd : FuncData), Meth K C m f ∧ Binds K fd ps [] ∧ FnOk P w K mg base CX0 k f fd ps sp
/-- the making of an instance of the class at C -/
def Mk0 (k : Nat) (x : Str) (C : Addr) (ps : List Str) (sp : Sp) : Prop := mg x = some (.ref C) ∧ ∃ (f : Addr) (fd : FuncData), Mk K C f ∧ Binds K fd ps [] ∧ FnOk P w K mg base CX0 k f fd ps sp
/-- a property -/
def Pr0 (k : Nat) (C : Addr) (m : Str) (sp : Sp) : Prop := ∃ (p f : Addr) (fd : FuncData), PropOf K C m p f ∧ Binds K fd ["self"] [] ∧ FnOk P w K mg base CX0 k f fd ["self"] sp
end
section
variable {X : Cx} {k j : Nat} {C : Addr} {x m : Str} {ps : List Str} {sp : Sp} {e o : Expr} {es : List Expr} {t : TA} {ta : TE} {p pos apos : Pos}
theorem pe_fn (h : Fn0 X.prog X.w X.K X.mg X.base k x ps sp) (hr : Room j X.A) (hkj : k ≤ j) (hg : Gl X x) (ha : PA X (e :: es) t) (hdb : (x == ("__debug__" : Str)) = false := by decide)
    (he : starEach (e :: es) X.env = (false, eval e X.env) :: starEach es X.env := by rfl) (hpl : (backTo pos (starEach es X.env)).any (·.1) = false := by rfl) : PE X (.Call (.Name x p) (e :: es) [] pos) (tCall sp [] E0 t) := by
  obtain ⟨f, fd, hm, hk, hb, F⟩ := h
  exact pe_call F (hr.mono hkj) hg hm hk hb .nil pass0 ha hdb he hpl
theorem pe_mtd {pl : Sem Bool} (he : PE X o ta) (c : Cls X.K C) (h : Mt0 X.prog X.w X.K X.mg X.base k C m ps sp) (hr : Room j X.A) (hkj : k ≤ j) (ha : PA X (e :: es) t)
    (hst : starEach (e :: es) X.env = (false, eval e X.env) :: starEach es X.env := by rfl) (hpl : (backTo pos (starEach es X.env)).any (·.1) = false := by rfl)
    (ht : eval (.Call (.Attribute o m apos) (e :: es) [] pos) X.env = (do
      let ov ← eval o X.env
      standAt apos.atName
      let (f, first) ← holding [ov] (getMethod ov m pl)
      callWith pos f first (backTo pos (starEach (e :: es) X.env)) (backToKw pos (keywordEach [] X.env))) := by rfl) : PE X (.Call (.Attribute o m apos) (e :: es) [] pos) (tMeth C m sp [] E0 ta t) := by
  obtain ⟨f, fd, hm, hb, F⟩ := h
  exact pe_meth he c hm F (hr.mono hkj) hb .nil pass0 ha hst hpl ht
theorem pe_mtd0 {pl : Sem Bool} (he : PE X o ta) (c : Cls X.K C) (h : Mt0 X.prog X.w X.K X.mg X.base k C m ps sp) (hr : Room j X.A) (hkj : k ≤ j)
    (ht : eval (.Call (.Attribute o m apos) [] [] pos) X.env = (do
      let ov ← eval o X.env
      standAt apos.atName
      let (f, first) ← holding [ov] (getMethod ov m pl)
      callWith pos f first (backTo pos (starEach [] X.env)) (backToKw pos (keywordEach [] X.env))) := by rfl) : PE X (.Call (.Attribute o m apos) [] [] pos) (tMeth C m sp [] E0 ta tNil) := by
  obtain ⟨f, fd, hm, hb, F⟩ := h
  exact pe_meth0 he c hm F (hr.mono hkj) hb .nil pass0 ht
theorem pe_new0 (h : Mk0 X.prog X.w X.K X.mg X.base k x C ps sp) (hr : Room j X.A) (hkj : k + 1 ≤ j) (hg : Gl X x) (ha : PA X (e :: es) t) (hdb : (x == ("__debug__" : Str)) = false := by decide)
    (he : starEach (e :: es) X.env = (false, eval e X.env) :: starEach es X.env := by rfl) (hpl : (backTo pos (starEach es X.env)).any (·.1) = false := by rfl) : PE X (.Call (.Name x p) (e :: es) [] pos) (tMake C sp [] E0 t) := by
  obtain ⟨hm, f, fd, M, hb, F⟩ := h
  exact pe_make M F (hr.mono hkj) hg hm hb .nil pass0 ha hdb he hpl
theorem pe_prp {f : Str} (he : PE X e ta) (c : Cls X.K C) (h : Pr0 X.prog X.w X.K X.mg X.base k C f sp) (hr : Room j X.A) (hkj : k + 1 ≤ j) (hab : attributeBase e f X.env (eval e X.env) = eval e X.env := by rfl) : PE X (.Attribute e f pos) (tProp C sp [] E0 ta) := by
  obtain ⟨q, g, fd, hp, hb, F⟩ := h
  exact pe_prop he c hp F (hr.mono hkj) hb .nil pass0 hab
/-- a text, an int of the module -/
theorem pe_gs {z : Str} (hm : ∃ t, X.mg x = some (.str z t)) (hg : Gl X x := by rfl) (hd : (x == ("__debug__" : Str)) = false := by decide) : PE X (.Name x p) (tC (.str z)) := by
  obtain ⟨t, hm⟩ := hm
  exact pe_glob hg hm ⟨t, rfl⟩ hd
theorem pe_gi {i : Int} (hm : ∃ t, X.mg x = some (.int i t)) (hg : Gl X x := by rfl) (hd : (x == ("__debug__" : Str)) = false := by decide) : PE X (.Name x p) (tC (.int i)) := by
  obtain ⟨t, hm⟩ := hm
  exact pe_glob hg hm ⟨t, rfl⟩ hd
/-- a built-in type by its name -/
theorem pe_ty {T : String} (hm : X.mg x = none) (hv : bootBuiltins x = some (.type T) := by decide +kernel) (hg : Gl X x := by rfl) (hn : x ≠ "__name__" := by decide) (hd : (x == ("__debug__" : Str)) = false := by decide) : PE X (.Name x p) (tC (.ty T)) :=
  pe_bltn hg hm hv rfl hn hd
/-- f(e, ..), f a built-in function -/
theorem pe_bf {id : String} {r : List V → Hp → VK → Prop} (hc : CallR X (.builtin id) r) (hm : X.mg x = none) (ha : PA X (e :: es) t) (hg : Gl X x := by rfl) (hv : bootBuiltins x = some (.builtin id) := by decide +kernel) (hn : x ≠ "__name__" := by decide)
    (hdb : (x == ("__debug__" : Str)) = false := by decide) (he : starEach (e :: es) X.env = (false, eval e X.env) :: starEach es X.env := by rfl) (hpl : (backTo pos (starEach es X.env)).any (·.1) = false := by rfl) : PE X (.Call (.Name x p) (e :: es) [] pos) (tCB r t) :=
  pe_callB hc hg hm hv ha hn hdb he hpl
theorem pe_bt {T : String} {r : List V → Hp → VK → Prop} (hc : CallR X (.type T) r) (hm : X.mg x = none) (ha : PA X (e :: es) t) (hg : Gl X x := by rfl) (hv : bootBuiltins x = some (.type T) := by decide +kernel) (hn : x ≠ "__name__" := by decide)
    (hdb : (x == ("__debug__" : Str)) = false := by decide) (he : starEach (e :: es) X.env = (false, eval e X.env) :: starEach es X.env := by rfl) (hpl : (backTo pos (starEach es X.env)).any (·.1) = false := by rfl) : PE X (.Call (.Name x p) (e :: es) [] pos) (tCB r t) :=
  pe_callTy hc hg hm hv ha hn hdb he hpl
end
/-! ### items -/
/-- what stands for an item -/
def ItV (H : Hp) : It → V → Prop
  | .i n, v => v = .int n
  | .w s, v => v = .str s
  | .b n, v => ∃ a, v = .ref a ∧ H a = some (.tup [.str "box", .int n])
theorem ItV.kp {S : List Addr} {H H' : Hp} (x : Kp S H H') : ∀ {i : It} {v : V}, ItV H i v → ItV H' i v
  | .i _, _, h => h
  | .w _, _, h => h
  | .b _, _, ⟨a, e, h⟩ => ⟨a, e, x.t _ _ h⟩
/-- letters -/
def letters : Str := "abcdefghijklmnopqrstuvwxyz"
/-- a word: at most eight letters -/
def OkW (s : Str) : Prop := s.length ≤ 8 ∧ ∀ (i c : Nat), s.cps[i]? = some c → c ∈ letters.cps.toList
/-- an item of a heap of so many boxes -/
def ItOk (n : Nat) : It → Prop
  | .i _ => True
  | .w s => OkW s
  | .b m => m < n
/-- a row of items at a -/
def RowAt (H : Hp) (r : List It) (a : Addr) : Prop := ∃ vs, H a = some (.lst vs) ∧ Paired (ItV H) r vs
/-- lists of items at l; as: where they stand -/
def LstsAt (H : Hp) (l : Addr) (as : List Addr) (c : Ctn) : Prop := H l = some (.lst (as.map V.ref)) ∧ Paired (RowAt H) c as
theorem pgetL {α β : Type} {F : α → β → Prop} {l : List α} {k : List β} (h : Paired F l k) {i : Nat} {x : α} (e : l[i]? = some x) : ∃ y, k[i]? = some y ∧ F x y := by
  induction h generalizing i with
  | nil => simp at e
  | cons f t ih =>
    cases i with
    | zero => simp at e; subst e; exact ⟨_, rfl, f⟩
    | succ i => simp at e; obtain ⟨y, h1, h2⟩ := ih e; exact ⟨y, by simpa using h1, h2⟩
theorem pgetR {α β : Type} {F : α → β → Prop} {l : List α} {k : List β} (h : Paired F l k) {i : Nat} {y : β} (e : k[i]? = some y) : ∃ x, l[i]? = some x ∧ F x y := by
  induction h generalizing i with
  | nil => simp at e
  | cons f t ih =>
    cases i with
    | zero => simp at e; subst e; exact ⟨_, rfl, f⟩
    | succ i => simp at e; obtain ⟨y, h1, h2⟩ := ih e; exact ⟨y, by simpa using h1, h2⟩
theorem plen {α β : Type} {F : α → β → Prop} {l : List α} {k : List β} (h : Paired F l k) : l.length = k.length := by
  induction h with
  | nil => rfl
  | cons f t ih => rw [List.length_cons, List.length_cons, ih]
theorem pmap {α β : Type} {F G : α → β → Prop} {l : List α} {k : List β} (h : Paired F l k) (m : ∀ a b, F a b → G a b) : Paired G l k := by
  induction h with
  | nil => exact .nil
  | cons f t ih => exact .cons (m _ _ f) ih
theorem psnoc {α β : Type} {F : α → β → Prop} {l : List α} {k : List β} {a : α} {b : β} (h : Paired F l k) (f : F a b) : Paired F (l ++ [a]) (k ++ [b]) := by
  induction h with
  | nil => exact .cons f .nil
  | cons g t ih => exact .cons g ih
theorem RowAt.kp {S : List Addr} {H H' : Hp} {r : List It} {a : Addr} (h : RowAt H r a) (x : Kp S H H') (n : ¬ a ∈ S) : RowAt H' r a := by
  obtain ⟨vs, h1, h2⟩ := h
  exact ⟨vs, x.k _ _ n h1, pmap h2 fun _ _ z => z.kp x⟩
theorem pmem {α β : Type} {F : α → β → Prop} {l : List α} {k : List β} (h : Paired F l k) {y : β} (e : y ∈ k) : ∃ x ∈ l, F x y := by
  induction h with
  | nil => cases e
  | cons f t ih =>
    rcases List.mem_cons.mp e with rfl | e
    · exact ⟨_, List.mem_cons_self .., f⟩
    · obtain ⟨x, hx, hf⟩ := ih e
      exact ⟨x, List.mem_cons_of_mem _ hx, hf⟩
theorem pmapm {α β : Type} {F G : α → β → Prop} {l : List α} {k : List β} (h : Paired F l k) (m : ∀ a b, b ∈ k → F a b → G a b) : Paired G l k := by
  induction h with
  | nil => exact .nil
  | cons f t ih => exact .cons (m _ _ (List.mem_cons_self ..) f) (ih fun a b hb => m a b (List.mem_cons_of_mem _ hb))
theorem LstsAt.kp {S : List Addr} {H H' : Hp} {l : Addr} {as : List Addr} {c : Ctn} (h : LstsAt H l as c) (x : Kp S H H') (n : ¬ l ∈ S) (n2 : ∀ a ∈ as, ¬ a ∈ S) : LstsAt H' l as c :=
  ⟨x.k _ _ n h.1, pmapm h.2 fun _ a ha z => z.kp x (n2 a ha)⟩
theorem LstsAt.kp0 {H H' : Hp} {l : Addr} {as : List Addr} {c : Ctn} (h : LstsAt H l as c) (x : Kp [] H H') : LstsAt H' l as c := h.kp x (fun z => nomatch z) fun _ _ z => nomatch z
theorem LstsAt.row {H : Hp} {l : Addr} {as : List Addr} {c : Ctn} (h : LstsAt H l as c) {i : Nat} (hi : i < c.length) : ∃ a, as[i]? = some a ∧ RowAt H (rw c i) a := by
  have e : c[i]? = some (rw c i) := by
    unfold rw
    rw [List.getD_eq_getElem?_getD, List.getElem?_eq_getElem hi]
    rfl
  exact pgetL h.2 e
/-- the kind of a value -/
inductive KdV (H : Hp) : V → String → Prop
  | int (i : Int) : KdV H (.int i) "int"
  | str (s : Str) : KdV H (.str s) "str"
  | tup {a : Addr} {xs : List V} (h : H a = some (.tup xs)) : KdV H (.ref a) "tuple"
  | lst {a : Addr} {xs : List V} (h : H a = some (.lst xs)) : KdV H (.ref a) "list"
theorem KdV.ty {K : PySem.W.Frag} {H : Hp} {x : V} {k : String} (h : KdV H x k) : TyX K H x (.type k) := by
  cases h with
  | int => exact .base (.int _)
  | str => exact .base (.str _)
  | tup h => exact .base (.tup h)
  | lst h => exact .base (.lst h)
def kdOf : It → String
  | .i _ => "int"
  | .w _ => "str"
  | .b _ => "tuple"
theorem ItV.kd {H : Hp} : ∀ {i : It} {v : V}, ItV H i v → KdV H v (kdOf i)
  | .i _, _, h => by cases (show _ = _ from h); exact .int _
  | .w _, _, h => by cases (show _ = _ from h); exact .str _
  | .b _, _, ⟨a, e, h⟩ => by cases e; exact .tup h
/-- isinstance of a value whose kind is known -/
theorem isi {K : PySem.W.Frag} {H : Hp} {x : V} {k n : String} {b : Bool} {Q : VK} (h : KdV H x k) (e : kitB k n = some b) (q : Q (.bl b) H) : rIsi K [x, .ty n] H Q :=
  ⟨x, .ty n, .type k, .type n, b, rfl, .ty n, h.ty, kit_ty e, q⟩
/-- data: what == sees -/
def dtOf : It → PyData
  | .i n => .int n
  | .w s => .str s
  | .b n => .tuple [.str "box", .int n]
theorem ItV.dp {K : PySem.W.Frag} {H : Hp} : ∀ {i : It} {v : V}, ItV H i v → Dp K H v (dtOf i)
  | .i _, _, h => by cases (show _ = _ from h); exact .int _
  | .w _, _, h => by cases (show _ = _ from h); exact .str _
  | .b _, _, ⟨a, e, h⟩ => by cases e; exact .tup (SqT.of h) (.cons (.str _) (.cons (.int _) .nil))
theorem letters_list : letters.cps.toList = [97, 98, 99, 100, 101, 102, 103, 104, 105, 106, 107, 108, 109, 110, 111, 112, 113, 114, 115, 116, 117, 118, 119, 120, 121, 122] := by decide +kernel
theorem OkW.ok {s : Str} (h : OkW s) : PyData.strOk s = true := by
  unfold PyData.strOk
  rw [Array.all_eq_true]
  intro i hi
  have h2 := h.2 i s.cps[i] (Array.getElem?_eq_getElem hi)
  rw [letters_list] at h2
  simp only [List.mem_cons, List.not_mem_nil, or_false] at h2
  exact decide_eq_true (by omega)
theorem dt_shaped {n : Nat} : ∀ i : It, ItOk n i → SeqAt.shaped (dtOf i) = true
  | .i _, _ => by simp [SeqAt.shaped, dtOf, PyData.canLay0, PyData.depth]
  | .w _, h => by simp [SeqAt.shaped, dtOf, PyData.canLay0, PyData.depth]; exact OkW.ok h
  | .b _, _ => by
    have e : PyData.strOk ("box" : Str) = true := by decide +kernel
    simp [SeqAt.shaped, dtOf, PyData.canLay0, PyData.canLayAll0, PyData.depth, PyData.depthAll, e]
theorem dt_eqv : ∀ i j : It, PyData.eqv (dtOf i) (dtOf j) = decide (i = j)
  | .i a, .i b => by
    show (a == b) = _
    by_cases h : a = b
    · subst h; simp
    · rw [beq_eq_false_iff_ne.mpr h, decide_eq_false]; intro z; cases z; exact h rfl
  | .w a, .w b => by
    show (a == b) = _
    by_cases h : a = b
    · subst h; simp
    · rw [beq_eq_false_iff_ne.mpr h, decide_eq_false]; intro z; cases z; exact h rfl
  | .b a, .b b => by
    show ((("box" : Str) == "box") && (((a : Int) == (b : Int)) && true)) = _
    by_cases h : a = b
    · subst h; simp
    · have e : ((a : Int) == (b : Int)) = false := by
        rw [beq_eq_false_iff_ne]
        intro z
        exact h (Int.ofNat.inj z)
      rw [e, decide_eq_false]
      · simp
      · intro z; cases z; exact h rfl
  | .i _, .w _ => rfl
  | .i _, .b _ => rfl
  | .w _, .i _ => rfl
  | .w _, .b _ => rfl
  | .b _, .i _ => rfl
  | .b _, .w _ => rfl
end Rk
set_option Elab.async false
set_option linter.all false
set_option maxRecDepth 100000
set_option maxHeartbeats 4000000
/-! Rules that the hand layer lacks. -/
namespace Rk
open PySem PySem.Spec PyProof.Rows L2
section
variable {X : Cx}
/-! ### an attribute as a target -/
def gFld (K : PySem.W.Frag) (ta : TE) (f : Str) : TG := fun v σ H Q => ta σ H fun x H1 => ∃ a C dx fs, x = .ref a ∧ H1 a = some (.ins C dx fs) ∧ Cls K C ∧ NoAttr K C f ∧ fs.length < 1000 ∧ Q σ (upd H1 a (.ins C dx (putF f v fs)))
theorem pg_fld {o : Expr} {f : Str} {pos : Pos} {ta : TE} (ha : PE X o ta) : PG X (.Attribute o f pos) (gFld X.K ta f) := by
  refine ⟨fun pins s σ H v u Q I r h => ?_⟩
  rw [assign_Attribute]
  refine wpAny_bind (wpAny_holding (thn (ha.run pins s σ H _ I h) fun ov s1 ⟨x, H1, I1, rx, a, C, dx, fs, ex, ea, c, n, l, q⟩ => ?_))
  subst ex
  obtain rfl : ov = Value.ref a := rx
  refine wpAny_bind (wpAny_standAt ?_)
  refine wpAny_bind (wpAny_holding (setattr_ok I1 ea c n l r fun s3 I3 => ?_))
  exact wpAny_release ⟨σ, _, I3, q⟩
/-! ### xs[i] read, for xs[i] op= e -/
def rGetL (K : PySem.W.Frag) : V → V → Hp → VK → Prop := fun x y H Q => ∃ (p : Addr) (xs : List V) (j : Nat) (v : V), x = .ref p ∧ y = .int j ∧ SqL K H p xs ∧ xs[j]? = some v ∧ Q v H
theorem pget_list : PGet X (rGetL X.K) := by
  intro pins s σ H o i ov iv Q I ro ri h
  obtain ⟨p, xs, j, v, rfl, rfl, hS, hat, q⟩ := h
  obtain rfl : ov = Value.ref p := ro
  obtain ⟨t, rfl⟩ := ri
  obtain ⟨its, hv, hp, hz⟩ := I.list hS
  obtain ⟨u, hu, ru⟩ := hv.get hat
  have hlt := (List.getElem?_eq_some_iff.mp hat).1
  have hn := line63
  exact getItem_listL hp.isList (by omega) (by omega) (by simpa using hu) ⟨v, H, I, ru, q⟩
/-! ### a dict of one tuple key -/
def tDisp1 (tk tv : TE) : TE := fun σ H Q => ∀ p, H p = none → tk σ (upd H p (.dT [])) fun x H1 => tv σ H1 fun y H2 => H2 p = some (.dT []) ∧ ∃ b k, x = .ref b ∧ H2 b = some (.tup (k.map kV)) ∧ Q (.ref p) (upd H2 p (.dT [(k, y)]))
theorem pe_disp1 {a b : Expr} {pos : Pos} {tk tv : TE} (hu : X.A.units + 1 < cLine) (ha : PE X a tk) (hb : PE X b tv) : PE X (.Dict [some a] [b] pos) (tDisp1 tk tv) := by
  refine ⟨fun pins s σ H Q I q => ?_⟩
  have hn := I.hok.fresh (Nat.le_refl s.heap.objs.size)
  have I1 := I.laid (a := s.heap.objs.size) (o := .dT []) (h' := s.heap.push { cls := .type "dict", data := .dict #[] }) (t' := s.toks) (fun _ _ q => Heap.get?_push_of_some _ q) (Nat.le_refl _) (dt_empty s.heap I.big)
  refine wpAny_Dict_any rfl rfl (List.cons_ne_nil _ _) (by show 1 ≤ 15; decide) (pairTrees_cons_walk (thn (ha.run pins _ σ _ _ I1 (q _ hn)) fun u s1 ⟨x, H1, I2, rx, q1⟩ => thn (hb.run pins s1 σ H1 _ I2 q1) fun v s2 ⟨y, H2, I3, ry, e, bb, k, ex, ek, q2⟩ => pairTrees_nil_walk ?_))
  subst ex
  obtain rfl : u = Value.ref bb := rx
  obtain ⟨z, hd, xs, rel, dd⟩ := dt_of I3.hok e
  cases rel
  show wpAny _ _ (forIn [(Value.ref bb, v)] PUnit.unit _) _ _ _
  rw [List.forIn_cons]
  refine wpAny_bind (wpAny_bind (wpAny_dictSet_heap (knd := tupleKind (mixKind X.prog X.w)) (hsz := Nat.zero_le _) (k := k) (by show X.A.units < cLine; omega) (key_of I3.hok ek) dd fun h' dd' hs => wpAny_pure ?_))
  show wpAny _ _ (forIn ([] : List (Value × Value)) PUnit.unit _) _ _ _
  rw [List.forIn_nil]
  refine wpAny_pure ⟨.ref s.heap.objs.size, upd H2 s.heap.objs.size (.dT [(k, y)]), ?_, rfl, q2⟩
  have he : ∃ q, h'.get? s.heap.objs.size = some q := let ⟨q, _, _, hq, _⟩ := dd'; ⟨q, hq⟩
  have nb : bb ≠ s.heap.objs.size := ne_of ek e (by intro z; cases z)
  refine d_write I3 (by rw [e]; exact True.intro) hs he ⟨by show 1 ≤ sizeLine; rw [sizeLine_eq]; omega, hd, [(k, bb, v)], .cons ⟨rfl, by rw [upd_ne nb]; exact ek, ry⟩ .nil, ?_⟩
  obtain ⟨o, es, ep, ho, hc, hdat, hes, _, hnd⟩ := dd'
  exact ⟨o, es, ep, ho, hc, hdat, hes, hnd⟩
/-! ### d.pop(k), d.clear(), keys that are tuples -/
def rPopT1 : V → List V → Hp → VK → Prop := fun x xs H Q => ∃ (a : Addr) (kvs : List (List Key × V)) (k : List Key) (b : Addr) (v : V), x = .ref a ∧ xs = [.ref b] ∧ H a = some (.dT kvs) ∧ H b = some (.tup (k.map kV)) ∧ valV kvs k = some v ∧ Q v (upd H a (.dT (dropK kvs k)))
theorem mt_popT1 (hu : X.A.units + 1 < cLine) : MtR X "dict.pop" rPopT1 := by
  intro pins s σ H x xs v us Q I rx rxs h
  obtain ⟨a, kvs, k, b, y, rfl, rfl, ha, hb, hy, q⟩ := h
  cases rx
  obtain ⟨u, rfl, r1⟩ := vals1 rxs
  cases r1
  obtain ⟨z, hd, xs', rel, dd⟩ := dt_of I.hok ha
  have hz : xs'.length ≤ sizeLine := by rw [← Paired.length rel]; exact z
  have r := rel.val k
  rw [hy] at r
  obtain ⟨w', hw, rw'⟩ := RelO.some_of r
  obtain ⟨p, hp, ep⟩ := Option.map_eq_some_iff.mp hw
  subst ep
  refine call_pop_heap (knd := tupleKind (mixKind X.prog X.w)) (k := k) (hsz := hz) (.inl rfl) (PySem.F.args_dict_pop_2 _ _) (tupleKind_room_in1 hu) (key_of I.hok hb) hd dd hp fun h' dd' hs => ⟨y, upd H a (.dT (dropK kvs k)), ?_, rw', q⟩
  have he : ∃ q, h'.get? a = some q := let ⟨q, _, _, hq, _⟩ := dd'; ⟨q, hq⟩
  have hk : ∀ c ys, H c = some (.tup ys) → upd H a (.dT (dropK kvs k)) c = some (.tup ys) := fun c ys e => by
    rw [upd_ne (ne_of e ha (by intro z; cases z))]
    exact e
  refine d_write I (by rw [ha]; exact True.intro) hs he ⟨Nat.le_trans (dropK_le kvs k) z, hd, DT.dropH xs' k, (L2.DX.KT_drop k rel).keeps hk, ?_⟩
  obtain ⟨o, es, ep, ho, hc, hdat, hes, _, hnd⟩ := dd'
  exact ⟨o, es, ep, ho, hc, hdat, hes, hnd⟩
def rClearT : V → List V → Hp → VK → Prop := fun x xs H Q => ∃ (a : Addr) (kvs : List (List Key × V)), x = .ref a ∧ xs = [] ∧ H a = some (.dT kvs) ∧ Q .non (upd H a (.dT []))
theorem mt_clearT : MtR X "dict.clear" rClearT := by
  intro pins s σ H x xs v us Q I rx rxs h
  obtain ⟨a, kvs, rfl, rfl, ha, q⟩ := h
  cases rx
  cases rxs
  obtain ⟨z, hd, xs', rel, dd⟩ := dt_of I.hok ha
  have hz : xs'.length ≤ sizeLine := by rw [← Paired.length rel]; exact z
  obtain ⟨es, ep, hr, hs, _⟩ := Heap.DictKeyed.walk (knd := tupleKind (mixKind X.prog X.w)) ⟨xs', dd, rfl⟩
  refine call_meetsIn PySem.F.slot_dict_clear dd.typeIs PySem.F.entry_dict_clear (PySem.F.args_dict_clear_1 _) (meets_dict_clear_raw a) ⟨es, ep, hr, by rw [hs, pairsH_length]; exact hz, fun h' hr' hs' => ?_⟩
  obtain ⟨o, ho, hc, hdat⟩ := hr'
  exact ⟨.non, upd H a (.dT []), d_write (t' := s.toks) I (by rw [ha]; exact True.intro) hs' ⟨o, ho⟩ ⟨Nat.zero_le _, hd, [], .nil, o, _, _, ho, hc, hdat, rfl, List.nodup_nil⟩, rfl, q⟩
/-! ### x not in o, len(o) by the own methods of o's class -/
def rOwnNotIn (C : Addr) (sp : Sp) : R2 := fun x y H Q => ∃ a dx fs, y = .ref a ∧ H a = some (.ins C dx fs) ∧ sp [y, x] H (fun v H1 => ∃ b, v = .bl b ∧ Q (.bl (!b)) H1) E0
theorem op_ownNotIn {k : Nat} {C : Addr} {ps : List Str} {sp : Sp} (h : Mt0 X.prog X.w X.K X.mg X.base k C "__contains__" ps sp) (hr : Room k X.A) : OpR X (compareOp .NotIn) (rOwnNotIn C sp) := by
  obtain ⟨f, fd, hm, hb, F⟩ := h
  intro pins s σ H x y v u Q I rx ry q
  obtain ⟨a, dx, fs, rfl, ea, q⟩ := q
  obtain rfl : u = Value.ref a := ry
  obtain ⟨mA, ob, _⟩ := ins_get I.hok ea
  obtain ⟨od, J, _⟩ := ob.look
  obtain ⟨m, fr⟩ := I.fr
  refine PySem.W.notIn_K fr I.mod.kin J hm.at_ hm.fn (thn (run_fn (us := [.ref a, v]) (vs := [.ref a, x]) F hr hb .nil pass0 I (.cons rfl (.cons rx .nil)) (by rw [List.append_nil]; exact q)) fun r s1 z => ?_)
  obtain ⟨w', H1, I1, rw', b, rfl, q2⟩ := z
  cases rw'
  exact wpAny_truthy_bool ⟨.bl (!b), H1, I1, rfl, q2⟩
def rOwnLen (C : Addr) (sp : Sp) : List V → Hp → VK → Prop := fun xs H Q => ∃ a dx fs, xs = [.ref a] ∧ H a = some (.ins C dx fs) ∧ sp [.ref a] H (fun v H1 => ∃ n : Nat, v = .int n ∧ n < 2 ^ 62 ∧ Q (.int n) H1) E0
theorem call_ownLen {k : Nat} {C : Addr} {ps : List Str} {sp : Sp} (h : Mt0 X.prog X.w X.K X.mg X.base k C "__len__" ps sp) (hr : Room (k + 1) X.A) : CallR X (.builtin "len") (rOwnLen C sp) := by
  obtain ⟨f, fd, hm, hb, F⟩ := h
  intro pins s σ H xs us Q I r h
  obtain ⟨a, dx, fs, rfl, ea, q⟩ := h
  obtain ⟨u, rfl, ru⟩ := r.one
  cases (show u = Value.ref a from ru)
  obtain ⟨mA, ob, _⟩ := ins_get I.hok ea
  obtain ⟨od, J, _⟩ := ob.look
  obtain ⟨m, fr⟩ := I.fr
  have R : FnR X.prog X.w X.K X.mg X.base CX0 k f sp := by
    have z := FnOk.raw F hb .nil
    simp only [List.append_nil] at z
    exact z
  refine PySem.W.len_K fr I.mod.kin J hm.at_ hm.fn (wpAny_mono (wpAny_call (SlX.run_at (us := [.ref a]) (ws := [.ref a]) R hr.in1 I.env0.in1 pass0 I (.cons rfl .nil) q)) (fun w' s' z => ?_) fun _ _ x => x)
  obtain ⟨z', H', I', rz, n, ei, hn, qz⟩ := z
  subst ei
  obtain ⟨t, e⟩ := (show ∃ t, w' = Value.int n t from rz)
  cases e
  exact ⟨⟨by omega, by omega⟩, .int n, H', I'.tok _, ⟨_, rfl⟩, qz⟩
/-! ### c(*xs), c a name that holds a class -/
theorem pe_clsStar {k i j : Nat} {f C : Addr} {sp : Sp} {x : Str} {e : Expr} {te : TE} {p sq pos : Pos} (M : Mk X.K C f) (F : FnR X.prog X.w X.K X.mg X.base CX0 k f sp) (hr : Room j X.A) (hkj : k + 1 ≤ j) (hN : X.N[i]? = some x) (hv : Vis X.env.scope x) (he : PE X e te)
    (hd : (x == ("__debug__" : Str)) = false := by decide) (hcd : (x == ("__classdict__" : Str)) = false := by decide) (hst : starEach [.Starred e sq] X.env = [(true, eval e X.env)] := by rfl) :
    PE X (.Call (.Name x p) [.Starred e sq] [] pos) (fun σ H Q => σ[i]? = some (some (.ref C)) ∧ te σ H fun y H1 => ∃ a xs, y = V.ref a ∧ (SqT X.K H1 a xs ∨ SqL X.K H1 a xs) ∧
      ∀ z dz, H1 z = none → H1 dz = none → dz ≠ z → sp (V.ref z :: xs) (upd (upd H1 dz (.own z)) z (.ins C dz [])) (fun v H2 => v = .non ∧ Q (.ref z) H2) E0) := by
  refine ⟨fun pins s σ H Q I h => ?_⟩
  obtain ⟨h0, h⟩ := h
  refine wpAny_Call_Name_kw (thn ((pe_var (i := i) hN hv hd hcd).run pins s σ H (fun v H' => v = .ref C ∧ H' = H) I ⟨.ref C, h0, rfl, rfl⟩) fun u s1 z => ?_)
  obtain ⟨v, H', I1, rv, rfl, rfl⟩ := z
  obtain rfl : u = Value.ref C := rv
  refine PySem.W.callWith_S (h₀ := X.base) I1.ok.mod.kin M.kp (thn (he.run pins s1 σ _ _ I1 h) fun v s2 ⟨y, H1, I2, ry, a, xs, ey, hxs, q⟩ => ?_) hst
  subst ey
  obtain rfl : v = Value.ref a := ry
  exact StX.star_any I2 hxs fun us s3 I3 rv => ⟨I3.kIn, StX.run_makeR M F (hr.mono hkj) pass0 I3 rv q⟩
/-- o.m(), the promise by positional values -/
theorem pe_methR0 {k j : Nat} {C f : Addr} {m : Str} {sp : Sp} {o : Expr} {ta : TE} {apos pos : Pos} {pl : Sem Bool} (he : PE X o ta) (c : Cls X.K C) (hm : Meth X.K C m f) (F : FnR X.prog X.w X.K X.mg X.base CX0 k f sp) (hr : Room j X.A) (hkj : k ≤ j)
    (ht : eval (.Call (.Attribute o m apos) [] [] pos) X.env = (do
      let ov ← eval o X.env
      standAt apos.atName
      let (f, first) ← holding [ov] (getMethod ov m pl)
      callWith pos f first (backTo pos (starEach [] X.env)) (backToKw pos (keywordEach [] X.env))) := by rfl) :
    PE X (.Call (.Attribute o m apos) [] [] pos) (fun σ H Q => ta σ H fun x H1 => ∃ a dx fs, x = .ref a ∧ H1 a = some (.ins C dx fs) ∧ fs.lookup m = none ∧ sp [.ref a] H1 Q E0) := by
  refine ⟨fun pins s σ H Q I h => ?_⟩
  refine PySem.W.methodCall_KW (pl := pl) (thn (he.run pins s σ H _ I h) fun u s1 ⟨x, H1, I1, rx, a, dx, fs, ex, ea, l, q⟩ => ?_) ht
  subst ex
  obtain rfl : u = Value.ref a := rx
  refine getmeth_ok I1 ea c hm l ?_
  refine PySem.W.callWith_K0 (first := [.ref a]) I1.kIn hm.kp ?_
  exact wpAny_call (run_fnR (us := [.ref a]) (vs := [.ref a]) F (hr.mono hkj) pass0 I1 (.cons rfl .nil) q)
end
end Rk
set_option Elab.async false
set_option linter.all false
set_option maxRecDepth 100000
set_option maxHeartbeats 4000000
/-! What the walk takes of the text (made by gentxt.py). -/
namespace Rk
open PySem PySem.Spec PyProof.Rows L2
section
variable (K : PySem.W.Frag) (mg : Str → Option Value)
/-- a def of the module -/
def GF (x : Str) (st : Stmt) : Prop := ∃ (f : Addr) (fd : FuncData), mg x = some (.ref f) ∧ Fun K x x st f fd
/-- a method -/
def MF (C : Addr) (m qual : Str) (st : Stmt) : Prop := ∃ (f : Addr) (fd : FuncData), Meth K C m f ∧ Fun K m qual st f fd
/-- __init__ -/
def NF (C : Addr) (qual : Str) (st : Stmt) : Prop := ∃ (f : Addr) (fd : FuncData), Mk K C f ∧ Fun K "__init__" qual st f fd
/-- a property -/
def PF (C : Addr) (m qual : Str) (st : Stmt) : Prop := ∃ (p f : Addr) (fd : FuncData), PropOf K C m p f ∧ Fun K m qual st f fd
structure Txt (cV cO cH : Addr) : Prop where
  d_is_integer : GF K mg "is_integer" s_is_integer
  d_is_within : GF K mg "is_within" s_is_within
  d_is_word : GF K mg "is_word" s_is_word
  d_is_leaf : GF K mg "is_leaf" s_is_leaf
  d_is_reference : GF K mg "is_reference" s_is_reference
  d_is_item : GF K mg "is_item" s_is_item
  d_is_box : GF K mg "is_box" s_is_box
  d_pair_of : GF K mg "pair_of" s_pair_of
  d_check_sign : GF K mg "check_sign" s_check_sign
  d_Verdicts_init : NF K cV "Verdicts.__init__" s_Verdicts_init
  d_Verdicts_of_pair : MF K cV "of_pair" "Verdicts.of_pair" s_Verdicts_of_pair
  d_Verdicts_go_on : MF K cV "go_on" "Verdicts.go_on" s_Verdicts_go_on
  d_Verdicts_decide : MF K cV "decide" "Verdicts.decide" s_Verdicts_decide
  d_Verdicts_entered_from : MF K cV "entered_from" "Verdicts.entered_from" s_Verdicts_entered_from
  d_steps_until_deep : GF K mg "steps_until_deep" s_steps_until_deep
  d_Outcome_init : ∃ (f : Addr) (fd : FuncData), Mk K cO f ∧ FunD K "__init__" "Outcome.__init__" (defArgs s_Outcome_init) (defBody s_Outcome_init) (defScope s_Outcome_init) [] [("number", .non), ("loop", .non)] f fd
  d_Outcome_ends : PF K cO "ends" "Outcome.ends" s_Outcome_ends
  d_Outcome_measure : MF K cO "measure" "Outcome.measure" s_Outcome_measure
  d_Outcome_at : MF K cO "at" "Outcome.at" s_Outcome_at
  d_Outcome_go_round : MF K cO "go_round" "Outcome.go_round" s_Outcome_go_round
  d_equality : GF K mg "equality" s_equality
  d_stands : GF K mg "stands" s_stands
  d_answer : GF K mg "answer" s_answer
  d_first_unlike : GF K mg "first_unlike" s_first_unlike
  d_decided : GF K mg "decided" s_decided
  d_word_of : GF K mg "word_of" s_word_of
  d_ordering : GF K mg "ordering" s_ordering
  d_Heap_init : NF K cH "Heap.__init__" s_Heap_init
  d_Heap_of : ∃ (p f : Addr) (fd : FuncData), ClX.CMet K cH (.type "type") "of" p f ∧ Fun K "of" "Heap.of" s_Heap_of f fd
  d_Heap_len : MF K cH "__len__" "Heap.__len__" s_Heap_len
  d_Heap_has : MF K cH "__contains__" "Heap.__contains__" s_Heap_has
  d_Heap_size : PF K cH "size" "Heap.size" s_Heap_size
  d_Heap_need_box : MF K cH "need_box" "Heap.need_box" s_Heap_need_box
  d_Heap_need_place : MF K cH "need_place" "Heap.need_place" s_Heap_need_place
  d_Heap_need_item : MF K cH "need_item" "Heap.need_item" s_Heap_need_item
  d_Heap_need_room : MF K cH "need_room" "Heap.need_room" s_Heap_need_room
  d_Heap_new : MF K cH "new" "Heap.new" s_Heap_new
  d_Heap_add_at : MF K cH "add_at" "Heap.add_at" s_Heap_add_at
  d_Heap_add_last : MF K cH "add_last" "Heap.add_last" s_Heap_add_last
  d_Heap_contents : MF K cH "contents" "Heap.contents" s_Heap_contents
  d_law_bag : GF K mg "_law_bag" s_law_bag
  d_law_take : GF K mg "_law_take" s_law_take
  d_law_leaf : GF K mg "_law_leaf" s_law_leaf
  d_law_contents : GF K mg "_law_contents" s_law_contents
  d_law_twofold : GF K mg "_law_twofold" s_law_twofold
  d_law_heap : GF K mg "_law_heap" s_law_heap
  d_law_shown : GF K mg "_law_shown" s_law_shown
  d_law_told : GF K mg "_law_told" s_law_told
  d_law_by_mark : GF K mg "_law_by_mark" s_law_by_mark
  d_law_ordered_contents : GF K mg "_law_ordered_contents" s_law_ordered_contents
  d_law_due : GF K mg "_law_due" s_law_due
  d_law_at : GF K mg "_law_at" s_law_at
  d_law : GF K mg "law" s_law
  gV : mg "Verdicts" = some (.ref cV)
  clV : Cls K cV
  gO : mg "Outcome" = some (.ref cO)
  clO : Cls K cO
  gH : mg "Heap" = some (.ref cH)
  clH : Cls K cH
  nV_lists : NoAttr K cV "lists"
  nV_known : NoAttr K cV "known"
  nV_deepest : NoAttr K cV "deepest"
  nO_word : NoAttr K cO "word"
  nO_number : NoAttr K cO "number"
  nO_verdicts : NoAttr K cO "verdicts"
  nO_course : NoAttr K cO "course"
  nO_loop : NoAttr K cO "loop"
  nO_steps : NoAttr K cO "steps"
  nO_depth : NoAttr K cO "depth"
  nH_lists : NoAttr K cH "lists"
  f_isinstance : mg "isinstance" = none
  f_len : mg "len" = none
  f_int : mg "int" = none
  f_bool : mg "bool" = none
  f_str : mg "str" = none
  f_tuple : mg "tuple" = none
  f_list : mg "list" = none
  f_range : mg "range" = none
  f_zip : mg "zip" = none
  f_max : mg "max" = none
  f_min : mg "min" = none
  f_sum : mg "sum" = none
  f_abs : mg "abs" = none
  f_all : mg "all" = none
  f_repr : mg "repr" = none
  g_BOX : ∃ t, mg "BOX" = some (.str "box" t)
  g_LETTERS : ∃ t, mg "LETTERS" = some (.str "abcdefghijklmnopqrstuvwxyz" t)
  g_MOST_LETTERS : ∃ t, mg "MOST_LETTERS" = some (.int 8 t)
  g_EQUAL : ∃ t, mg "EQUAL" = some (.str "equal" t)
  g_UNLIKE : ∃ t, mg "UNLIKE" = some (.str "unlike" t)
  g_ENDLESS : ∃ t, mg "ENDLESS" = some (.str "endless" t)
  g_TOO_DEEP : ∃ t, mg "TOO_DEEP" = some (.str "too deep" t)
  g_YES : ∃ t, mg "YES" = some (.str "yes" t)
  g_NO : ∃ t, mg "NO" = some (.str "no" t)
  g_NO_ORDER : ∃ t, mg "NO_ORDER" = some (.str "no order" t)
  g_MOST_LIMIT : ∃ t, mg "MOST_LIMIT" = some (.int (10 ^ 30) t)
  g_LENGTHS : ∃ t, mg "LENGTHS" = some (.int (-1) t)
  g_SIGNS : ∃ a, mg "SIGNS" = some (.ref a) ∧ ∀ H, SqT K H a [.str "<", .str "<=", .str ">", .str ">="]
  rdH : ClX.CRead K cH (.type "type")
  mB : ∃ u, ClX.CVal K cH (.type "type") "MOST_BOXES" (.int 60) u
  mI : ∃ u, ClX.CVal K cH (.type "type") "MOST_ITEMS" (.int 300) u
end
section
variable {P : Program} {w : World} {K : PySem.W.Frag} {mg : Str → Option Value} {base : Heap} {x m qual : Str} {st : Stmt} {N ps : List Str} {k : Nat} {sp : Sp} {C : Addr}
theorem GF.ok (F : GF K mg x st) (S : FnScope N ps (defScope st)) (len : ∀ vs H Q E, sp vs H Q E → vs.length = ps.length)
    (hb : ∀ (kV doc pm : Value) (an : Option Addr) (cdv ct : Value) (us : List Value), us.length = ps.length → bindArgs (PySem.W.fnOf x x (defArgs st) (defBody st) (defScope st) .none kV doc pm an cdv ct) ⟨us, []⟩ = pure (ps.zip us))
    (hbody : ∀ (f : Addr) (cdv : Value) (A : Around) (outer : List Env) (s : Shared) (H : Hp) (vs : List V) (Q : VK) (E : XK), Room k (A.deeper (envOfC x (defScope st) s.heap.objs.size f cdv)) → sp vs H Q E →
      ∃ t, PSs (cxOf CX0 P w K mg base N x (defScope st) f cdv A outer s H E).nox (defBody st) t ∧ t { nx := fun _ H' => Q .non H', rt := Q } (start N vs) H) : Fn0 P w K mg base (k + 1) x ps sp := by
  obtain ⟨f, fd, hm, F⟩ := F
  exact ⟨f, fd, hm, F.kp, F.binds hb, F.ok S len (hbody f)⟩
theorem MF.ok (F : MF K C m qual st) (S : FnScope N ps (defScope st)) (len : ∀ vs H Q E, sp vs H Q E → vs.length = ps.length)
    (hb : ∀ (kV doc pm : Value) (an : Option Addr) (cdv ct : Value) (us : List Value), us.length = ps.length → bindArgs (PySem.W.fnOf m qual (defArgs st) (defBody st) (defScope st) .none kV doc pm an cdv ct) ⟨us, []⟩ = pure (ps.zip us))
    (hbody : ∀ (f : Addr) (cdv : Value) (A : Around) (outer : List Env) (s : Shared) (H : Hp) (vs : List V) (Q : VK) (E : XK), Room k (A.deeper (envOfC qual (defScope st) s.heap.objs.size f cdv)) → sp vs H Q E →
      ∃ t, PSs (cxOf CX0 P w K mg base N qual (defScope st) f cdv A outer s H E).nox (defBody st) t ∧ t { nx := fun _ H' => Q .non H', rt := Q } (start N vs) H) : Mt0 P w K mg base (k + 1) C m ps sp := by
  obtain ⟨f, fd, hm, F⟩ := F
  exact ⟨f, fd, hm, F.binds hb, F.ok S len (hbody f)⟩
theorem NF.ok (F : NF K C qual st) (hm : mg x = some (.ref C)) (S : FnScope N ps (defScope st)) (len : ∀ vs H Q E, sp vs H Q E → vs.length = ps.length)
    (hb : ∀ (kV doc pm : Value) (an : Option Addr) (cdv ct : Value) (us : List Value), us.length = ps.length → bindArgs (PySem.W.fnOf "__init__" qual (defArgs st) (defBody st) (defScope st) .none kV doc pm an cdv ct) ⟨us, []⟩ = pure (ps.zip us))
    (hbody : ∀ (f : Addr) (cdv : Value) (A : Around) (outer : List Env) (s : Shared) (H : Hp) (vs : List V) (Q : VK) (E : XK), Room k (A.deeper (envOfC qual (defScope st) s.heap.objs.size f cdv)) → sp vs H Q E →
      ∃ t, PSs (cxOf CX0 P w K mg base N qual (defScope st) f cdv A outer s H E).nox (defBody st) t ∧ t { nx := fun _ H' => Q .non H', rt := Q } (start N vs) H) : Mk0 P w K mg base (k + 1) x C ps sp := by
  obtain ⟨f, fd, hk, F⟩ := F
  exact ⟨hm, f, fd, hk, F.binds hb, F.ok S len (hbody f)⟩
theorem PF.ok (F : PF K C m qual st) (S : FnScope N ["self"] (defScope st)) (len : ∀ vs H Q E, sp vs H Q E → vs.length = 1)
    (hb : ∀ (kV doc pm : Value) (an : Option Addr) (cdv ct : Value) (us : List Value), us.length = 1 → bindArgs (PySem.W.fnOf m qual (defArgs st) (defBody st) (defScope st) .none kV doc pm an cdv ct) ⟨us, []⟩ = pure ((["self"] : List Str).zip us))
    (hbody : ∀ (f : Addr) (cdv : Value) (A : Around) (outer : List Env) (s : Shared) (H : Hp) (vs : List V) (Q : VK) (E : XK), Room k (A.deeper (envOfC qual (defScope st) s.heap.objs.size f cdv)) → sp vs H Q E →
      ∃ t, PSs (cxOf CX0 P w K mg base N qual (defScope st) f cdv A outer s H E).nox (defBody st) t ∧ t { nx := fun _ H' => Q .non H', rt := Q } (start N vs) H) : Pr0 P w K mg base (k + 1) C m sp := by
  obtain ⟨p, f, fd, hm, F⟩ := F
  exact ⟨p, f, fd, hm, F.binds hb, F.ok S len (hbody f)⟩
end
end Rk
set_option Elab.async false
set_option linter.all false
set_option maxRecDepth 100000
set_option maxHeartbeats 4000000
/-! Steps through a body's meaning. -/
namespace Rk
open PySem PySem.Spec PyProof.Rows L2
section
variable {σ : L2.St} {H : Hp} {D : Ends} {Q : VK} {QA : List V → Hp → Prop} {QB : Bool → Hp → Prop} {te ta tb tc : TE} {t u : TS} {c d : TT} {as tr : TA} {K : PySem.W.Frag}
def LcW (J : L2.It) (g : TG) (tt : TT) (te : TE) (vs : List Nat) (σ : L2.St) (H1 : Hp) (D : Addr) (Qd : Hp → Prop) : Prop := ∃ W : Nat → Nat → Hp → Prop, (∃ m, W 0 m (upd H1 D (.lst []))) ∧ ∀ i m H, W i m H →
  (J.stop i H ∧ Qd H) ∨ (J.go i H ∧ ∃ Nx : Hp → Prop, (∀ H', Nx H' → ∃ m', m' < m ∧ W (i + 1) m' H') ∧ ∀ x H', J.yld i H x H' → g x (wipe σ vs) H' fun σ2 H2 => wipe σ2 vs = wipe σ vs ∧ tt σ2 H2 fun b H3 =>
    if b = true then te σ2 H3 fun y H4 => ∃ acc, H4 D = some (.lst acc) ∧ acc.length < sizeLine ∧ Nx (upd H4 D (.lst (acc ++ [y]))) else Nx H3)
def ForW (J : L2.It) (g : TG) (tb : TS) (D : Ends) (σ : L2.St) (H1 : Hp) : Prop := ∃ W : Nat → Nat → L2.St → Hp → Prop, (∃ m, W 0 m σ H1) ∧ ∀ i m σ H, W i m σ H →
  (J.stop i H ∧ D.nx σ H) ∨ (J.go i H ∧ ∃ N : L2.St → Hp → Prop, (∀ σ' H', N σ' H' → ∃ m', m' < m ∧ W (i + 1) m' σ' H') ∧ ∀ x H', J.yld i H x H' → g x σ H' fun σ2 H2 => tb { D with nx := N, ct := N, bk := D.nx } σ2 H2)
def WhB (t : TS) (D : Ends) (m : Nat) (W : Nat → L2.St → Hp → Prop) (σ : L2.St) (H1 : Hp) : Prop := ∃ N : L2.St → Hp → Prop, (∀ σ' H', N σ' H' → ∃ m', m' < m ∧ W m' σ' H') ∧ t { D with nx := N, ct := N, bk := D.nx } σ H1
theorem i_seq (h : t { D with nx := u D } σ H) : tSeq t u D σ H := h
theorem i_next (h : D.nx σ H) : tNext D σ H := h
theorem i_break (h : D.bk σ H) : tBreak D σ H := h
theorem i_drop (h : te σ H fun _ H1 => D.nx σ H1) : tDrop te D σ H := h
theorem i_ret (h : te σ H D.rt) : tRet te D σ H := h
theorem i_retN (h : D.rt .non H) : tRetN D σ H := h
theorem i_if (h : c σ H fun b H1 => if b = true then t D σ H1 else u D σ H1) : tIfS c t u D σ H := h
theorem i_asg {g : TG} (h : te σ H fun x H1 => g x σ H1 D.nx) : tAsg te g D σ H := h
theorem i_name {i : Nat} {v : V} {P : L2.St → Hp → Prop} (h : P (σ.set i (some v)) H) : gName i v σ H P := h
theorem i_var {i : Nat} {v : V} (e : σ[i]? = some (some v)) (h : Q v H) : tVar i σ H Q := ⟨v, e, h⟩
theorem i_c {v : V} (h : Q v H) : tC v σ H Q := h
theorem i_op {r : R2} (h : ta σ H fun x H1 => tb σ H1 fun y H2 => r x y H2 Q) : tOp r ta tb σ H Q := h
theorem i_un {r : V → Hp → VK → Prop} (h : ta σ H fun x H1 => r x H1 Q) : tUn r ta σ H Q := h
theorem i_rI0 {g : Int → Int → V} {i j : Int} (h : Q (g i j) H) : rI0 g (.int i) (.int j) H Q := ⟨i, j, rfl, rfl, h⟩
theorem i_rI {C : Int → Int → Prop} {g : Int → Int → V} {i j : Int} (c : C i j) (h : Q (g i j) H) : rI C g (.int i) (.int j) H Q := ⟨i, j, rfl, rfl, c, h⟩
theorem i_rU {g : Int → V} {i : Int} (h : Q (g i) H) : rU g (.int i) H Q := ⟨i, rfl, h⟩
theorem i_eqI {i j : Int} (h : Q (.bl (decide (i = j))) H) : rEq (.int i) (.int j) H Q := ⟨rfl, by
  have e : decide (V.int i = V.int j) = decide (i = j) := by
    by_cases z : i = j
    · subst z; simp
    · rw [decide_eq_false z, decide_eq_false]; intro y; cases y; exact z rfl
  rw [e]; exact h⟩
theorem i_neI {i j : Int} (h : Q (.bl (!decide (i = j))) H) : rNe (.int i) (.int j) H Q := ⟨rfl, by
  have e : decide (V.int i = V.int j) = decide (i = j) := by
    by_cases z : i = j
    · subst z; simp
    · rw [decide_eq_false z, decide_eq_false]; intro y; cases y; exact z rfl
  rw [e]; exact h⟩
theorem i_eqS {i j : Str} (h : Q (.bl (decide (i = j))) H) : rEq (.str i) (.str j) H Q := ⟨rfl, by
  have e : decide (V.str i = V.str j) = decide (i = j) := by
    by_cases z : i = j
    · subst z; simp
    · rw [decide_eq_false z, decide_eq_false]; intro y; cases y; exact z rfl
  rw [e]; exact h⟩
theorem i_neS {i j : Str} (h : Q (.bl (!decide (i = j))) H) : rNe (.str i) (.str j) H Q := ⟨rfl, by
  have e : decide (V.str i = V.str j) = decide (i = j) := by
    by_cases z : i = j
    · subst z; simp
    · rw [decide_eq_false z, decide_eq_false]; intro y; cases y; exact z rfl
  rw [e]; exact h⟩
theorem i_test (h : te σ H fun x H' => ∃ k, x = .bl k ∧ QB k H') : tTest te σ H QB := h
theorem i_b (h : te σ H fun x H' => ∃ k, x = .bl k ∧ QB k H') : tB te σ H QB := h
theorem i_bl {b : Bool} {P : Bool → Prop} (h : P b) : ∃ k, V.bl b = V.bl k ∧ P k := ⟨b, rfl, h⟩
theorem i_and (h : c σ H fun b H1 => if b = true then d σ H1 QB else QB false H1) : tAnd c d σ H QB := h
theorem i_or (h : c σ H fun b H1 => if b = true then QB true H1 else d σ H1 QB) : tOr c d σ H QB := h
theorem i_not (h : c σ H fun b H1 => QB (!b) H1) : tNot c σ H QB := h
theorem i_andV (h : ta σ H fun x H1 => ∃ c, x = .bl c ∧ if c = true then tb σ H1 Q else Q (.bl false) H1) : tAndV ta tb σ H Q := h
theorem i_orV (h : ta σ H fun x H1 => ∃ c, x = .bl c ∧ if c = true then Q (.bl true) H1 else tb σ H1 Q) : tOrV ta tb σ H Q := h
theorem i_notV (h : ta σ H fun x H1 => ∃ c, x = .bl c ∧ Q (.bl (!c)) H1) : tNotV ta σ H Q := h
theorem i_ifE (h : c σ H fun b H1 => if b = true then ta σ H1 Q else tb σ H1 Q) : tIf c ta tb σ H Q := h
theorem i_chain {r r' : R2} (h : ta σ H fun x H1 => tb σ H1 fun y H2 => r x y H2 fun z H3 => ∃ k, z = .bl k ∧ (if k = true then tc σ H3 fun w' H4 => r' y w' H4 Q else Q (.bl false) H3)) : tChain r r' ta tb tc σ H Q := h
theorem i_itt {a b : Prop} (h : a) : if true = true then a else b := by simpa using h
theorem i_itf {a b : Prop} (h : b) : if false = true then a else b := by simpa using h
theorem i_nt {a b : Prop} (h : b) : if (!true) = true then a else b := by simpa using h
theorem i_nf {a b : Prop} (h : a) : if (!false) = true then a else b := by simpa using h
theorem i_nil (h : QA [] H) : tNil σ H QA := h
theorem i_cons (h : ta σ H fun x H1 => tr σ H1 fun xs H2 => QA (x :: xs) H2) : tCons ta tr σ H QA := h
theorem i_cb {r : List V → Hp → VK → Prop} (h : as σ H fun vs H1 => r vs H1 Q) : tCB r as σ H Q := h
theorem i_call {sp : Sp} {E : XK} (h : as σ H fun vs H1 => sp vs H1 Q E) : tCall sp [] E as σ H Q := by
  show as σ H fun vs H1 => sp (vs ++ []) H1 Q E
  simpa only [List.append_nil] using h
theorem i_meth {C : Addr} {m : Str} {sp : Sp} {E : XK} (h : ta σ H fun x H1 => ∃ a dx fs, x = .ref a ∧ H1 a = some (.ins C dx fs) ∧ fs.lookup m = none ∧ as σ H1 fun vs H2 => sp (x :: vs) H2 Q E) : tMeth C m sp [] E ta as σ H Q := by
  show ta σ H fun x H1 => ∃ a dx fs, x = .ref a ∧ H1 a = some (.ins C dx fs) ∧ fs.lookup m = none ∧ as σ H1 fun vs H2 => sp (x :: (vs ++ [])) H2 Q E
  simpa only [List.append_nil] using h
theorem i_fld {f : Str} (h : ta σ H fun x H1 => ∃ a C dx fs v, x = .ref a ∧ H1 a = some (.ins C dx fs) ∧ Cls K C ∧ NoAttr K C f ∧ fs.lookup f = some v ∧ Q v H1) : tFld K ta f σ H Q := h
theorem i_tup (h : as σ H fun xs H1 => xs.length ≤ sizeLine ∧ ∀ p, H1 p = none → Q (.ref p) (upd H1 p (.tup xs))) : tTup as σ H Q := h
theorem i_lst (h : as σ H fun xs H1 => xs.length ≤ sizeLine ∧ ∀ p, H1 p = none → Q (.ref p) (upd H1 p (.lst xs))) : tLst as σ H Q := h
theorem i_par {i j : Nat} (h : as σ H fun vs H1 => ∃ v w, vs = [v, w] ∧ D.nx ((σ.set i (some v)).set j (some w)) H1) : tPar i j as D σ H := h
theorem i_gtup {n : Nat} {g : TGs} {v : V} {P : L2.St → Hp → Prop} (h : ∃ a xs, v = .ref a ∧ SqT K H a xs ∧ xs.length = n ∧ g xs σ H P) : gTup K n g v σ H P := h
theorem i_gcons {g : TG} {gs : TGs} {v : V} {vs : List V} {P : L2.St → Hp → Prop} (h : g v σ H fun σ' H' => gs vs σ' H' P) : gCons g gs (v :: vs) σ H P := ⟨v, vs, rfl, h⟩
theorem i_gnil {P : L2.St → Hp → Prop} (h : P σ H) : gNil [] σ H P := ⟨rfl, h⟩
theorem i_prop {C : Addr} {sp : Sp} {E : XK} (h : ta σ H fun x H1 => ∃ a dx fs, x = .ref a ∧ H1 a = some (.ins C dx fs) ∧ sp [.ref a] H1 Q E) : tProp C sp [] E ta σ H Q := h
theorem i_aug {i : Nat} {x : V} {ti : TIp} (e : σ[i]? = some (some x)) (h : te σ H fun y H1 => ti x y H1 fun z H2 => D.nx (σ.set i (some z)) H2) : tAug i te ti D σ H := ⟨x, e, h⟩
theorem i_ipI {g : Int → Int → Int} {i j : Int} {Q : VK} (h : Q (.int (g i j)) H) : ipI g (.int i) (.int j) H Q := ⟨i, j, rfl, rfl, h⟩
theorem i_make {C : Addr} {sp : Sp} {E : XK} (h : as σ H fun vs H1 => ∀ x dx, H1 x = none → H1 dx = none → dx ≠ x → sp (.ref x :: vs) (upd (upd H1 dx (.own x)) x (.ins C dx [])) (fun v H2 => v = .non ∧ Q (.ref x) H2) E) : tMake C sp [] E as σ H Q := by
  show as σ H fun vs H1 => ∀ x dx, H1 x = none → H1 dx = none → dx ≠ x → sp (.ref x :: (vs ++ [])) (upd (upd H1 dx (.own x)) x (.ins C dx [])) (fun v H2 => v = .non ∧ Q (.ref x) H2) E
  simpa only [List.append_nil] using h
theorem i_sl {r : V → Option Int → Option Int → Hp → VK → Prop} {tl th : TO} (h : te σ H fun x H1 => tl σ H1 fun l H2 => th σ H2 fun u H3 => r x l u H3 Q) : tSl r te tl th σ H Q := h
theorem i_noPart {Q : Option Int → Hp → Prop} (h : Q none H) : tNoPart σ H Q := h
theorem i_part {Q : Option Int → Hp → Prop} (h : te σ H fun x H1 => ∃ i, x = .int i ∧ Q (some i) H1) : tPart te σ H Q := h
theorem i_int {i : Int} {P : Int → Prop} (h : P i) : ∃ j, V.int i = V.int j ∧ P j := ⟨i, rfl, h⟩
theorem i_bm {T : String} {r : V → List V → Hp → VK → Prop} (h : te σ H fun x H1 => tyV K T x H1 ∧ as σ H1 fun xs H2 => r x xs H2 Q) : tBM K T r te as σ H Q := h
theorem i_bm0 {T : String} {r : V → List V → Hp → VK → Prop} (h : te σ H fun x H1 => tyV K T x H1 ∧ r x [] H1 Q) : tBM0 K T r te σ H Q := h
theorem i_lc {wi : TI} {g : TG} {tt : TT} {vs : List Nat} (h : wi σ H fun J H1 => ∀ D, H1 D = none → LcW J g tt te vs σ H1 D (Q (.ref D))) : tLc wi g tt te vs σ H Q := h
theorem i_for {wi : TI} {g : TG} {tb : TS} (h : wi σ H fun J H1 => ForW J g tb D σ H1) : tFor wi g tb D σ H := h
theorem LcW.it {J : L2.It} {n : Nat} {G : Hp → Prop} {Y : Nat → Hp → V → Hp → Prop} {g : TG} {tt : TT} {vs : List Nat} {d : Addr} {Qd : Hp → Prop} (w : Walk J n G Y) (Pv : Nat → Hp → Prop) (h0 : Pv 0 (upd H d (.lst []))) (hG : ∀ i H, i ≤ n → Pv i H → G H)
    (hs : ∀ i x H H', i < n → Pv i H → Y i H x H' → g x (wipe σ vs) H' fun σ2 H2 => wipe σ2 vs = wipe σ vs ∧ tt σ2 H2 fun b H3 =>
      if b = true then te σ2 H3 fun y H4 => ∃ acc, H4 d = some (.lst acc) ∧ acc.length < sizeLine ∧ Pv (i + 1) (upd H4 d (.lst (acc ++ [y]))) else Pv (i + 1) H3) (hd : ∀ H, Pv n H → Qd H) : LcW J g tt te vs σ H d Qd := lc_it w Pv h0 hG hs hd
theorem ForW.it {J : L2.It} {n : Nat} {G : Hp → Prop} {Y : Nat → Hp → V → Hp → Prop} {g : TG} {tb : TS} (w : Walk J n G Y) (Pv : Nat → L2.St → Hp → Prop) (h0 : Pv 0 σ H) (hG : ∀ i σ H, i ≤ n → Pv i σ H → G H)
    (hs : ∀ i x σ H H', i < n → Pv i σ H → Y i H x H' → g x σ H' fun σ2 H2 => tb { D with nx := Pv (i + 1), ct := Pv (i + 1), bk := D.nx } σ2 H2) (hd : ∀ σ H, Pv n σ H → D.nx σ H) : ForW J g tb D σ H := for_it w Pv h0 hG hs hd
theorem i_iStr {R : L2.It → Hp → Prop} (h : te σ H fun v H1 => ∃ x, v = .str x ∧ R (Its x) H1) : iStr te σ H R := h
theorem i_iList {R : L2.It → Hp → Prop} (h : te σ H fun x H1 => ∃ a, x = .ref a ∧ (∃ xs, SqL K H1 a xs) ∧ R (Itl K a) H1) : iList K te σ H R := h
theorem i_iTup {R : L2.It → Hp → Prop} (h : te σ H fun x H1 => ∃ a, x = .ref a ∧ (∃ xs, SqT K H1 a xs) ∧ R (Itt K a) H1) : iTup K te σ H R := h
theorem i_rng1 {R : L2.It → Hp → Prop} (h : as σ H fun vs H1 => ∃ j : Int, vs = [.int j] ∧ -(2 ^ 62) ≤ j ∧ j < 2 ^ 62 ∧ R (Itr 0 j.toNat) H1) : iRng1 as σ H R := h
theorem i_rng2 {R : L2.It → Hp → Prop} (h : as σ H fun vs H1 => ∃ i j : Int, vs = [.int i, .int j] ∧ (-(2 ^ 62) ≤ i ∧ i < 2 ^ 62 ∧ -(2 ^ 62) ≤ j ∧ j < 2 ^ 62) ∧ R (Itr i (j - i).toNat) H1) : iRng2 as σ H R := h
theorem i_yes : QB true H → tYes σ H QB := id
theorem i_refE {a : Addr} {P : Addr → Prop} (h : P a) : ∃ b, V.ref a = V.ref b ∧ P b := ⟨a, rfl, h⟩
theorem i_strE {a : Str} {P : Str → Prop} (h : P a) : ∃ b, V.str a = V.str b ∧ P b := ⟨a, rfl, h⟩
theorem i_sfld {f : Str} (h : tb σ H fun y H1 => ta σ H1 fun x H2 => ∃ a C dx fs, x = .ref a ∧ H2 a = some (.ins C dx fs) ∧ Cls K C ∧ NoAttr K C f ∧ fs.length < 1000 ∧ D.nx σ (upd H2 a (.ins C dx (putF f y fs)))) : sFld K ta tb f D σ H := h
theorem i_dput (h : tc σ H fun v H1 => ta σ H1 fun x H2 => tb σ H2 fun y H3 => ∃ a H4, x = .ref a ∧ DPut H3 a y v H4 ∧ D.nx σ H4) : sDPut ta tb tc D σ H := h
theorem i_dget (h : ta σ H fun x H1 => tb σ H1 fun y H2 => ∃ a v, x = .ref a ∧ DGet H2 a y (some v) ∧ Q v H2) : tDGet ta tb σ H Q := h
theorem i_din (h : tb σ H fun y H1 => ta σ H1 fun x H2 => ∃ a o, x = .ref a ∧ DGet H2 a y o ∧ Q (.bl o.isSome) H2) : tDIn tb ta σ H Q := h
theorem i_dnotin (h : tb σ H fun y H1 => ta σ H1 fun x H2 => ∃ a o, x = .ref a ∧ DGet H2 a y o ∧ Q (.bl (!o.isSome)) H2) : tDNotIn tb ta σ H Q := h
theorem i_dnew (h : ∀ p, H p = none → Q (.ref p) (upd H p (.dT []))) : tDNewT σ H Q := h
theorem i_augS {tget : V → V → Hp → VK → Prop} {tip : TIp} {tset : TSet} (h : ta σ H fun o H1 => tb σ H1 fun i H2 => tget o i H2 fun x H3 => tc σ H3 fun y H4 => tip x y H4 fun z H5 => tset o i z H5 fun H6 => D.nx σ H6) : tAugS ta tb tc tget tip tset D σ H := h
theorem i_gsub {ts : TSet} {v : V} {P : L2.St → Hp → Prop} (h : ta σ H fun o H1 => tb σ H1 fun i H2 => ts o i v H2 fun H3 => P σ H3) : gSub ta tb ts v σ H P := h
theorem i_asg2 {g1 g2 : TG} (h : te σ H fun x H1 => g1 x σ H1 fun σ1 H2 => g2 x σ1 H2 D.nx) : tAsg2 te g1 g2 D σ H := h
theorem i_disp1 (h : ∀ p, H p = none → ta σ (upd H p (.dT [])) fun x H1 => tb σ H1 fun y H2 => H2 p = some (.dT []) ∧ ∃ b k, x = .ref b ∧ H2 b = some (.tup (k.map kV)) ∧ Q (.ref p) (upd H2 p (.dT [(k, y)]))) : tDisp1 ta tb σ H Q := h
theorem WhB.go {W : Nat → L2.St → Hp → Prop} {m : Nat} (h : t { D with nx := fun σ' H' => ∃ m', m' < m ∧ W m' σ' H', ct := fun σ' H' => ∃ m', m' < m ∧ W m' σ' H', bk := D.nx } σ H) : WhB t D m W σ H := ⟨_, fun _ _ z => z, h⟩
theorem i_while (W : Nat → L2.St → Hp → Prop) (m : Nat) (w0 : W m σ H) (h : ∀ m σ H, W m σ H → c σ H fun b H1 => if b = true then WhB t D m W σ H1 else D.nx σ H1) : tWhile c t D σ H := ⟨W, ⟨m, w0⟩, h⟩
theorem i_sfldaug {f : Str} {rd : V → V → Hp → VK → Prop} (h : ta σ H fun x H1 => ∃ a C dx fs v, x = .ref a ∧ H1 a = some (.ins C dx fs) ∧ Cls K C ∧ NoAttr K C f ∧ fs.lookup f = some v ∧
  tb σ H1 fun y H2 => rd v y H2 fun z H3 => ∃ dx' fs', H3 a = some (.ins C dx' fs') ∧ fs'.length < 1000 ∧ D.nx σ (upd H3 a (.ins C dx' (putF f z fs')))) : sFldAug K ta tb rd f D σ H := h
theorem i_gfld {f : Str} {v : V} {P : L2.St → Hp → Prop} (h : ta σ H fun x H1 => ∃ a C dx fs, x = .ref a ∧ H1 a = some (.ins C dx fs) ∧ Cls K C ∧ NoAttr K C f ∧ fs.length < 1000 ∧ P σ (upd H1 a (.ins C dx (putF f v fs)))) : gFld K ta f v σ H P := h
theorem i_ckw {r : List V → List V → Hp → VK → Prop} {tk : TA} (h : as σ H fun vs H1 => tk σ H1 fun zs H2 => r vs zs H2 Q) : tCKw r as tk σ H Q := h
theorem i_rAdd {i j : Int} {Q : VK} (h : Q (.int (i + j)) H) : rAdd (.int i) (.int j) H Q := ⟨i, j, rfl, rfl, h⟩
theorem i_par3 {i j l : Nat} (h : as σ H fun vs H1 => ∃ u v w, vs = [u, v, w] ∧ D.nx (((σ.set i (some u)).set j (some v)).set l (some w)) H1) : tPar3 i j l as D σ H := h
theorem i_iZip {R : L2.It → Hp → Prop} (h : as σ H fun vs H1 => ∃ a b xs ys, vs = [.ref a, .ref b] ∧ SqL K H1 a xs ∧ SqL K H1 b ys ∧ R (Itz K a b) H1) : iZip K as σ H R := h
/-- a block cut in two: M holds between -/
theorem i_cut (M : L2.St → Hp → Prop) (h2 : ∀ σ' H', M σ' H' → u D σ' H') (h1 : ∀ NX : L2.St → Hp → Prop, (∀ σ' H', M σ' H' → NX σ' H') → t { D with nx := NX } σ H) : tSeq t u D σ H := h1 (u D) h2
theorem i_ar {α : Type} {a : α} {p : Prop} (h : p) : a = a ∧ p := ⟨rfl, h⟩
theorem upd_none {H : Hp} {a b : Addr} {o : HO} (h : upd H a o b = Option.none) : b ≠ a ∧ H b = Option.none := by
  by_cases e : b = a
  · rw [e, upd_same] at h; cases h
  · exact ⟨e, (upd_ne e).symm.trans h⟩
theorem ty_list {K : PySem.W.Frag} {H : Hp} {p : Addr} {xs : List V} (h : H p = some (.lst xs)) : tyV K "list" (.ref p) H := .inl ⟨rfl, _, SqL.of h⟩
theorem ty_dT {K : PySem.W.Frag} {H : Hp} {p : Addr} {kvs : List (List Key × V)} (h : H p = some (.dT kvs)) : tyV K "dict" (.ref p) H := .inr (.inr (.inl ⟨rfl, .inr ⟨_, h⟩⟩))
theorem dnn : decide (V.non = V.non) = true := decide_eq_true rfl
theorem drn {a : Addr} : decide (V.ref a = V.non) = false := decide_eq_false fun z => nomatch z
theorem iteB {b : Bool} {p q : Prop} (h1 : b = true → p) (h2 : b = false → q) : if b = true then p else q := by
  cases b
  · exact h2 rfl
  · exact h1 rfl
theorem iteT {b : Bool} {p q : Prop} (e : b = true) (h : p) : if b = true then p else q := by rw [if_pos e]; exact h
theorem iteF {b : Bool} {p q : Prop} (e : b = false) (h : q) : if b = true then p else q := by rw [e, if_neg (by decide)]; exact h
end
section
variable {X : Cx}
/-- a class, a tuple of the module by its name -/
theorem pe_gr {x : Str} {a : Addr} {p : Pos} (hm : X.mg x = some (.ref a)) (hg : Gl X x := by rfl) (hd : (x == ("__debug__" : Str)) = false := by decide) : PE X (.Name x p) (tC (.ref a)) := pe_glob (v := .ref a) hg hm rfl hd
variable {K : PySem.W.Frag}
/-! the same with the text's part told by name: for a comprehension's block -/
theorem pg_tupK {es : List Expr} {k n : Nat} {t : TGs} {pos : Pos} (hK : X.K = K) (hc : X.calm = true) (h : PGs X es t) (hn : (assignEach es X.env).length = n := by rfl) (hst : (assignEach es X.env).findIdx? (·.1) = none := by rfl) : PG X (.Tuple es k pos) (gTup K n t) := by
  subst hK
  exact pg_tup hc h hn hst
theorem pe_fldK {e : Expr} {f : Str} {pos : Pos} {ta : TE} (hK : X.K = K) (he : PE X e ta) (hab : attributeBase e f X.env (eval e X.env) = eval e X.env := by rfl) : PE X (.Attribute e f pos) (tFld K ta f) := by
  subst hK
  exact pe_fld he hab
theorem ix_tupK (hK : X.K = K) : IxR X (rIxT K) := by subst hK; exact ix_tup
theorem ix_listK (hK : X.K = K) : IxR X (rIxL K) := by subst hK; exact ix_list
def rListK (K : PySem.W.Frag) : List V → Hp → VK → Prop := fun xs H Q => ∃ p ys, xs = [V.ref p] ∧ (SqL K H p ys ∨ SqT K H p ys) ∧ ∀ l, H l = none → Q (.ref l) (upd H l (.lst ys))
theorem call_list_ofK (hK : X.K = K) : CallR X (.type "list") (rListK K) := by subst hK; exact call_list_of
theorem pi_listK {tg e : Expr} {te : TE} (hK : X.K = K) (he : PE X e te) : PI X tg e (iList K te) := by subst hK; exact pi_list he
end
section
variable {K : PySem.W.Frag} {H : Hp} {p : Addr} {xs : List V} {i : Int} {v : V} {Q : VK}
theorem i_ixT (h : H p = some (.tup xs)) (e : atI xs i = some v) (q : Q v H) : rIxT K (.ref p) (.int i) H Q := ⟨p, xs, i, v, rfl, rfl, SqT.of h, e, q⟩
theorem i_ixL (h : H p = some (.lst xs)) (e : atI xs i = some v) (q : Q v H) : rIxL K (.ref p) (.int i) H Q := ⟨p, xs, i, v, rfl, rfl, SqL.of h, e, q⟩
end
end Rk
set_option Elab.async false
set_option linter.all false
set_option maxRecDepth 100000
set_option maxHeartbeats 1000000
/-! items -/
namespace Rk
open PySem PySem.Spec PyProof.Rows L2
local macro_rules | `(tactic| walk_at "go") => `(tactic| ((try dsimp only); repeat (first
  | with_reducible apply i_seq
  | ((with_reducible apply i_var); exact rfl)
  | with_reducible apply i_c
  | with_reducible apply i_cons
  | with_reducible apply i_nil
  | with_reducible apply i_call
  | with_reducible apply i_cb
  | with_reducible apply i_meth
  | with_reducible apply i_fld
  | with_reducible apply i_op
  | with_reducible apply i_rI0
  | with_reducible apply i_eqI
  | with_reducible apply i_neI
  | with_reducible apply i_eqS
  | with_reducible apply i_neS
  | with_reducible apply i_if
  | with_reducible apply i_test
  | with_reducible apply i_b
  | with_reducible apply i_bl
  | with_reducible apply i_int
  | with_reducible apply i_and
  | with_reducible apply i_or
  | with_reducible apply i_not
  | with_reducible apply i_andV
  | with_reducible apply i_orV
  | with_reducible apply i_notV
  | with_reducible apply i_ifE
  | with_reducible apply i_itt
  | with_reducible apply i_itf
  | with_reducible apply i_nt
  | with_reducible apply i_nf
  | with_reducible apply i_asg
  | with_reducible apply i_name
  | with_reducible apply i_ret
  | with_reducible apply i_retN
  | with_reducible apply i_drop
  | with_reducible apply i_next
  | with_reducible apply i_break
  | with_reducible apply i_un
  | with_reducible apply i_rU
  | with_reducible apply i_tup
  | with_reducible apply i_lst
  | with_reducible apply i_par
  | with_reducible apply i_chain
  | with_reducible apply i_gcons
  | with_reducible apply i_gnil
  | with_reducible apply i_prop
  | with_reducible apply i_make
  | ((with_reducible apply i_aug); exact rfl)
  | with_reducible apply i_ipI
  | with_reducible apply i_sl
  | with_reducible apply i_noPart
  | with_reducible apply i_part
  | with_reducible apply i_bm
  | with_reducible apply i_bm0
  | with_reducible apply i_lc
  | with_reducible apply i_for
  | with_reducible apply i_iStr
  | with_reducible apply i_iList
  | with_reducible apply i_iTup
  | with_reducible apply i_rng1
  | with_reducible apply i_rng2
  | with_reducible apply i_yes
  | with_reducible apply i_refE
  | with_reducible apply i_strE
  | with_reducible apply i_sfld
  | with_reducible apply i_dput
  | with_reducible apply i_dget
  | with_reducible apply i_din
  | with_reducible apply i_dnotin
  | with_reducible apply i_dnew
  | with_reducible apply i_augS
  | with_reducible apply i_gsub
  | with_reducible apply i_asg2
  | with_reducible apply i_disp1
  | with_reducible apply i_ar
  | with_reducible apply i_sfldaug
  | with_reducible apply i_gfld
  | with_reducible apply i_ckw
  | with_reducible apply i_rAdd
  | with_reducible apply i_par3
  | with_reducible apply i_iZip)))
/-! names and scopes -/
abbrev N_is_integer : List Str := ["thing"]
theorem sc_is_integer : FnScope N_is_integer ["thing"] (defScope s_is_integer) := ⟨rfl, rfl, rfl, by decide +kernel, rfl, by decide +kernel, by decide +kernel⟩
abbrev N_is_within : List Str := ["thing", "low", "high"]
theorem sc_is_within : FnScope N_is_within ["thing", "low", "high"] (defScope s_is_within) := ⟨rfl, rfl, rfl, by decide +kernel, rfl, by decide +kernel, by decide +kernel⟩
abbrev N_is_word : List Str := ["thing", "sign"]
theorem sc_is_word : FnScope N_is_word ["thing"] (defScope s_is_word) := ⟨rfl, rfl, rfl, by decide +kernel, rfl, by decide +kernel, by decide +kernel⟩
abbrev N_is_leaf : List Str := ["thing"]
theorem sc_is_leaf : FnScope N_is_leaf ["thing"] (defScope s_is_leaf) := ⟨rfl, rfl, rfl, by decide +kernel, rfl, by decide +kernel, by decide +kernel⟩
abbrev N_is_reference : List Str := ["thing", "size"]
theorem sc_is_reference : FnScope N_is_reference ["thing", "size"] (defScope s_is_reference) := ⟨rfl, rfl, rfl, by decide +kernel, rfl, by decide +kernel, by decide +kernel⟩
abbrev N_is_item : List Str := ["thing", "size"]
theorem sc_is_item : FnScope N_is_item ["thing", "size"] (defScope s_is_item) := ⟨rfl, rfl, rfl, by decide +kernel, rfl, by decide +kernel, by decide +kernel⟩
abbrev N_is_box : List Str := ["item"]
theorem sc_is_box : FnScope N_is_box ["item"] (defScope s_is_box) := ⟨rfl, rfl, rfl, by decide +kernel, rfl, by decide +kernel, by decide +kernel⟩
abbrev N_pair_of : List Str := ["one", "other"]
theorem sc_pair_of : FnScope N_pair_of ["one", "other"] (defScope s_pair_of) := ⟨rfl, rfl, rfl, by decide +kernel, rfl, by decide +kernel, by decide +kernel⟩
abbrev N_check_sign : List Str := ["thing"]
theorem sc_check_sign : FnScope N_check_sign ["thing"] (defScope s_check_sign) := ⟨rfl, rfl, rfl, by decide +kernel, rfl, by decide +kernel, by decide +kernel⟩
/-! promises -/
def spInt : Sp := fun vs H Q _ => ∃ v k, vs = [v] ∧ KdV H v k ∧ k ≠ "list" ∧ Q (.bl (decide (k = "int"))) H
def spWithin : Sp := fun vs H Q _ => ∃ n a b : Int, vs = [.int n, .int a, .int b] ∧ Q (.bl (decide (a ≤ n ∧ n ≤ b))) H
/-- a word, or another thing that is no text -/
def spWord : Sp := fun vs H Q _ => ∃ v k, vs = [v] ∧ KdV H v k ∧ k ≠ "list" ∧ (∀ s, v = .str s → OkW s) ∧ ∀ H', Kp [] H H' → Q (.bl (decide (k = "str"))) H'
def isLeaf : It → Bool
  | .b _ => false
  | _ => true
def spLeaf : Sp := fun vs H Q _ => ∃ (n : Nat) (i : It) (v : V), vs = [v] ∧ ItV H i v ∧ ItOk n i ∧ ∀ H', Kp [] H H' → Q (.bl (isLeaf i)) H'
def spRef : Sp := fun vs H Q _ => ∃ (n m : Nat) (v : V), vs = [v, .int n] ∧ ItV H (.b m) v ∧ m < n ∧ Q (.bl true) H
def spItem : Sp := fun vs H Q _ => ∃ (n : Nat) (i : It) (v : V), vs = [v, .int n] ∧ ItV H i v ∧ ItOk n i ∧ ∀ H', Kp [] H H' → Q (.bl true) H'
def spBox : Sp := fun vs H Q _ => ∃ (i : It) (v : V), vs = [v] ∧ ItV H i v ∧ Q (.bl (!isLeaf i)) H
/-- what stands for a pair of boxes, or None: new -/
def PairQ (H : Hp) (o : Option Pr) (Q : VK) : Prop := match o with
  | none => Q .non H
  | some p => ∀ a, H a = none → Q (.ref a) (upd H a (.tup [.int p.1, .int p.2]))
theorem PairQ.none {H : Hp} {Q : VK} (h : Q .non H) : PairQ H Option.none Q := h
theorem PairQ.some {H : Hp} {p : Pr} {Q : VK} (h : ∀ a, H a = Option.none → Q (.ref a) (upd H a (.tup [.int p.1, .int p.2]))) : PairQ H (Option.some p) Q := h
def spPair : Sp := fun vs H Q _ => ∃ (n : Nat) (i j : It) (v u : V), vs = [v, u] ∧ ItV H i v ∧ ItV H j u ∧ ItOk n i ∧ ItOk n j ∧ PairQ H (pairOf i j) Q
def spSign : Sp := fun vs H Q _ => ∃ s, vs = [.str s] ∧ s ∈ (["<", "<=", ">", ">="] : List Str) ∧ Q .non H
section
variable {P : Program} {w : World} {K : PySem.W.Frag} {mg : Str → Option Value} {base : Heap} {cV cO cH : Addr}
theorem ok_is_integer (T : Txt K mg cV cO cH) : Fn0 P w K mg base 1 "is_integer" ["thing"] spInt := by
  refine T.d_is_integer.ok sc_is_integer (fun vs H Q E h => ?_) (fun _ _ _ _ _ _ us hl => match us, hl with | [_], _ => rfl) (fun f cdv A outer s H vs Q E hr h => ?_)
  · obtain ⟨_, _, rfl, _⟩ := h
    rfl
  · obtain ⟨v, k, rfl, hk, hn, q⟩ := h
    refine ⟨_, (pss_one (ps_ret (pe_and (pe_bf call_isi T.f_isinstance (pa_cons (pv 0) (pa_cons (pe_ty (T := "int") T.f_int) pa_nil))) (pe_one (pe_not (pe_bf call_isi T.f_isinstance (pa_cons (pv 0) (pa_cons (pe_ty (T := "bool") T.f_bool) pa_nil)))))))), ?_⟩
    walk_at "go"
    cases hk with
    | int i =>
      refine isi (.int _) (b := true) rfl ?_
      walk_at "go"
      refine isi (.int _) (b := false) rfl ?_
      walk_at "go"
      exact q
    | str z =>
      refine isi (.str _) (b := false) rfl ?_
      walk_at "go"
      exact q
    | tup h =>
      refine isi (.tup h) (b := false) rfl ?_
      walk_at "go"
      exact q
    | lst h => exact absurd rfl hn
theorem ok_is_within (T : Txt K mg cV cO cH) : Fn0 P w K mg base 2 "is_within" ["thing", "low", "high"] spWithin := by
  have h_is_integer := ok_is_integer (P := P) (w := w) (base := base) T
  refine T.d_is_within.ok sc_is_within (fun vs H Q E h => ?_) (fun _ _ _ _ _ _ us hl => match us, hl with | [_, _, _], _ => rfl) (fun f cdv A outer s H vs Q E hr h => ?_)
  · obtain ⟨_, _, _, rfl, _⟩ := h
    rfl
  · obtain ⟨n, a, b, rfl, q⟩ := h
    refine ⟨_, (pss_one (ps_ret (pe_and (pe_fn h_is_integer hr (by decide) rfl (pa_cons (pv 0) pa_nil)) (pe_one (pe_chain op_le op_le (pv 1) (pv 0) (pv 2)))))), ?_⟩
    walk_at "go"
    refine ⟨_, _, rfl, .int _, by decide, ?_⟩
    walk_at "go"
    refine iteT (by decide) ?_
    walk_at "go"
    refine iteB (fun e => ?_) (fun e => ?_)
    · walk_at "go"
      have e1 := of_decide_eq_true e
      rw [show decide (a ≤ n ∧ n ≤ b) = decide (n ≤ b) by simp [e1]] at q
      exact q
    · have e1 := of_decide_eq_false e
      rw [show decide (a ≤ n ∧ n ≤ b) = false by simp [e1]] at q
      exact q
theorem ok_is_box (T : Txt K mg cV cO cH) : Fn0 P w K mg base 1 "is_box" ["item"] spBox := by
  refine T.d_is_box.ok sc_is_box (fun vs H Q E h => ?_) (fun _ _ _ _ _ _ us hl => match us, hl with | [_], _ => rfl) (fun f cdv A outer s H vs Q E hr h => ?_)
  · obtain ⟨_, _, rfl, _⟩ := h
    rfl
  · obtain ⟨i, v, rfl, hi, q⟩ := h
    refine ⟨_, (pss_one (ps_ret (pe_bf call_isi T.f_isinstance (pa_cons (pv 0) (pa_cons (pe_ty (T := "tuple") T.f_tuple) pa_nil))))), ?_⟩
    walk_at "go"
    cases i with
    | i n => exact isi hi.kd (b := false) rfl q
    | w z => exact isi hi.kd (b := false) rfl q
    | b m => exact isi hi.kd (b := true) rfl q
theorem ok_check_sign (T : Txt K mg cV cO cH) : Fn0 P w K mg base 1 "check_sign" ["thing"] spSign := by
  refine T.d_check_sign.ok sc_check_sign (fun vs H Q E h => ?_) (fun _ _ _ _ _ _ us hl => match us, hl with | [_], _ => rfl) (fun f cdv A outer s H vs Q E hr h => ?_)
  · obtain ⟨_, rfl, _⟩ := h
    rfl
  · obtain ⟨z, rfl, hz, q⟩ := h
    obtain ⟨a, g_SIGNS, hS⟩ := T.g_SIGNS
    refine ⟨_, (pss_one (ps_if (PW.pt (pw_or (pt_not (pt_val (pe_bf call_isi T.f_isinstance (pa_cons (pv 0) (pa_cons (pe_ty (T := "str") T.f_str) pa_nil))))) (pw_or1 (pt_cmpR op_notIn_seq (pv 0) (pe_gr g_SIGNS) (by rfl)))))
      (pss_one (ps_never))
      pss_nil)), ?_⟩
    walk_at "go"
    refine isi (.str _) (b := true) rfl ?_
    walk_at "go"
    refine ⟨_, _, rfl, .inr (hS H), rfl, by decide +kernel, ?_⟩
    have e : inV (.str z) [.str "<", .str "<=", .str ">", .str ">="] = true := by
      simp only [List.mem_cons, List.not_mem_nil, or_false] at hz
      rcases hz with rfl | rfl | rfl | rfl <;> decide +kernel
    walk_at "go"
    rw [e]
    exact q
theorem ok_pair_of (T : Txt K mg cV cO cH) : Fn0 P w K mg base 2 "pair_of" ["one", "other"] spPair := by
  have h_is_box := ok_is_box (P := P) (w := w) (base := base) T
  refine T.d_pair_of.ok sc_pair_of (fun vs H Q E h => ?_) (fun _ _ _ _ _ _ us hl => match us, hl with | [_, _], _ => rfl) (fun f cdv A outer s H vs Q E hr h => ?_)
  · obtain ⟨_, _, _, _, _, rfl, _⟩ := h
    rfl
  · obtain ⟨n, i, j, v, u, rfl, hi, hj, oi, oj, q⟩ := h
    refine ⟨_, (pss_cons (ps_if (PW.pt (pw_or (pt_cmpR (op_eqD hr.units) (pv 0) (pv 1) (nomark _)) (pw_or (pt_not (pt_val (pe_fn h_is_box hr (by decide) rfl (pa_cons (pv 0) pa_nil)))) (pw_or1 (pt_not (pt_val (pe_fn h_is_box hr (by decide) rfl (pa_cons (pv 1) pa_nil))))))))
      (pss_one (ps_ret pe_non))
      pss_nil)
    (pss_one (ps_ret (pe_tup (pa_cons (pe_ix ix_tup (pv 0) pe_int (fun _ _ => rfl)) (pa_cons (pe_ix ix_tup (pv 1) pe_int (fun _ _ => rfl)) pa_nil)))))), ?_⟩
    walk_at "go"
    refine ⟨_, _, hi.dp, hj.dp, dt_shaped i oi, dt_shaped j oj, ?_⟩
    rw [dt_eqv]
    walk_at "go"
    refine iteB (fun e => ?_) (fun e => ?_)
    · walk_at "go"
      have e1 : pairOf i j = none := by
        unfold pairOf
        cases i <;> cases j <;> simp_all
      rw [e1] at q
      exact q
    have ne : i ≠ j := of_decide_eq_false e
    walk_at "go"
    refine ⟨i, v, rfl, hi, ?_⟩
    walk_at "go"
    cases i with
    | i n =>
      walk_at "go"
      refine iteT rfl ?_
      walk_at "go"
      exact q
    | w n =>
      refine iteT rfl ?_
      walk_at "go"
      exact q
    | b x =>
      refine iteF rfl ?_
      walk_at "go"
      refine ⟨j, u, rfl, hj, ?_⟩
      walk_at "go"
      cases j with
      | i n =>
        refine iteT rfl ?_
        walk_at "go"
        exact q
      | w n =>
        refine iteT rfl ?_
        walk_at "go"
        exact q
      | b y =>
        obtain ⟨a, rfl, ha⟩ := hi
        obtain ⟨b, rfl, hb⟩ := hj
        refine iteF rfl ?_
        walk_at "go"
        refine i_ixT ha rfl ?_
        walk_at "go"
        refine i_ixT hb rfl ?_
        walk_at "go"
        refine ⟨by show 2 ≤ sizeLine; decide, fun p hp => ?_⟩
        have e1 : pairOf (.b x) (.b y) = some (x, y) := by
          unfold pairOf
          have : x ≠ y := fun z => ne (by rw [z])
          simp [this]
        rw [e1] at q
        exact q p hp
theorem kd_ne : ∀ i : It, kdOf i ≠ "list"
  | .i _ => show ("int" : String) ≠ "list" by decide
  | .w _ => show ("str" : String) ≠ "list" by decide
  | .b _ => show ("tuple" : String) ≠ "list" by decide
theorem ok_is_word (T : Txt K mg cV cO cH) : Fn0 P w K mg base 1 "is_word" ["thing"] spWord := by
  refine T.d_is_word.ok sc_is_word (fun vs H Q E h => ?_) (fun _ _ _ _ _ _ us hl => match us, hl with | [_], _ => rfl) (fun f cdv A outer s H vs Q E hr h => ?_)
  · obtain ⟨_, _, rfl, _⟩ := h
    rfl
  · obtain ⟨v, k, rfl, hk, hn, hw, q⟩ := h
    refine ⟨_, (pss_one (ps_ret (pe_and (pe_bf call_isi T.f_isinstance (pa_cons (pv 0) (pa_cons (pe_ty (T := "str") T.f_str) pa_nil))) (pe_and (pe_cmpR op_le (pe_bf call_len_str T.f_len (pa_cons (pv 0) pa_nil)) (pe_gi T.g_MOST_LETTERS) (nomark _)) (pe_one (pe_bf (cr_all rfl) T.f_all (pa_cons (pe_lc (own := [("sign", 1)]) rfl sc_is_word.nd (pi_str (pv 0)) (blkOk_by (own := [("sign", 1)]) (N := N_is_word) (sc := defScope s_is_word) (by decide +kernel)) (fun _ _ _ _ _ => (pg_name (i := 1) sc_is_word.nd rfl (by first | exact Or.inl rfl | exact Or.inr rfl))) (fun _ _ _ _ _ => pts_nil) (fun _ _ _ _ _ => (pe_cmpR op_in_sign (pv 1) (pe_gs T.g_LETTERS) rfl))) pa_nil))))))), ?_⟩
    walk_at "go"
    cases hk with
    | int i =>
      refine isi (.int _) (b := false) rfl ?_
      walk_at "go"
      exact q H (Kp.refl _ _)
    | tup h =>
      refine isi (.tup h) (b := false) rfl ?_
      walk_at "go"
      exact q H (Kp.refl _ _)
    | lst h => exact absurd rfl hn
    | str z =>
      have hz := hw z rfl
      refine isi (.str _) (b := true) rfl ?_
      walk_at "go"
      have hl : z.cps.size ≤ 8 := hz.1
      refine ⟨z, rfl, Nat.le_trans hz.1 (by decide), ?_⟩
      walk_at "go"
      refine iteT (decide_eq_true (by have := hz.1; omega)) ?_
      walk_at "go"
      intro D hD
      refine LcW.it walk_str (fun i H' => Kp [D] H H' ∧ H' D = some (.lst ((List.replicate i true).map V.bl))) ⟨Kp.new hD, upd_same⟩ (fun _ _ _ _ => True.intro) ?_ ?_
      · rintro i x H1 H2 hi ⟨k1, e1⟩ ⟨rfl, c, hc, rfl⟩
        walk_at "go"
        refine ⟨rfl, ?_⟩
        walk_at "go"
        have h2 := hz.2 i c hc
        refine ⟨c, letters, rfl, rfl, ?_⟩
        rw [decide_eq_true h2]
        refine ⟨_, e1, by rw [List.length_map, List.length_replicate]; exact Nat.lt_of_lt_of_le hi (Nat.le_trans hl (by decide)), k1.wr' (List.mem_singleton.mpr rfl) e1 (fun _ z => nomatch z), ?_⟩
        rw [upd_same, List.replicate_succ', List.map_append]
        rfl
      · rintro H' ⟨k1, e1⟩
        walk_at "go"
        refine ⟨D, _, rfl, SqL.of e1, ?_⟩
        have e2 : (List.replicate z.cps.size true).all id = true := by simp
        rw [e2]
        exact q _ (k1.drop hD)
theorem ok_is_leaf (T : Txt K mg cV cO cH) : Fn0 P w K mg base 2 "is_leaf" ["thing"] spLeaf := by
  have h_is_integer := ok_is_integer (P := P) (w := w) (base := base) T
  have h_is_word := ok_is_word (P := P) (w := w) (base := base) T
  refine T.d_is_leaf.ok sc_is_leaf (fun vs H Q E h => ?_) (fun _ _ _ _ _ _ us hl => match us, hl with | [_], _ => rfl) (fun f cdv A outer s H vs Q E hr h => ?_)
  · obtain ⟨_, _, _, rfl, _⟩ := h
    rfl
  · obtain ⟨n, i, v, rfl, hi, oi, q⟩ := h
    refine ⟨_, (pss_one (ps_ret (pe_or (pe_fn h_is_integer hr (by decide) rfl (pa_cons (pv 0) pa_nil)) (pe_one (pe_fn h_is_word hr (by decide) rfl (pa_cons (pv 0) pa_nil)))))), ?_⟩
    walk_at "go"
    cases i with
    | i m =>
      refine ⟨v, _, rfl, hi.kd, kd_ne _, ?_⟩
      walk_at "go"
      refine iteT (show decide ("int" = "int") = true by decide) ?_
      exact q H (Kp.refl _ _)
    | w z =>
      refine ⟨v, _, rfl, hi.kd, kd_ne _, ?_⟩
      walk_at "go"
      refine iteF (show decide ("str" = "int") = false by decide) ?_
      walk_at "go"
      refine ⟨v, _, rfl, hi.kd, kd_ne _, fun s e => ?_, fun H' hH => q H' hH⟩
      obtain rfl : v = .str z := hi
      cases e
      exact oi
    | b m =>
      refine ⟨v, _, rfl, hi.kd, kd_ne _, ?_⟩
      walk_at "go"
      refine iteF (show decide ("tuple" = "int") = false by decide) ?_
      walk_at "go"
      refine ⟨v, _, rfl, hi.kd, kd_ne _, fun s e => ?_, fun H' hH => q H' hH⟩
      obtain ⟨a, rfl, _⟩ := hi
      cases e
theorem ok_is_reference (T : Txt K mg cV cO cH) : Fn0 P w K mg base 3 "is_reference" ["thing", "size"] spRef := by
  have h_is_within := ok_is_within (P := P) (w := w) (base := base) T
  refine T.d_is_reference.ok sc_is_reference (fun vs H Q E h => ?_) (fun _ _ _ _ _ _ us hl => match us, hl with | [_, _], _ => rfl) (fun f cdv A outer s H vs Q E hr h => ?_)
  · obtain ⟨_, _, _, rfl, _⟩ := h
    rfl
  · obtain ⟨n, m, v, rfl, hi, hm, q⟩ := h
    obtain ⟨a, rfl, ha⟩ := hi
    refine ⟨_, (pss_cons (ps_if (PW.pt (pw_or (pt_not (pt_val (pe_bf call_isi T.f_isinstance (pa_cons (pv 0) (pa_cons (pe_ty (T := "tuple") T.f_tuple) pa_nil))))) (pw_or (pt_cmpR op_ne (pe_bf call_len_seq T.f_len (pa_cons (pv 0) pa_nil)) pe_int (nomark _)) (pw_or (pt_not (pt_val (pe_bf call_isi T.f_isinstance (pa_cons (pe_ix ix_tup (pv 0) pe_int (fun _ _ => rfl)) (pa_cons (pe_ty (T := "str") T.f_str) pa_nil))))) (pw_or1 (pt_cmpR op_ne (pe_ix ix_tup (pv 0) pe_int (fun _ _ => rfl)) (pe_gs T.g_BOX) (nomark _)))))))
      (pss_one (ps_ret pe_bl))
      pss_nil)
    (pss_one (ps_ret (pe_fn h_is_within hr (by decide) rfl (pa_cons (pe_ix ix_tup (pv 0) pe_int (fun _ _ => rfl)) (pa_cons pe_int (pa_cons (pe_op op_sub (pv 1) pe_int) pa_nil))))))), ?_⟩
    walk_at "go"
    refine isi (.tup ha) (b := true) rfl ?_
    walk_at "go"
    refine ⟨_, _, rfl, .inr (SqT.of ha), ?_⟩
    walk_at "go"
    refine iteF rfl ?_
    walk_at "go"
    refine i_ixT ha rfl ?_
    walk_at "go"
    refine isi (.str _) (b := true) rfl ?_
    walk_at "go"
    refine i_ixT ha rfl ?_
    walk_at "go"
    refine iteF (by decide +kernel) ?_
    walk_at "go"
    refine i_ixT ha rfl ?_
    walk_at "go"
    refine ⟨_, _, _, rfl, ?_⟩
    rw [decide_eq_true (by omega)]
    exact q
theorem ok_is_item (T : Txt K mg cV cO cH) : Fn0 P w K mg base 4 "is_item" ["thing", "size"] spItem := by
  have h_is_leaf := ok_is_leaf (P := P) (w := w) (base := base) T
  have h_is_reference := ok_is_reference (P := P) (w := w) (base := base) T
  refine T.d_is_item.ok sc_is_item (fun vs H Q E h => ?_) (fun _ _ _ _ _ _ us hl => match us, hl with | [_, _], _ => rfl) (fun f cdv A outer s H vs Q E hr h => ?_)
  · obtain ⟨_, _, _, rfl, _⟩ := h
    rfl
  · obtain ⟨n, i, v, rfl, hi, oi, q⟩ := h
    refine ⟨_, (pss_one (ps_ret (pe_or (pe_fn h_is_leaf hr (by decide) rfl (pa_cons (pv 0) pa_nil)) (pe_one (pe_fn h_is_reference hr (by decide) rfl (pa_cons (pv 0) (pa_cons (pv 1) pa_nil))))))), ?_⟩
    walk_at "go"
    refine ⟨n, i, v, rfl, hi, oi, fun H' hH => ?_⟩
    cases i with
    | i m =>
      walk_at "go"
      exact q H' hH
    | w z =>
      walk_at "go"
      exact q H' hH
    | b m =>
      walk_at "go"
      refine iteF rfl ?_
      walk_at "go"
      exact ⟨n, m, v, rfl, hi.kp hH, oi, q H' hH⟩
end
end Rk
set_option Elab.async false
set_option linter.all false
set_option maxRecDepth 100000
set_option maxHeartbeats 1000000
/-! verdicts -/
namespace Rk
open PySem PySem.Spec PyProof.Rows L2
local macro_rules | `(tactic| walk_at "go") => `(tactic| ((try dsimp only); repeat (first
  | with_reducible apply i_seq
  | ((with_reducible apply i_var); exact rfl)
  | with_reducible apply i_c
  | with_reducible apply i_cons
  | with_reducible apply i_nil
  | with_reducible apply i_call
  | with_reducible apply i_cb
  | with_reducible apply i_meth
  | with_reducible apply i_fld
  | with_reducible apply i_op
  | with_reducible apply i_rI0
  | with_reducible apply i_eqI
  | with_reducible apply i_neI
  | with_reducible apply i_eqS
  | with_reducible apply i_neS
  | with_reducible apply i_if
  | with_reducible apply i_test
  | with_reducible apply i_b
  | with_reducible apply i_bl
  | with_reducible apply i_int
  | with_reducible apply i_and
  | with_reducible apply i_or
  | with_reducible apply i_not
  | with_reducible apply i_andV
  | with_reducible apply i_orV
  | with_reducible apply i_notV
  | with_reducible apply i_ifE
  | with_reducible apply i_itt
  | with_reducible apply i_itf
  | with_reducible apply i_nt
  | with_reducible apply i_nf
  | with_reducible apply i_asg
  | with_reducible apply i_name
  | with_reducible apply i_ret
  | with_reducible apply i_retN
  | with_reducible apply i_drop
  | with_reducible apply i_next
  | with_reducible apply i_break
  | with_reducible apply i_un
  | with_reducible apply i_rU
  | with_reducible apply i_tup
  | with_reducible apply i_lst
  | with_reducible apply i_par
  | with_reducible apply i_chain
  | with_reducible apply i_gcons
  | with_reducible apply i_gnil
  | with_reducible apply i_prop
  | with_reducible apply i_make
  | ((with_reducible apply i_aug); exact rfl)
  | with_reducible apply i_ipI
  | with_reducible apply i_sl
  | with_reducible apply i_noPart
  | with_reducible apply i_part
  | with_reducible apply i_bm
  | with_reducible apply i_bm0
  | with_reducible apply i_lc
  | with_reducible apply i_for
  | with_reducible apply i_iStr
  | with_reducible apply i_iList
  | with_reducible apply i_iTup
  | with_reducible apply i_rng1
  | with_reducible apply i_rng2
  | with_reducible apply i_yes
  | with_reducible apply i_refE
  | with_reducible apply i_strE
  | with_reducible apply i_sfld
  | with_reducible apply i_dput
  | with_reducible apply i_dget
  | with_reducible apply i_din
  | with_reducible apply i_dnotin
  | with_reducible apply i_dnew
  | with_reducible apply i_augS
  | with_reducible apply i_gsub
  | with_reducible apply i_asg2
  | with_reducible apply i_disp1
  | with_reducible apply i_ar
  | with_reducible apply i_sfldaug
  | with_reducible apply i_gfld
  | with_reducible apply i_ckw
  | with_reducible apply i_rAdd
  | with_reducible apply i_par3
  | with_reducible apply i_iZip)))
/-! ### verdicts in the heap -/
def wdS : Wd → Str
  | .eq => "equal"
  | .un => "unlike"
  | .en => "endless"
def vdL (u : Vd) : List V := match u.w with
  | .en => [.str "endless", .non, .non, .int u.pl]
  | .un => [.str "unlike", .int u.s, .int u.d, .int u.pl]
  | .eq => [.str "equal", .int u.s, .int u.d, .int u.pl]
theorem vdL_en {u : Vd} (h : u.w = .en) : vdL u = [.str "endless", .non, .non, .int u.pl] ∧ u.fin = none := by
  obtain ⟨w, s, d, pl⟩ := u
  cases (show w = .en from h)
  exact ⟨rfl, rfl⟩
theorem vdL_fi {u : Vd} (h : ¬ u.w = .en) : vdL u = [.str (wdS u.w), .int u.s, .int u.d, .int u.pl] ∧ u.fin = some ⟨decide (u.w = .un), u.s, u.d⟩ ∧ decide (wdS u.w = "endless") = false ∧ decide (wdS u.w = "unlike") = decide (u.w = .un) := by
  obtain ⟨w, s, d, pl⟩ := u
  cases w with
  | en => exact absurd rfl h
  | eq => exact ⟨rfl, rfl, show decide (("equal" : Str) = "endless") = false by decide +kernel, show decide (("equal" : Str) = "unlike") = decide (Wd.eq = Wd.un) by decide +kernel⟩
  | un => exact ⟨rfl, rfl, show decide (("unlike" : Str) = "endless") = false by decide +kernel, show decide (("unlike" : Str) = "unlike") = decide (Wd.un = Wd.un) by decide +kernel⟩
def kk (p : Pr) : List Key := [.inl p.1, .inl p.2]
theorem kk_inj {p q : Pr} (h : kk p = kk q) : p = q := by
  obtain ⟨a, b⟩ := p
  obtain ⟨x, y⟩ := q
  simp only [kk, List.cons.injEq, Sum.inl.injEq, and_true] at h
  exact Prod.ext (Int.ofNat.inj h.1) (Int.ofNat.inj h.2)
/-- a tuple that stands for a pair -/
def PrAt (H : Hp) (t : Addr) (p : Pr) : Prop := H t = some (.tup [.int p.1, .int p.2])
theorem PrAt.kp {S : List Addr} {H H' : Hp} {t : Addr} {p : Pr} (h : PrAt H t p) (x : Kp S H H') : PrAt H' t p := x.t _ _ h
/-- the known verdicts -/
def KnD (H : Hp) (c : Ctn) (kn : List Pr) (kvs : List (List Key × V)) : Prop := Paired (fun p (kv : List Key × V) => kv.1 = kk p ∧ ∃ t, kv.2 = .ref t ∧ H t = some (.tup (vdL (VV c p)))) kn kvs
section
variable {S : List Addr} {H H' : Hp} {c : Ctn} {kn : List Pr} {kvs : List (List Key × V)} {p : Pr} {t : Addr}
theorem KnD.kp (h : KnD H c kn kvs) (x : Kp S H H') : KnD H' c kn kvs := pmap h fun _ _ z => ⟨z.1, z.2.elim fun t y => ⟨t, y.1, x.t _ _ y.2⟩⟩
theorem KnD.get_out (h : KnD H c kn kvs) (n : ¬ p ∈ kn) : valV kvs (kk p) = none := by
  unfold KnD at h
  induction h with
  | nil => rfl
  | @cons a b l k f r ih =>
    rw [valV_neg, ih fun z => n (List.mem_cons_of_mem _ z)]
    intro e
    exact n (List.mem_cons.mpr (.inl (kk_inj (e.symm.trans f.1))))
theorem KnD.get_in (h : KnD H c kn kvs) (n : p ∈ kn) : ∃ t, valV kvs (kk p) = some (.ref t) ∧ H t = some (.tup (vdL (VV c p))) := by
  unfold KnD at h
  induction h with
  | nil => cases n
  | @cons a b l k f r ih =>
    by_cases e : a = p
    · subst e
      obtain ⟨f1, t, f2, f3⟩ := f
      exact ⟨t, by rw [valV_pos f1, f2], f3⟩
    · rw [valV_neg fun z => e (kk_inj (f.1.symm.trans z))]
      exact ih ((List.mem_cons.mp n).resolve_left fun z => e z.symm)
theorem KnD.add (h : KnD H c kn kvs) (e : H t = some (.tup (vdL (VV c p)))) (n : ¬ p ∈ kn) : putK kvs (kk p) (.ref t) = kvs ++ [(kk p, .ref t)] ∧ KnD H c (kn ++ [p]) (kvs ++ [(kk p, .ref t)]) :=
  ⟨putK_new _ (h.get_out n), psnoc h ⟨rfl, t, rfl, e⟩⟩
end
def vf (l d : Addr) (D : Nat) : List (Str × V) := [("lists", .ref l), ("known", .ref d), ("deepest", .int (D : Nat))]
theorem vf_lists (l d : Addr) (D : Nat) : (vf l d D).lookup ("lists" : Str) = some (.ref l) := rfl
theorem vf_known (l d : Addr) (D : Nat) : (vf l d D).lookup ("known" : Str) = some (.ref d) := rfl
theorem vf_deep (l d : Addr) (D : Nat) : (vf l d D).lookup ("deepest" : Str) = some (.int D) := rfl
theorem vf_put (l d : Addr) (D D' : Nat) : putF "deepest" (.int D') (vf l d D) = vf l d D' := rfl
/-- Verdicts at v: its dict of the known at d, lists at l -/
structure VerS (H : Hp) (cV v d l : Addr) (as : List Addr) (c : Ctn) (kn : List Pr) (D : Nat) : Prop where
  ins : ∃ dx, H v = some (.ins cV dx (vf l d D))
  dct : ∃ kvs, H d = some (.dT kvs) ∧ KnD H c kn kvs
  lst : LstsAt H l as c
section
variable {S : List Addr} {H H' : Hp} {cV v d l : Addr} {as : List Addr} {c : Ctn} {kn : List Pr} {D : Nat}
theorem VerS.kp (h : VerS H cV v d l as c kn D) (x : Kp S H H') (n1 : ¬ v ∈ S) (n2 : ¬ d ∈ S) (n3 : ¬ l ∈ S) (n4 : ∀ a ∈ as, ¬ a ∈ S) : VerS H' cV v d l as c kn D := by
  obtain ⟨⟨dx, h1⟩, ⟨kvs, h2, h3⟩, h4⟩ := h
  exact ⟨⟨dx, x.k _ _ n1 h1⟩, ⟨kvs, x.k _ _ n2 h2, h3.kp x⟩, h4.kp x n3 n4⟩
theorem VerS.kp0 (h : VerS H cV v d l as c kn D) (x : Kp [] H H') : VerS H' cV v d l as c kn D := h.kp x (fun z => nomatch z) (fun z => nomatch z) (fun z => nomatch z) fun _ _ z => nomatch z
theorem VerS.rowL (h : VerS H cV v d l as c kn D) {a : Addr} (ha : a ∈ as) : ∃ xs, H a = some (.lst xs) := by
  obtain ⟨r, _, vs, e, _⟩ := pmem h.lst.2 ha
  exact ⟨vs, e⟩
theorem VerS.apart (h : VerS H cV v d l as c kn D) : v ≠ d ∧ l ≠ v ∧ l ≠ d ∧ ∀ a ∈ as, a ≠ v ∧ a ≠ d := by
  obtain ⟨dx, h1⟩ := h.ins
  obtain ⟨kvs, h2, h3⟩ := h.dct
  refine ⟨ne_of h1 h2 (fun z => nomatch z), ne_of h.lst.1 h1 (fun z => nomatch z), ne_of h.lst.1 h2 (fun z => nomatch z), fun a ha => ?_⟩
  obtain ⟨xs, e⟩ := h.rowL ha
  exact ⟨ne_of e h1 (fun z => nomatch z), ne_of e h2 (fun z => nomatch z)⟩
end
/-- what is true of the known verdicts; act: the pairs under way -/
structure VerM (c : Ctn) (kn act : List Pr) (D : Nat) : Prop where
  nd : kn.Nodup
  rg : ∀ p ∈ kn, p.1 < c.length ∧ p.2 < c.length
  kb : KnB c kn
  cl : ∀ p ∈ kn, ∀ q ∈ kidsOf c p, q ∈ kn ∨ q ∈ act
  dp : ∀ p ∈ kn, ∀ u, Vc c p = some u → u.d ≤ D
theorem VerM.add {c : Ctn} {kn act : List Pr} {D D' : Nat} {p : Pr} (h : VerM c kn act D) (n : ¬ p ∈ kn) (r : p.1 < c.length ∧ p.2 < c.length) (k : ∀ q ∈ kidsOf c p, q ∈ kn ∨ q ∈ act) (f : ∀ u, Vc c p = some u → (∀ q ∈ kidsOf c p, q ∈ kn) ∧ u.d ≤ D') (hD : D ≤ D') :
    VerM c (kn ++ [p]) act D' := by
  refine ⟨List.nodup_append.mpr ⟨h.nd, by simp, ?_⟩, fun q hq => ?_, h.kb.snoc fun v hv => (f v hv).1, fun q hq s hs => ?_, fun q hq u hu => ?_⟩
  · intro a ha b hb e
    rw [List.mem_singleton] at hb
    subst e hb
    exact n ha
  · rcases List.mem_append.mp hq with hq | hq
    · exact h.rg q hq
    · rw [List.mem_singleton] at hq
      subst hq
      exact r
  · rcases List.mem_append.mp hq with hq | hq
    · rcases h.cl q hq s hs with z | z
      · exact .inl (List.mem_append_left _ z)
      · exact .inr z
    · rw [List.mem_singleton] at hq
      subst hq
      rcases k s hs with z | z
      · exact .inl (List.mem_append_left _ z)
      · exact .inr z
  · rcases List.mem_append.mp hq with hq | hq
    · exact Nat.le_trans (h.dp q hq u hu) hD
    · rw [List.mem_singleton] at hq
      subst hq
      exact (f u hu).2
theorem VerM.nil (c : Ctn) : VerM c [] [] 0 := ⟨List.nodup_nil, fun _ h => (nomatch h), KnB.nil c, fun _ h => (nomatch h), fun _ h => (nomatch h)⟩
def dD (wd : Wd) (D dd : Nat) : Nat := match wd with
  | .en => D
  | _ => max D dd
def vdOf (wd : Wd) (s dd : Nat) (pl : Int) : Vd := match wd with
  | .en => ⟨.en, 0, 0, pl⟩
  | .un => ⟨.un, s, dd, pl⟩
  | .eq => ⟨.eq, s, dd, pl⟩
theorem max_nat (D dd : Nat) : (if ((dd : Nat) : Int) > (D : Nat) then ((dd : Nat) : Int) else (D : Nat)) = ((max D dd : Nat) : Int) := by
  by_cases z : dd > D
  · rw [if_pos (by omega), Nat.max_eq_right (by omega)]
  · rw [if_neg (by omega), Nat.max_eq_left (by omega)]
/-! ### names and scopes -/
abbrev N_Verdicts_init : List Str := ["self", "lists"]
theorem sc_Verdicts_init : FnScope N_Verdicts_init ["self", "lists"] (defScope s_Verdicts_init) := ⟨rfl, rfl, rfl, by decide +kernel, rfl, by decide +kernel, by decide +kernel⟩
abbrev N_Verdicts_decide : List Str := ["self", "frame", "word", "place"]
theorem sc_Verdicts_decide : FnScope N_Verdicts_decide ["self", "frame", "word", "place"] (defScope s_Verdicts_decide) := ⟨rfl, rfl, rfl, by decide +kernel, rfl, by decide +kernel, by decide +kernel⟩
/-! ### promises -/
def spVInit (cV : Addr) : Sp := fun vs H Q _ => ∃ (v l dx : Addr) (as : List Addr) (c : Ctn), vs = [.ref v, .ref l] ∧ H v = some (.ins cV dx []) ∧ LstsAt H l as c ∧
  ∀ H' d, H d = none → Kp [v] H H' → VerS H' cV v d l as c [] 0 → Q .non H'
def spDecide (cV : Addr) : Sp := fun vs H Q _ => ∃ (v d l f t : Addr) (as : List Addr) (c : Ctn) (kn : List Pr) (D : Nat) (p : Pr) (wd : Wd) (x1 : V) (s dd : Nat) (pl : Int), vs = [.ref v, .ref f, .str (wdS wd), .int pl] ∧ VerS H cV v d l as c kn D ∧
  H f = some (.lst [.ref t, x1, .int s, .int dd]) ∧ PrAt H t p ∧ ¬ p ∈ kn ∧ kn.length < 100000 ∧ VV c p = vdOf wd s dd pl ∧
  ∀ H', Kp [v, d] H H' → VerS H' cV v d l as c (kn ++ [p]) (dD wd D dd) → Q .non H'
section
variable {P : Program} {w : World} {K : PySem.W.Frag} {mg : Str → Option Value} {base : Heap} {cV cO cH : Addr}
theorem ok_Verdicts_init (T : Txt K mg cV cO cH) : Mk0 P w K mg base 1 "Verdicts" cV ["self", "lists"] (spVInit cV) := by
  refine T.d_Verdicts_init.ok T.gV sc_Verdicts_init (fun vs H Q E h => ?_) (fun _ _ _ _ _ _ us hl => match us, hl with | [_, _], _ => rfl) (fun f cdv A outer s H vs Q E hr h => ?_)
  · obtain ⟨_, _, _, _, _, rfl, _⟩ := h
    rfl
  · obtain ⟨v, l, dx, as, c, rfl, hv, hl, q⟩ := h
    refine ⟨_, (pss_cons (ps_fld (pv 0) (pv 1) rfl)
    (pss_cons (ps_fld (pv 0) pe_dnewT rfl)
    (pss_one (ps_fld (pv 0) pe_int rfl)))), ?_⟩
    walk_at "go"
    refine ⟨_, _, _, _, rfl, hv, T.clV, T.nV_lists, by decide, ?_⟩
    walk_at "go"
    intro d hd
    walk_at "go"
    have nvd : v ≠ d := by
      intro e
      rw [← e, upd_same] at hd
      cases hd
    have hd0 : H d = none := by rw [upd_ne nvd.symm] at hd; exact hd
    refine ⟨_, _, _, _, rfl, (upd_ne nvd).trans upd_same, T.clV, T.nV_known, by show 1 < 1000; decide, ?_⟩
    walk_at "go"
    refine ⟨_, _, _, _, rfl, upd_same, T.clV, T.nV_deepest, by show 2 < 1000; decide, ?_⟩
    have k1 : Kp [v] H (upd H v (.ins cV dx (putF "lists" (.ref l) []))) := Kp.wr (List.mem_singleton.mpr rfl) hv (fun _ z => nomatch z)
    have k2 := (k1.new' (o := .dT []) hd).wr' (o := .ins cV dx (putF "known" (.ref d) (putF "lists" (.ref l) []))) (List.mem_singleton.mpr rfl) ((upd_ne nvd).trans upd_same) (fun _ z => nomatch z)
    have k3 := k2.wr' (o := .ins cV dx (putF "deepest" (.int 0) (putF "known" (.ref d) (putF "lists" (.ref l) [])))) (List.mem_singleton.mpr rfl) upd_same (fun _ z => nomatch z)
    refine q _ d hd0 k3 ⟨⟨dx, upd_same⟩, ⟨[], ?_, .nil⟩, hl.kp k3 (fun z => ?_) fun a ha z => ?_⟩
    · rw [upd_ne nvd.symm, upd_ne nvd.symm, upd_same]
    · rw [List.mem_singleton] at z
      have e := hl.1
      rw [z, hv] at e
      cases e
    · rw [List.mem_singleton] at z
      obtain ⟨r, _, vs, e, _⟩ := pmem hl.2 ha
      rw [z, hv] at e
      cases e
theorem ok_Verdicts_decide (T : Txt K mg cV cO cH) : Mt0 P w K mg base 1 cV "decide" ["self", "frame", "word", "place"] (spDecide cV) := by
  refine T.d_Verdicts_decide.ok sc_Verdicts_decide (fun vs H Q E h => ?_) (fun _ _ _ _ _ _ us hl => match us, hl with | [_, _, _, _], _ => rfl) (fun f cdv A outer s H vs Q E hr h => ?_)
  · obtain ⟨_, _, _, _, _, _, _, _, _, _, _, _, _, _, _, rfl, _⟩ := h
    rfl
  · have hu := hu_of hr
    obtain ⟨v, d, l, f, t, as, c, kn, D, p, wd, x1, s, dd, pl, rfl, hV, hf, ht, np, hk, hvv, q⟩ := h
    refine ⟨_, (pss_one (ps_if (pt_cmpR op_eq (pv 2) (pe_gs T.g_ENDLESS) (nomark _))
      (pss_one (ps_dput hu (pe_fld (pv 0) rfl) (pe_ix ix_list (pv 1) pe_int (fun _ _ => rfl)) (pe_tup (pa_cons (pv 2) (pa_cons pe_non (pa_cons pe_non (pa_cons (pv 3) pa_nil))))) rfl))
      (pss_cons (ps_dput hu (pe_fld (pv 0) rfl) (pe_ix ix_list (pv 1) pe_int (fun _ _ => rfl)) (pe_tup (pa_cons (pv 2) (pa_cons (pe_ix ix_list (pv 1) pe_int (fun _ _ => rfl)) (pa_cons (pe_ix ix_list (pv 1) pe_int (fun _ _ => rfl)) (pa_cons (pv 3) pa_nil))))) rfl)
      (pss_one (ps_fld (pv 0) (pe_bf (call_max2 rfl) T.f_max (pa_cons (pe_fld (pv 0) rfl) (pa_cons (pe_ix ix_list (pv 1) pe_int (fun _ _ => rfl)) pa_nil))) rfl))))), ?_⟩
    obtain ⟨a1, a2, a3, a4⟩ := hV.apart
    obtain ⟨⟨dx, hv⟩, ⟨kvs, hd, hK⟩, hL⟩ := id hV
    have lk : kvs.length < sizeLine := by
      rw [← plen hK]
      exact Nat.lt_trans hk (by decide)
    have nd : ¬ l ∈ [v, d] := by
      intro z
      rcases List.mem_cons.mp z with z | z
      · exact a2 z
      · exact a3 (List.mem_singleton.mp z)
    have na : ∀ a ∈ as, ¬ a ∈ [v, d] := fun a ha z => by
      rcases List.mem_cons.mp z with z | z
      · exact (a4 a ha).1 z
      · exact (a4 a ha).2 (List.mem_singleton.mp z)
    walk_at "go"
    by_cases hw : wd = .en
    · subst hw
      refine iteT (by decide +kernel) ?_
      walk_at "go"
      refine ⟨by show 4 ≤ sizeLine; decide, fun b hb => ?_⟩
      have e1 : ∀ {x : Addr} {o : HO}, H x = some o → upd H b (.tup [.str "endless", .non, .non, .int pl]) x = some o := fun {x o} e => (upd_ne (ne_of_none e hb)).trans e
      walk_at "go"
      refine ⟨_, _, _, _, _, rfl, e1 hv, T.clV, T.nV_known, vf_known _ _ _, ?_⟩
      walk_at "go"
      refine i_ixL (e1 hf) rfl ?_
      refine ⟨d, _, rfl, DPut.t (k := kk p) (e1 hd) (e1 ht) lk, ?_⟩
      have e2 : (upd H b (.tup [.str "endless", .non, .non, .int pl])) b = some (.tup (vdL (VV c p))) := by rw [upd_same, hvv]; rfl
      obtain ⟨p1, p2⟩ := (hK.kp (Kp.new (S := []) hb)).add e2 np
      have k1 : Kp [v, d] H (upd (upd H b (.tup [.str "endless", .non, .non, .int pl])) d (.dT (putK kvs (kk p) (.ref b)))) :=
        (Kp.new hb).wr' (List.mem_cons_of_mem _ (List.mem_singleton.mpr rfl)) (e1 hd) (fun _ z => nomatch z)
      refine q _ k1 ⟨⟨dx, (upd_ne a1).trans (e1 hv)⟩, ⟨_, upd_same, ?_⟩, hL.kp k1 nd na⟩
      rw [p1]
      exact p2.kp (S := [d]) (Kp.wr (List.mem_singleton.mpr rfl) (e1 hd) (fun _ z => nomatch z))
    · have e0 : decide (wdS wd = "endless") = false := by
        cases wd with
        | en => exact absurd rfl hw
        | eq => decide +kernel
        | un => decide +kernel
      have ev : VV c p = ⟨wd, s, dd, pl⟩ := by
        cases wd with
        | en => exact absurd rfl hw
        | eq => exact hvv
        | un => exact hvv
      have eD : dD wd D dd = max D dd := by
        cases wd with
        | en => exact absurd rfl hw
        | eq => rfl
        | un => rfl
      rw [eD] at q
      have eL : vdL ⟨wd, s, dd, pl⟩ = [.str (wdS wd), .int s, .int dd, .int pl] := by
        cases wd with
        | en => exact absurd rfl hw
        | eq => rfl
        | un => rfl
      refine iteF e0 ?_
      walk_at "go"
      refine i_ixL hf rfl ?_
      walk_at "go"
      refine i_ixL hf rfl ?_
      walk_at "go"
      refine ⟨by show 4 ≤ sizeLine; decide, fun b hb => ?_⟩
      have e1 : ∀ {x : Addr} {o : HO}, H x = some o → upd H b (.tup [.str (wdS wd), .int s, .int dd, .int pl]) x = some o := fun {x o} e => (upd_ne (ne_of_none e hb)).trans e
      walk_at "go"
      refine ⟨_, _, _, _, _, rfl, e1 hv, T.clV, T.nV_known, vf_known _ _ _, ?_⟩
      walk_at "go"
      refine i_ixL (e1 hf) rfl ?_
      refine ⟨d, _, rfl, DPut.t (k := kk p) (e1 hd) (e1 ht) lk, ?_⟩
      have e2 : (upd H b (.tup [.str (wdS wd), .int s, .int dd, .int pl])) b = some (.tup (vdL (VV c p))) := by rw [upd_same, ev, eL]
      obtain ⟨p1, p2⟩ := (hK.kp (Kp.new (S := []) hb)).add e2 np
      have k1 : Kp [v, d] H (upd (upd H b (.tup [.str (wdS wd), .int s, .int dd, .int pl])) d (.dT (putK kvs (kk p) (.ref b)))) :=
        (Kp.new hb).wr' (List.mem_cons_of_mem _ (List.mem_singleton.mpr rfl)) (e1 hd) (fun _ z => nomatch z)
      have hv1 : (upd (upd H b (.tup [.str (wdS wd), .int s, .int dd, .int pl])) d (.dT (putK kvs (kk p) (.ref b)))) v = some (.ins cV dx (vf l d D)) := (upd_ne a1).trans (e1 hv)
      have nfd : f ≠ d := ne_of hf hd (fun z => nomatch z)
      walk_at "go"
      refine ⟨_, _, _, _, _, rfl, hv1, T.clV, T.nV_deepest, vf_deep _ _ _, ?_⟩
      walk_at "go"
      refine i_ixL ((upd_ne nfd).trans (e1 hf)) rfl ?_
      walk_at "go"
      refine ⟨_, _, rfl, ?_⟩
      walk_at "go"
      refine ⟨_, _, _, _, rfl, hv1, T.clV, T.nV_deepest, by show 3 < 1000; decide, ?_⟩
      have em : (if ((dd : Nat) : Int) > (D : Nat) then ((dd : Nat) : Int) else (D : Nat)) = ((max D dd : Nat) : Int) := by
        by_cases z : dd > D
        · rw [if_pos (by omega), Nat.max_eq_right (by omega)]
        · rw [if_neg (by omega), Nat.max_eq_left (by omega)]
      rw [em]
      have k2 := k1.wr' (o := .ins cV dx (putF "deepest" (.int (max D dd : Nat)) (vf l d D))) (List.mem_cons_self ..) hv1 (fun _ z => nomatch z)
      refine q _ k2 ⟨⟨dx, upd_same⟩, ⟨_, (upd_ne a1.symm).trans upd_same, ?_⟩, hL.kp k2 nd na⟩
      rw [p1] at hv1 ⊢
      exact (p2.kp (S := [d]) (Kp.wr (List.mem_singleton.mpr rfl) (e1 hd) (fun _ z => nomatch z))).kp (S := [v]) (Kp.wr (List.mem_singleton.mpr rfl) hv1 (fun _ z => nomatch z))
end
end Rk
set_option Elab.async false
set_option linter.all false
set_option maxRecDepth 100000
set_option maxHeartbeats 1000000
/-! go on -/
namespace Rk
open PySem PySem.Spec PyProof.Rows L2
local macro_rules | `(tactic| walk_at "go") => `(tactic| ((try dsimp only); repeat (first
  | with_reducible apply i_seq
  | ((with_reducible apply i_var); exact rfl)
  | with_reducible apply i_c
  | with_reducible apply i_cons
  | with_reducible apply i_nil
  | with_reducible apply i_call
  | with_reducible apply i_cb
  | with_reducible apply i_meth
  | with_reducible apply i_fld
  | with_reducible apply i_op
  | with_reducible apply i_rI0
  | with_reducible apply i_eqI
  | with_reducible apply i_neI
  | with_reducible apply i_eqS
  | with_reducible apply i_neS
  | with_reducible apply i_if
  | with_reducible apply i_test
  | with_reducible apply i_b
  | with_reducible apply i_bl
  | with_reducible apply i_int
  | with_reducible apply i_and
  | with_reducible apply i_or
  | with_reducible apply i_not
  | with_reducible apply i_andV
  | with_reducible apply i_orV
  | with_reducible apply i_notV
  | with_reducible apply i_ifE
  | with_reducible apply i_itt
  | with_reducible apply i_itf
  | with_reducible apply i_nt
  | with_reducible apply i_nf
  | with_reducible apply i_asg
  | with_reducible apply i_name
  | with_reducible apply i_ret
  | with_reducible apply i_retN
  | with_reducible apply i_drop
  | with_reducible apply i_next
  | with_reducible apply i_break
  | with_reducible apply i_un
  | with_reducible apply i_rU
  | with_reducible apply i_tup
  | with_reducible apply i_lst
  | with_reducible apply i_par
  | with_reducible apply i_chain
  | with_reducible apply i_gcons
  | with_reducible apply i_gnil
  | with_reducible apply i_prop
  | with_reducible apply i_make
  | ((with_reducible apply i_aug); exact rfl)
  | with_reducible apply i_ipI
  | with_reducible apply i_sl
  | with_reducible apply i_noPart
  | with_reducible apply i_part
  | with_reducible apply i_bm
  | with_reducible apply i_bm0
  | with_reducible apply i_lc
  | with_reducible apply i_for
  | with_reducible apply i_iStr
  | with_reducible apply i_iList
  | with_reducible apply i_iTup
  | with_reducible apply i_rng1
  | with_reducible apply i_rng2
  | with_reducible apply i_yes
  | with_reducible apply i_refE
  | with_reducible apply i_strE
  | with_reducible apply i_sfld
  | with_reducible apply i_dput
  | with_reducible apply i_dget
  | with_reducible apply i_din
  | with_reducible apply i_dnotin
  | with_reducible apply i_dnew
  | with_reducible apply i_augS
  | with_reducible apply i_gsub
  | with_reducible apply i_asg2
  | with_reducible apply i_disp1
  | with_reducible apply i_ar
  | with_reducible apply i_sfldaug
  | with_reducible apply i_gfld
  | with_reducible apply i_ckw
  | with_reducible apply i_rAdd
  | with_reducible apply i_par3
  | with_reducible apply i_iZip)))
/-! ### limits -/
structure Lim (c : Ctn) : Prop where
  n : c.length ≤ 22
  m : ∀ x, (rw c x).length ≤ 4
  ok : ∀ x, ∀ it ∈ rw c x, ItOk c.length it
theorem Lim.rng {c : Ctn} (h : Lim c) : Rng c := fun x it hi n e => by
  have z := h.ok x it hi
  rw [e] at z
  exact z
theorem VerM.le {c : Ctn} {kn act : List Pr} {D : Nat} (h : VerM c kn act D) (l : Lim c) : kn.length ≤ 484 := by
  have z := nodup_pr_le (N := c.length) h.nd h.rg
  exact Nat.le_trans z (Nat.mul_le_mul l.n l.n)
/-- the kids that are still ahead are kids -/
def FrK (c : Ctn) (p : Pr) (pl : Nat) : Prop := (rw c p.1).length = (rw c p.2).length → ∀ q ∈ kids (Vc c) ((zp c p).drop pl), q ∈ kidsOf c p
theorem FrK.zero (c : Ctn) (p : Pr) : FrK c p 0 := fun hl q hq => by
  unfold kidsOf
  rw [if_pos hl]
  exact hq
theorem FrK.same {c : Ctn} {p : Pr} {pl : Nat} {a b : It} (h : FrK c p pl) (hx : (zp c p)[pl]? = some (a, b)) (hp : pairOf a b = none) (hab : a = b) : FrK c p (pl + 1) := fun hl q hq => h hl q (by
  rw [drop_at hx]
  unfold kids
  simp only [hp, if_pos hab]
  exact hq)
theorem FrK.next {c : Ctn} {p q : Pr} {pl : Nat} {a b : It} {u : Fv} (h : FrK c p pl) (hx : (zp c p)[pl]? = some (a, b)) (hp : pairOf a b = some q) (hv : Vc c q = some u) (hu : ¬ u.un = true) : FrK c p (pl + 1) := fun hl q' hq => h hl q' (by
  rw [drop_at hx]
  unfold kids
  simp only [hp, hv, if_neg hu]
  exact List.mem_cons_of_mem _ hq)
structure FrI (c : Ctn) (kn : List Pr) (p : Pr) (pl s d : Nat) : Prop where
  ok : FrOk c (· ∈ kn) p pl s d
  k : FrK c p pl
  one : ¬ (rw c p.1).length = (rw c p.2).length → s = 1 ∧ d = 1
theorem FrI.fresh (c : Ctn) (kn : List Pr) (p : Pr) : FrI c kn p 0 1 1 := ⟨FrOk.fresh c _ p, FrK.zero c p, fun _ => ⟨rfl, rfl⟩⟩
theorem FrI.mono {c : Ctn} {kn kn' : List Pr} {p : Pr} {pl s d : Nat} (h : FrI c kn p pl s d) (m : ∀ q ∈ kn, q ∈ kn') : FrI c kn' p pl s d := ⟨h.ok.mono m, h.k, h.one⟩
/-- the pairs under way, as a dict -/
def ActS (H : Hp) (a : Addr) (act : List Pr) : Prop := H a = some (.dT (act.map fun p => (kk p, V.bl true)))
theorem act_get (p : Pr) : ∀ act : List Pr, (valV (act.map fun p => (kk p, V.bl true)) (kk p)).isSome = decide (p ∈ act)
  | [] => rfl
  | a :: act => by
    rw [List.map_cons]
    by_cases e : a = p
    · subst e
      rw [valV_pos rfl]
      simp
    · rw [valV_neg fun z => e (kk_inj z), act_get p act]
      have : p ≠ a := fun z => e z.symm
      simp [this]
abbrev N_Verdicts_go_on : List Str := ["self", "frame", "active", "one", "other", "mine", "yours", "place", "child", "word", "steps", "depth", "by"]
theorem sc_Verdicts_go_on : FnScope N_Verdicts_go_on ["self", "frame", "active"] (defScope s_Verdicts_go_on) := ⟨rfl, rfl, rfl, by decide +kernel, rfl, by decide +kernel, by decide +kernel⟩
structure GoA (cV : Addr) (H : Hp) (v d l f t a : Addr) (as : List Addr) (c : Ctn) (kn act : List Pr) (D : Nat) (p : Pr) (r : List Pr) (pl s dd : Nat) : Prop where
  hV : VerS H cV v d l as c kn D
  hM : VerM c kn act D
  hL : Lim c
  hf : H f = some (.lst [.ref t, .int pl, .int s, .int dd])
  ht : PrAt H t p
  np : ¬ p ∈ kn
  rp : p.1 < c.length ∧ p.2 < c.length
  ac : act.reverse = p :: r
  st : Stk c (p :: r)
  fr : FrI c kn p pl s dd
  hA : ActS H a act
  fl : f ≠ l
  fa : ¬ f ∈ as
  ad : a ≠ d
def spGoOn (cV : Addr) : Sp := fun vs H Q _ => ∃ (v d l f t a : Addr) (as : List Addr) (c : Ctn) (kn act : List Pr) (D : Nat) (p : Pr) (r : List Pr) (pl s dd : Nat), vs = [.ref v, .ref f, .ref a] ∧ GoA cV H v d l f t a as c kn act D p r pl s dd ∧
  (∀ H' D', Kp [v, d, f] H H' → VerS H' cV v d l as c (kn ++ [p]) D' → VerM c (kn ++ [p]) act D' → (∃ x1 x2 x3, H' f = some (.lst [.ref t, x1, x2, x3])) → Q .non H') ∧
  (∀ H' b q pl' s' d', Kp [f] H H' → H' f = some (.lst [.ref t, .int (pl' : Nat), .int (s' : Nat), .int (d' : Nat)]) → PrAt H' b q → FrI c kn p pl' s' d' → ¬ q ∈ kn → ¬ q ∈ act → q ∈ kidsOf c p → Q (.ref b) H')
/-- what decide is asked within go_on -/
theorem decide_ok {cV : Addr} {H : Hp} {v d l f t a : Addr} {as : List Addr} {c : Ctn} {kn act : List Pr} {D : Nat} {p : Pr} {r : List Pr} {pl s dd : Nat} {Q : VK} (G : GoA cV H v d l f t a as c kn act D p r pl s dd)
    (q : ∀ H' D', Kp [v, d, f] H H' → VerS H' cV v d l as c (kn ++ [p]) D' → VerM c (kn ++ [p]) act D' → (∃ x1 x2 x3, H' f = some (.lst [.ref t, x1, x2, x3])) → Q .non H')
    {H1 : Hp} {wd : Wd} {x1 : V} {s' d' : Nat} {px : Int} (k1 : Kp [f] H H1) (e1 : H1 f = some (.lst [.ref t, x1, .int s', .int d'])) (hv : VV c p = vdOf wd s' d' px)
    (hk : ∀ q ∈ kidsOf c p, q ∈ kn ∨ q ∈ act) (hf : wd ≠ .en → ∀ q ∈ kidsOf c p, q ∈ kn) : spDecide cV [.ref v, .ref f, .str (wdS wd), .int px] H1 Q E0 := by
  obtain ⟨a1, a2, a3, a4⟩ := G.hV.apart
  obtain ⟨dx, ev⟩ := G.hV.ins
  obtain ⟨kvs, ed, _⟩ := G.hV.dct
  have nfv : f ≠ v := ne_of G.hf ev (fun z => nomatch z)
  have nfd : f ≠ d := ne_of G.hf ed (fun z => nomatch z)
  have nm : ∀ {x : Addr}, f ≠ x → ¬ x ∈ [f] := fun {x} n z => n (List.mem_singleton.mp z).symm
  have V1 := G.hV.kp k1 (nm nfv) (nm nfd) (nm G.fl) fun b hb z => G.fa (List.mem_singleton.mp z ▸ hb)
  refine ⟨v, d, l, f, t, as, c, kn, D, p, wd, x1, s', d', px, rfl, V1, e1, G.ht.kp k1, G.np, Nat.lt_of_le_of_lt (G.hM.le G.hL) (by decide), hv, fun H' k2 V2 => ?_⟩
  have nf2 : ¬ f ∈ [v, d] := by
    intro z
    rcases List.mem_cons.mp z with z | z
    · exact nfv z
    · exact nfd (List.mem_singleton.mp z)
  refine q H' _ ((k1.mono fun b hb => ?_).trans (k2.mono fun b hb => ?_)) V2 (G.hM.add G.np G.rp hk (fun u hu => ?_) ?_) ⟨_, _, _, k2.k _ _ nf2 e1⟩
  · rw [List.mem_singleton] at hb
    subst hb
    simp
  · rcases List.mem_cons.mp hb with z | z
    · subst z; simp
    · rw [List.mem_singleton] at z
      subst z; simp
  · rw [V_fix, hv] at hu
    cases wd with
    | en => cases hu
    | eq =>
      cases hu
      exact ⟨hf (by decide), Nat.le_max_right ..⟩
    | un =>
      cases hu
      exact ⟨hf (by decide), Nat.le_max_right ..⟩
  · cases wd with
    | en => exact Nat.le_refl _
    | eq => exact Nat.le_max_left ..
    | un => exact Nat.le_max_left ..
section
variable {P : Program} {w : World} {K : PySem.W.Frag} {mg : Str → Option Value} {base : Heap} {cV cO cH : Addr}
theorem ok_Verdicts_go_on (T : Txt K mg cV cO cH) : Mt0 P w K mg base 3 cV "go_on" ["self", "frame", "active"] (spGoOn cV) := by
  have h_decide := ok_Verdicts_decide (P := P) (w := w) (base := base) T
  have h_pair_of := ok_pair_of (P := P) (w := w) (base := base) T
  refine T.d_Verdicts_go_on.ok sc_Verdicts_go_on (fun vs H Q E h => ?_) (fun _ _ _ _ _ _ us hl => match us, hl with | [_, _, _], _ => rfl) (fun f cdv A outer s H vs Q E hr h => ?_)
  · obtain ⟨_, _, _, _, _, _, _, _, _, _, _, _, _, _, _, _, rfl, _⟩ := h
    rfl
  · have hu := hu_of hr
    obtain ⟨v, d, l, f, t, a, as, c, kn, act, D, p, r, pl, s, dd, rfl, G, q1, q2⟩ := h
    refine ⟨_, (pss_cons (ps_asg (pe_ix ix_list (pv 1) pe_int (fun _ _ => rfl)) (pg_tup rfl (pgs_cons (pg_name (i := 3) sc_Verdicts_go_on.nd rfl (by first | exact Or.inl rfl | exact Or.inr rfl)) (pgs_cons (pg_name (i := 4) sc_Verdicts_go_on.nd rfl (by first | exact Or.inl rfl | exact Or.inr rfl)) pgs_nil))))
    (pss_cons (ps_par (i := 5) (j := 6) rfl sc_Verdicts_go_on.nd rfl rfl (by decide) rfl rfl (pa_cons (pe_ix ix_list (pe_fld (pv 0) rfl) (pv 3) (fun _ _ => rfl)) (pa_cons (pe_ix ix_list (pe_fld (pv 0) rfl) (pv 4) (fun _ _ => rfl)) pa_nil)) (by rfl))
    (pss_cons (ps_if (pt_cmpR op_ne (pe_bf call_len_seq T.f_len (pa_cons (pv 5) pa_nil)) (pe_bf call_len_seq T.f_len (pa_cons (pv 6) pa_nil)) (nomark _))
      (pss_one (ps_ret (pe_mtd (pv 0) T.clV h_decide hr (by decide) (pa_cons (pv 1) (pa_cons (pe_gs T.g_UNLIKE) (pa_cons (pe_gi T.g_LENGTHS) pa_nil))))))
      pss_nil)
    (pss_cons (ps_for PassesOwn.never rfl (pi_range2 rfl T.f_range (pa_cons (pe_ix ix_list (pv 1) pe_int (fun _ _ => rfl)) (pa_cons (pe_bf call_len_seq T.f_len (pa_cons (pv 5) pa_nil)) pa_nil))) (pg_name (i := 7) sc_Verdicts_go_on.nd rfl (by first | exact Or.inl rfl | exact Or.inr rfl))
      (pss_cons (ps_set (i := 8) sc_Verdicts_go_on.nd rfl (by first | exact Or.inl rfl | exact Or.inr rfl) (pe_fn h_pair_of hr (by decide) rfl (pa_cons (pe_ix ix_list (pv 5) (pv 7) (fun _ _ => rfl)) (pa_cons (pe_ix ix_list (pv 6) (pv 7) (fun _ _ => rfl)) pa_nil))))
      (pss_one (ps_if (pt_cmpR op_isN (pv 8) pe_non (nomark _))
        (pss_one (ps_if (pt_cmpR (op_neD hr.units) (pe_ix ix_list (pv 5) (pv 7) (fun _ _ => rfl)) (pe_ix ix_list (pv 6) (pv 7) (fun _ _ => rfl)) (nomark _))
          (pss_one (ps_ret (pe_mtd (pv 0) T.clV h_decide hr (by decide) (pa_cons (pv 1) (pa_cons (pe_gs T.g_UNLIKE) (pa_cons (pv 7) pa_nil))))))
          pss_nil))
        (pss_one (ps_if (pt_cmp (pc_din hu (pv 8) (pv 2)))
          (pss_one (ps_ret (pe_mtd (pv 0) T.clV h_decide hr (by decide) (pa_cons (pv 1) (pa_cons (pe_gs T.g_ENDLESS) (pa_cons (pv 7) pa_nil))))))
          (pss_one (ps_if (pt_cmp (pc_dnotin hu (pv 8) (pe_fld (pv 0) rfl)))
            (pss_cons (ps_asg (pv 7) (pg_sub (pv 1) pe_int set_list))
            (pss_one (ps_ret (pv 8))))
            (pss_cons (ps_asg (pe_dget hu (pe_fld (pv 0) rfl) (pv 8) (fun _ _ => rfl)) (pg_tup rfl (pgs_cons (pg_name (i := 9) sc_Verdicts_go_on.nd rfl (by first | exact Or.inl rfl | exact Or.inr rfl)) (pgs_cons (pg_name (i := 10) sc_Verdicts_go_on.nd rfl (by first | exact Or.inl rfl | exact Or.inr rfl)) (pgs_cons (pg_name (i := 11) sc_Verdicts_go_on.nd rfl (by first | exact Or.inl rfl | exact Or.inr rfl)) (pgs_cons (pg_name (i := 12) sc_Verdicts_go_on.nd rfl (by first | exact Or.inl rfl | exact Or.inr rfl)) pgs_nil))))))
            (pss_cons (ps_if (pt_cmpR op_eq (pv 9) (pe_gs T.g_ENDLESS) (nomark _))
              (pss_one (ps_ret (pe_mtd (pv 0) T.clV h_decide hr (by decide) (pa_cons (pv 1) (pa_cons (pe_gs T.g_ENDLESS) (pa_cons (pv 7) pa_nil))))))
              pss_nil)
            (pss_cons (ps_augS (pv 1) pe_int pget_list (pv 10) ip_add set_list)
            (pss_cons (ps_asg (pe_bf (call_max2 rfl) T.f_max (pa_cons (pe_ix ix_list (pv 1) pe_int (fun _ _ => rfl)) (pa_cons (pe_op op_add (pv 11) pe_int) pa_nil))) (pg_sub (pv 1) pe_int set_list))
            (pss_one (ps_if (pt_cmpR op_eq (pv 9) (pe_gs T.g_UNLIKE) (nomark _))
              (pss_one (ps_ret (pe_mtd (pv 0) T.clV h_decide hr (by decide) (pa_cons (pv 1) (pa_cons (pe_gs T.g_UNLIKE) (pa_cons (pv 7) pa_nil))))))
              pss_nil))))))))))))))
    (pss_one (ps_ret (pe_mtd (pv 0) T.clV h_decide hr (by decide) (pa_cons (pv 1) (pa_cons (pe_gs T.g_EQUAL) (pa_cons (pe_bf call_len_seq T.f_len (pa_cons (pv 5) pa_nil)) pa_nil)))))))))), ?_⟩
    obtain ⟨a1, a2, a3, a4⟩ := G.hV.apart
    obtain ⟨dx, ev⟩ := G.hV.ins
    obtain ⟨kvs, ed, hK⟩ := G.hV.dct
    obtain ⟨ax, ex, vx, evx, px⟩ := G.hV.lst.row G.rp.1
    obtain ⟨ay, ey, vy, evy, py⟩ := G.hV.lst.row G.rp.2
    have lx := plen px
    have ly := plen py
    have nfv : f ≠ v := ne_of G.hf ev (fun z => nomatch z)
    have nfd : f ≠ d := ne_of G.hf ed (fun z => nomatch z)
    have nm : ∀ {x : Addr}, f ≠ x → ¬ x ∈ [f] := fun {x} n z => n (List.mem_singleton.mp z).symm
    have nfx : f ≠ ax := fun z => G.fa (z ▸ List.mem_of_getElem? ex)
    have nfy : f ≠ ay := fun z => G.fa (z ▸ List.mem_of_getElem? ey)
    have nfA : f ≠ a := ne_of G.hf G.hA (fun z => nomatch z)
    walk_at "go"
    refine i_ixL G.hf rfl ?_
    refine ⟨t, _, rfl, SqT.of G.ht, rfl, ?_⟩
    walk_at "go"
    refine ⟨_, _, _, _, _, rfl, ev, T.clV, T.nV_lists, vf_lists _ _ _, ?_⟩
    walk_at "go"
    refine i_ixL G.hV.lst.1 (atI_nat (by rw [List.getElem?_map, ex]; rfl)) ?_
    walk_at "go"
    refine ⟨_, _, _, _, _, rfl, ev, T.clV, T.nV_lists, vf_lists _ _ _, ?_⟩
    walk_at "go"
    refine i_ixL G.hV.lst.1 (atI_nat (by rw [List.getElem?_map, ey]; rfl)) ?_
    walk_at "go"
    refine ⟨_, _, rfl, ?_⟩
    walk_at "go"
    refine ⟨_, _, rfl, .inl (SqL.of evx), ?_⟩
    walk_at "go"
    refine ⟨_, _, rfl, .inl (SqL.of evy), ?_⟩
    walk_at "go"
    refine iteB (fun e => ?_) (fun e => ?_)
    · have ne : ¬ (rw c p.1).length = (rw c p.2).length := by
        intro z
        rw [decide_eq_true (by rw [← lx, ← ly, z])] at e
        cases e
      obtain ⟨w1, w2⟩ := lens_ne ne
      obtain ⟨rfl, rfl⟩ := G.fr.one ne
      walk_at "go"
      refine ⟨_, _, _, rfl, ev, rfl, ?_⟩
      walk_at "go"
      exact decide_ok (wd := .un) G q1 (Kp.refl _ _) G.hf w1 (fun q hq => by rw [w2] at hq; cases hq) (fun _ q hq => by rw [w2] at hq; cases hq)
    · have hl : (rw c p.1).length = (rw c p.2).length := by
        rw [lx, ly]
        have z := of_decide_eq_true (by simpa using e)
        exact Int.ofNat.inj z
      have hm : (rw c p.1).length ≤ 4 := G.hL.m _
      have zl := zp_len (c := c) (p := p) hl
      have hpl := (G.fr.ok hl).1
      walk_at "go"
      refine i_ixL G.hf rfl ?_
      walk_at "go"
      refine ⟨_, _, rfl, .inl (SqL.of evx), ?_⟩
      walk_at "go"
      refine ⟨_, _, rfl, ⟨by omega, by omega, by omega, by omega⟩, ?_⟩
      have en : (((vx.length : Nat) : Int) - (pl : Nat)).toNat = vx.length - pl := by omega
      rw [en]
      refine ForW.it walk_range (fun i σ H' => ∃ z7 z8 z9 z10 z11 z12 s' d', σ = [some (.ref v), some (.ref f), some (.ref a), some (.int p.1), some (.int p.2), some (.ref ax), some (.ref ay), z7, z8, z9, z10, z11, z12] ∧ Kp [f] H H' ∧
        H' f = some (.lst [.ref t, .int pl, .int (s' : Nat), .int (d' : Nat)]) ∧ FrI c kn p (pl + i) s' d')
        ⟨_, _, _, _, _, _, s, dd, rfl, Kp.refl _ _, G.hf, G.fr⟩ (fun _ _ _ _ _ => True.intro) ?_ ?_
      · rintro i x σ H1 H2 hi ⟨z7, z8, z9, z10, z11, z12, s', d', rfl, k1, f1, F⟩ ⟨rfl, ex0⟩
        have hi1 : pl + i < (rw c p.1).length := by omega
        have hi2 : pl + i < (rw c p.2).length := by omega
        have g1 : (rw c p.1)[pl + i]? = some ((rw c p.1)[pl + i]) := List.getElem?_eq_getElem hi1
        have g2 : (rw c p.2)[pl + i]? = some ((rw c p.2)[pl + i]) := List.getElem?_eq_getElem hi2
        obtain ⟨v1, e1, i1⟩ := pgetL px g1
        obtain ⟨v2, e2, i2⟩ := pgetL py g2
        have o1 := G.hL.ok p.1 _ (List.mem_of_getElem? g1)
        have o2 := G.hL.ok p.2 _ (List.mem_of_getElem? g2)
        have hx := zp_at g1 g2
        revert i1 i2 o1 o2 hx
        generalize (rw c p.1)[pl + i] = b1
        generalize (rw c p.2)[pl + i] = b2
        intro i1 i2 o1 o2 hx
        have ep : x = .int ((pl + i : Nat) : Int) := by rw [ex0]; rfl
        subst ep
        have evx1 := k1.k _ _ (nm nfx) evx
        have evy1 := k1.k _ _ (nm nfy) evy
        have ev1 := k1.k _ _ (nm nfv) ev
        have ed1 := k1.k _ _ (nm nfd) ed
        have hA1 := k1.k _ _ (nm nfA) G.hA
        walk_at "go"
        refine i_ixL evx1 (atI_nat e1) ?_
        walk_at "go"
        refine i_ixL evy1 (atI_nat e2) ?_
        refine ⟨c.length, b1, b2, v1, v2, rfl, i1.kp k1, i2.kp k1, o1, o2, ?_⟩
        cases hp : pairOf b1 b2 with
        | none =>
          refine PairQ.none ?_
          walk_at "go"
          refine iteT dnn ?_
          walk_at "go"
          refine i_ixL evx1 (atI_nat e1) ?_
          walk_at "go"
          refine i_ixL evy1 (atI_nat e2) ?_
          refine ⟨_, _, (i1.kp k1).dp, (i2.kp k1).dp, dt_shaped b1 o1, dt_shaped b2 o2, ?_⟩
          rw [dt_eqv]
          walk_at "go"
          refine iteB (fun e => ?_) (fun e => ?_)
          · have nb : ¬ b1 = b2 := by simpa using e
            walk_at "go"
            refine ⟨_, _, _, rfl, ev1, rfl, ?_⟩
            walk_at "go"
            obtain ⟨w1, w2⟩ := F.ok.leaf hl hx hp nb
            exact decide_ok (wd := .un) G q1 k1 f1 w1 (fun q hq => .inl (w2 q hq)) (fun _ q hq => w2 q hq)
          · have eb : b1 = b2 := by simpa using e
            walk_at "go"
            exact ⟨_, _, _, _, _, _, s', d', rfl, k1, f1, F.ok.same hl hx hp eb, F.k.same hx hp eb, fun z => absurd hl z⟩
        | some q =>
          refine PairQ.some fun b hb => ?_
          have k2 : Kp [f] H (upd H2 b (.tup [.int q.1, .int q.2])) := k1.new' hb
          have u1 : ∀ {x : Addr} {o : HO}, H2 x = some o → upd H2 b (.tup [.int q.1, .int q.2]) x = some o := fun {x o} e => (upd_ne (ne_of_none e hb)).trans e
          have hq : PrAt (upd H2 b (.tup [.int q.1, .int q.2])) b q := upd_same
          have kd : q ∈ kidsOf c p := FrOk.kid hl F.ok hx hp fun z hz => F.k hl z hz
          walk_at "go"
          refine iteF drn ?_
          walk_at "go"
          refine ⟨a, _, rfl, DGet.t (k := kk q) (u1 hA1) hq, ?_⟩
          walk_at "go"
          rw [act_get]
          refine iteB (fun e => ?_) (fun e => ?_)
          · have iA : q ∈ act := of_decide_eq_true e
            have vn : Vc c q = none := G.st.endless (by rw [← G.ac]; exact List.mem_reverse.mpr iA) kd
            obtain ⟨w1, w2⟩ := F.ok.endl hl hx hp vn
            walk_at "go"
            refine ⟨_, _, _, rfl, u1 ev1, rfl, ?_⟩
            walk_at "go"
            exact decide_ok (wd := .en) G q1 k2 (u1 f1) w1 (fun z hz => (w2 z hz).imp id fun y => by rw [y]; exact iA) (fun y => absurd rfl y)
          · have nA : ¬ q ∈ act := of_decide_eq_false e
            walk_at "go"
            refine ⟨_, _, _, _, _, rfl, u1 ev1, T.clV, T.nV_known, vf_known _ _ _, ?_⟩
            refine ⟨d, _, rfl, DGet.t (k := kk q) (u1 ed1) hq, ?_⟩
            by_cases ik : q ∈ kn
            · obtain ⟨tv, g1, g2⟩ := hK.get_in ik
              have g3 := k2.t _ _ g2
              rw [g1]
              walk_at "go"
              refine iteF rfl ?_
              walk_at "go"
              refine ⟨_, _, _, _, _, rfl, u1 ev1, T.clV, T.nV_known, vf_known _ _ _, ?_⟩
              walk_at "go"
              refine ⟨d, .ref tv, rfl, g1 ▸ DGet.t (k := kk q) (u1 ed1) hq, ?_⟩
              walk_at "go"
              by_cases hw : (VV c q).w = .en
              · obtain ⟨g4, g5⟩ := vdL_en hw
                have vn : Vc c q = none := by rw [V_fix, g5]
                rw [g4] at g3
                refine ⟨tv, _, rfl, SqT.of g3, rfl, ?_⟩
                walk_at "go"
                refine iteT (by decide +kernel) ?_
                walk_at "go"
                refine ⟨_, _, _, rfl, u1 ev1, rfl, ?_⟩
                walk_at "go"
                obtain ⟨w1, w2⟩ := F.ok.endl hl hx hp vn
                exact decide_ok (wd := .en) G q1 k2 (u1 f1) w1 (fun z hz => .inl ((w2 z hz).elim id fun y => by rw [y]; exact ik)) (fun y => absurd rfl y)
              · obtain ⟨g4, g5, g6, g7⟩ := vdL_fi hw
                have vn : Vc c q = some ⟨decide ((VV c q).w = .un), (VV c q).s, (VV c q).d⟩ := by rw [V_fix, g5]
                rw [g4] at g3
                have f2 := u1 f1
                refine ⟨tv, _, rfl, SqT.of g3, rfl, ?_⟩
                walk_at "go"
                refine iteF g6 ?_
                walk_at "go"
                refine ⟨f, _, 2, _, rfl, rfl, SqL.of f2, rfl, ?_⟩
                walk_at "go"
                refine ⟨f, _, _, 2, rfl, rfl, f2, rfl, ?_⟩
                have k3 := k2.wr' (o := .lst [.ref t, .int pl, .int ((s' : Int) + (VV c q).s), .int d']) (List.mem_singleton.mpr rfl) f2 (fun _ z => nomatch z)
                walk_at "go"
                refine i_ixL upd_same rfl ?_
                walk_at "go"
                refine ⟨_, _, rfl, ?_⟩
                walk_at "go"
                refine ⟨f, _, _, 3, rfl, rfl, upd_same, rfl, ?_⟩
                have k4 := k3.wr' (o := .lst [.ref t, .int pl, .int ((s' : Int) + (VV c q).s), .int (if ((VV c q).d : Int) + 1 > (d' : Int) then ((VV c q).d : Int) + 1 else d')]) (List.mem_singleton.mpr rfl) upd_same (fun _ z => nomatch z)
                have e4 : (if ((VV c q).d : Int) + 1 > (d' : Int) then ((VV c q).d : Int) + 1 else d') = ((max d' ((VV c q).d + 1) : Nat) : Int) := max_nat d' ((VV c q).d + 1)
                walk_at "go"
                refine iteB (fun e => ?_) (fun e => ?_)
                · walk_at "go"
                  refine ⟨_, _, _, rfl, (upd_ne nfv.symm).trans ((upd_ne nfv.symm).trans (u1 ev1)), rfl, ?_⟩
                  walk_at "go"
                  obtain ⟨w1, w2⟩ := F.ok.unl hl hx hp vn (by rw [← g7]; exact e)
                  exact decide_ok (wd := .un) (s' := s' + (VV c q).s) (d' := max d' ((VV c q).d + 1)) G q1 k4 (upd_same.trans (by rw [e4]; rfl)) w1 (fun z hz => .inl ((w2 z hz).elim id fun y => by rw [y]; exact ik)) (fun _ z hz => (w2 z hz).elim id fun y => by rw [y]; exact ik)
                · walk_at "go"
                  have nu : ¬ (⟨decide ((VV c q).w = .un), (VV c q).s, (VV c q).d⟩ : Fv).un = true := by
                    show ¬ decide ((VV c q).w = .un) = true
                    rw [← g7, e]
                    decide
                  exact ⟨_, _, _, _, _, _, s' + (VV c q).s, max d' ((VV c q).d + 1), rfl, k4, upd_same.trans (by rw [e4]; rfl), F.ok.next hl hx hp vn nu ik, F.k.next hx hp vn nu, fun z => absurd hl z⟩
            · rw [hK.get_out ik]
              walk_at "go"
              refine iteT rfl ?_
              walk_at "go"
              refine ⟨f, _, _, 1, rfl, rfl, u1 f1, rfl, ?_⟩
              walk_at "go"
              exact q2 _ b q (pl + i) s' d' (k2.wr' (List.mem_singleton.mpr rfl) (u1 f1) (fun _ z => nomatch z)) upd_same ((upd_ne (ne_of_none f1 hb).symm).trans hq) F ik nA kd
      · rintro σ H1 ⟨z7, z8, z9, z10, z11, z12, s', d', rfl, k1, f1, F⟩
        have evx1 := k1.k _ _ (nm nfx) evx
        have ev1 := k1.k _ _ (nm nfv) ev
        walk_at "go"
        refine ⟨_, _, _, rfl, ev1, rfl, ?_⟩
        walk_at "go"
        refine ⟨_, _, rfl, .inl (SqL.of evx1), ?_⟩
        walk_at "go"
        obtain ⟨w1, w2⟩ := F.ok.fin hl (by omega)
        exact decide_ok (wd := .eq) G q1 k1 f1 (w1.trans (by rw [show pl + (vx.length - pl) = vx.length by omega]; rfl)) (fun q hq => .inl (w2 q hq)) (fun _ q hq => w2 q hq)
end
end Rk
set_option Elab.async false
set_option linter.all false
set_option maxRecDepth 100000
set_option maxHeartbeats 4000000
/-! of pair -/
namespace Rk
open PySem PySem.Spec PyProof.Rows L2
local macro_rules | `(tactic| walk_at "go") => `(tactic| ((try dsimp only); repeat (first
  | with_reducible apply i_seq
  | ((with_reducible apply i_var); exact rfl)
  | with_reducible apply i_c
  | with_reducible apply i_cons
  | with_reducible apply i_nil
  | with_reducible apply i_call
  | with_reducible apply i_cb
  | with_reducible apply i_meth
  | with_reducible apply i_fld
  | with_reducible apply i_op
  | with_reducible apply i_rI0
  | with_reducible apply i_eqI
  | with_reducible apply i_neI
  | with_reducible apply i_eqS
  | with_reducible apply i_neS
  | with_reducible apply i_if
  | with_reducible apply i_test
  | with_reducible apply i_b
  | with_reducible apply i_bl
  | with_reducible apply i_int
  | with_reducible apply i_and
  | with_reducible apply i_or
  | with_reducible apply i_not
  | with_reducible apply i_andV
  | with_reducible apply i_orV
  | with_reducible apply i_notV
  | with_reducible apply i_ifE
  | with_reducible apply i_itt
  | with_reducible apply i_itf
  | with_reducible apply i_nt
  | with_reducible apply i_nf
  | with_reducible apply i_asg
  | with_reducible apply i_name
  | with_reducible apply i_ret
  | with_reducible apply i_retN
  | with_reducible apply i_drop
  | with_reducible apply i_next
  | with_reducible apply i_break
  | with_reducible apply i_un
  | with_reducible apply i_rU
  | with_reducible apply i_tup
  | with_reducible apply i_lst
  | with_reducible apply i_par
  | with_reducible apply i_chain
  | with_reducible apply i_gcons
  | with_reducible apply i_gnil
  | with_reducible apply i_prop
  | with_reducible apply i_make
  | ((with_reducible apply i_aug); exact rfl)
  | with_reducible apply i_ipI
  | with_reducible apply i_sl
  | with_reducible apply i_noPart
  | with_reducible apply i_part
  | with_reducible apply i_bm
  | with_reducible apply i_bm0
  | with_reducible apply i_lc
  | with_reducible apply i_for
  | with_reducible apply i_iStr
  | with_reducible apply i_iList
  | with_reducible apply i_iTup
  | with_reducible apply i_rng1
  | with_reducible apply i_rng2
  | with_reducible apply i_yes
  | with_reducible apply i_refE
  | with_reducible apply i_strE
  | with_reducible apply i_sfld
  | with_reducible apply i_dput
  | with_reducible apply i_dget
  | with_reducible apply i_din
  | with_reducible apply i_dnotin
  | with_reducible apply i_dnew
  | with_reducible apply i_augS
  | with_reducible apply i_gsub
  | with_reducible apply i_asg2
  | with_reducible apply i_disp1
  | with_reducible apply i_ar)))
theorem Kp.via {S S1 : List Addr} {H H1 H2 : Hp} (x : Kp S H H1) (y : Kp S1 H1 H2) (h : ∀ b ∈ S1, b ∈ S ∨ H b = none) : Kp S H H2 :=
  ⟨fun b o n e => y.k b o (fun z => (h b z).elim n fun z2 => by rw [z2] at e; cases e) (x.k b o n e), fun b xs e => y.t b xs (x.t b xs e)⟩
theorem act_none {q : Pr} {act : List Pr} (h : ¬ q ∈ act) : valV (act.map fun p => (kk p, V.bl true)) (kk q) = none := by
  have z := act_get q act
  rw [decide_eq_false h] at z
  cases e : valV (act.map fun p => (kk p, V.bl true)) (kk q) with
  | none => rfl
  | some u => rw [e] at z; cases z
theorem act_put {q : Pr} {act : List Pr} (h : ¬ q ∈ act) : putK (act.map fun p => (kk p, V.bl true)) (kk q) (.bl true) = (act ++ [q]).map fun p => (kk p, V.bl true) := by
  rw [putK_new _ (act_none h), List.map_append]
  rfl
theorem act_drop {q : Pr} {act : List Pr} (h : ¬ q ∈ act) : dropK ((act ++ [q]).map fun p => (kk p, V.bl true)) (kk q) = act.map fun p => (kk p, V.bl true) := by
  unfold dropK
  rw [List.map_append, List.filter_append, List.filter_eq_self.mpr, List.filter_eq_nil_iff.mpr, List.append_nil]
  · intro x hx
    rw [List.map_cons, List.map_nil, List.mem_singleton] at hx
    subst hx
    simp
  · intro x hx
    obtain ⟨p, hp, rfl⟩ := List.mem_map.mp hx
    exact decide_eq_true fun z => h (kk_inj z ▸ hp)
theorem act_some {q : Pr} {act : List Pr} (h : q ∈ act) : ∃ u, valV (act.map fun p => (kk p, V.bl true)) (kk q) = some u := by
  have z := act_get q act
  rw [decide_eq_true h] at z
  exact Option.isSome_iff_exists.mp z
/-- a frame of of_pair -/
def Frm (H H' : Hp) (c : Ctn) (kn : List Pr) (f : Addr) (p : Pr) : Prop := ∃ (t : Addr) (pl s dd : Nat), H' f = some (.lst [.ref t, .int pl, .int s, .int dd]) ∧ PrAt H' t p ∧ FrI c kn p pl s dd ∧ ¬ p ∈ kn ∧ (p.1 < c.length ∧ p.2 < c.length) ∧ H f = none
theorem Frm.kp {S : List Addr} {H H2 H3 : Hp} {c : Ctn} {kn kn' : List Pr} {f : Addr} {p : Pr} (h : Frm H H2 c kn f p) (x : Kp S H2 H3) (n : ¬ f ∈ S) (m : ∀ q ∈ kn, q ∈ kn') (np : ¬ p ∈ kn') : Frm H H3 c kn' f p := by
  obtain ⟨t, pl, s, dd, h1, h2, h3, h4, h5, h6⟩ := h
  exact ⟨t, pl, s, dd, x.k _ _ n h1, h2.kp x, h3.mono m, np, h5, h6⟩
theorem snoc_of {α : Type} : ∀ {l : List α}, l ≠ [] → ∃ ini x, l = ini ++ [x]
  | [], h => absurd rfl h
  | [x], _ => ⟨[], x, rfl⟩
  | x :: y :: r, _ => by
    obtain ⟨i, z, e⟩ := snoc_of (l := y :: r) (by simp)
    exact ⟨x :: i, z, by rw [e]; rfl⟩
theorem nin {H : Hp} {x s : Addr} {o : HO} (e : H x = some o) (n : H s = none) : ¬ x ∈ [s] := fun z => by
  rw [List.mem_singleton] at z
  rw [z, n] at e
  cases e
theorem nin3 {a b c x : Addr} (h1 : x ≠ a) (h2 : x ≠ b) (h3 : x ≠ c) : ¬ x ∈ [a, b, c] := by
  simp [h1, h2, h3]
theorem VerS.new1 {H0 H H' : Hp} {cV v d l s : Addr} {as : List Addr} {c : Ctn} {kn : List Pr} {D : Nat} (h : VerS H cV v d l as c kn D) (x : Kp [s] H H') (n : H0 s = none) (hv : ∃ o, H0 v = some o) (hd : ∃ o, H0 d = some o) (hl : ∃ o, H0 l = some o) (ha : ∀ a ∈ as, ∃ o, H0 a = some o) : VerS H' cV v d l as c kn D :=
  h.kp x (hv.elim fun _ e => nin e n) (hd.elim fun _ e => nin e n) (hl.elim fun _ e => nin e n) fun a z => (ha a z).elim fun _ e => nin e n
structure OfI (cV : Addr) (H : Hp) (v d l : Addr) (as : List Addr) (c : Ctn) (kn : List Pr) (p0 : Pr) (sK aK : Addr) (H' : Hp) (kn' : List Pr) (D' : Nat) (fs : List (Addr × Pr)) : Prop where
  kp : Kp [v, d] H H'
  hV : VerS H' cV v d l as c kn' D'
  hM : VerM c kn' (fs.map (·.2)) D'
  sub : ∀ q ∈ kn, q ∈ kn'
  hS : H' sK = some (.lst (fs.map fun x => .ref x.1))
  hA : ActS H' aK (fs.map (·.2))
  hF : ∀ x ∈ fs, Frm H H' c kn' x.1 x.2
  nf : (fs.map (·.1)).Nodup
  na : (fs.map (·.2)).Nodup
  st : Stk c (fs.map (·.2)).reverse
  s0 : H sK = none
  a0 : H aK = none
  sf : ¬ sK ∈ fs.map (·.1)
  bot : (fs = [] ∧ p0 ∈ kn') ∨ ∃ f0 rest, fs = (f0, p0) :: rest
theorem OfI.room {cV : Addr} {H : Hp} {v d l : Addr} {as : List Addr} {c : Ctn} {kn : List Pr} {p0 : Pr} {sK aK : Addr} {H' : Hp} {kn' : List Pr} {D' : Nat} {fs : List (Addr × Pr)} (I : OfI cV H v d l as c kn p0 sK aK H' kn' D' fs) (L : Lim c) : kn'.length + fs.length ≤ 484 := by
  have h := nodup_pr_le (N := c.length) (l := kn' ++ fs.map (·.2)) (List.nodup_append.mpr ⟨I.hM.nd, I.na, fun a ha b hb e => ?_⟩) (fun p hp => ?_)
  · rw [List.length_append, List.length_map] at h
    exact Nat.le_trans h (Nat.mul_le_mul L.n L.n)
  · obtain ⟨x, hx, rfl⟩ := List.mem_map.mp hb
    obtain ⟨_, _, _, _, _, _, _, n, _, _⟩ := I.hF x hx
    exact n (e ▸ ha)
  · rcases List.mem_append.mp hp with hp | hp
    · exact I.hM.rg p hp
    · obtain ⟨x, hx, rfl⟩ := List.mem_map.mp hp
      obtain ⟨_, _, _, _, _, _, _, _, r, _⟩ := I.hF x hx
      exact r
abbrev N_Verdicts_of_pair : List Str := ["self", "pair", "stack", "active", "frame", "child"]
theorem sc_Verdicts_of_pair : FnScope N_Verdicts_of_pair ["self", "pair"] (defScope s_Verdicts_of_pair) := ⟨rfl, rfl, rfl, by decide +kernel, rfl, by decide +kernel, by decide +kernel⟩
/-- of_pair: the verdict of a pair; what is known grows -/
def spOfPair (cV : Addr) : Sp := fun vs H Q _ => ∃ (v d l t : Addr) (as : List Addr) (c : Ctn) (kn : List Pr) (D : Nat) (p : Pr), vs = [.ref v, .ref t] ∧ VerS H cV v d l as c kn D ∧ VerM c kn [] D ∧ Lim c ∧ PrAt H t p ∧ (p.1 < c.length ∧ p.2 < c.length) ∧
  ∀ H' t' kn' D', Kp [v, d] H H' → VerS H' cV v d l as c kn' D' → VerM c kn' [] D' → p ∈ kn' → (∀ q ∈ kn, q ∈ kn') → (p ∈ kn → kn' = kn ∧ D' = D) → H' t' = some (.tup (vdL (VV c p))) → Q (.ref t') H'
section
variable {P : Program} {w : World} {K : PySem.W.Frag} {mg : Str → Option Value} {base : Heap} {cV cO cH : Addr}
theorem ok_Verdicts_of_pair (T : Txt K mg cV cO cH) : Mt0 P w K mg base 4 cV "of_pair" ["self", "pair"] (spOfPair cV) := by
  have h_go_on := ok_Verdicts_go_on (P := P) (w := w) (base := base) T
  refine T.d_Verdicts_of_pair.ok sc_Verdicts_of_pair (fun vs H Q E h => ?_) (fun _ _ _ _ _ _ us hl => match us, hl with | [_, _], _ => rfl) (fun f cdv A outer s H vs Q E hr h => ?_)
  · obtain ⟨_, _, _, _, _, _, _, _, _, rfl, _⟩ := h
    rfl
  · have hu := hu_of hr
    obtain ⟨v, d, l, t, as, c, kn, D, p, rfl, hV, hM, hL, ht, rp, q⟩ := h
    refine ⟨_, (pss_cons (ps_set (i := 2) sc_Verdicts_of_pair.nd rfl (by first | exact Or.inl rfl | exact Or.inr rfl) (pe_lst (pa_cons (pe_lst (pa_cons (pv 1) (pa_cons pe_int (pa_cons pe_int (pa_cons pe_int pa_nil))))) pa_nil)))
    (pss_cons (ps_set (i := 3) sc_Verdicts_of_pair.nd rfl (by first | exact Or.inl rfl | exact Or.inr rfl) (pe_disp1 hu (pv 1) pe_bl))
    (pss_cons (ps_while PassesOwn.never (pt_cmp (pc_dnotin hu (pv 1) (pe_fld (pv 0) rfl)))
      (pss_cons (ps_set (i := 4) sc_Verdicts_of_pair.nd rfl (by first | exact Or.inl rfl | exact Or.inr rfl) (pe_ix ix_list (pv 2) (pe_un un_neg pe_int) (fun _ _ => rfl)))
      (pss_cons (ps_set (i := 5) sc_Verdicts_of_pair.nd rfl (by first | exact Or.inl rfl | exact Or.inr rfl) (pe_mtd (pv 0) T.clV h_go_on hr (by decide) (pa_cons (pv 4) (pa_cons (pv 3) pa_nil))))
      (pss_one (ps_if (pt_cmpR op_isN (pv 5) pe_non (nomark _))
        (pss_cons (ps_expr (pe_bm0 PySem.F.plainAttrs_list PySem.F.slot_list_pop PySem.F.type_list_pop mt_pop (pv 2)))
        (pss_one (ps_expr (pe_bm PySem.F.plainAttrs_dict PySem.F.slot_dict_pop PySem.F.type_dict_pop (mt_popT1 hu) (pv 3) (pa_cons (pe_ix ix_list (pv 4) pe_int (fun _ _ => rfl)) pa_nil)))))
        (pss_cons (ps_expr (pe_bm PySem.F.plainAttrs_list PySem.F.slot_list_append PySem.F.type_list_append mt_append (pv 2) (pa_cons (pe_lst (pa_cons (pv 5) (pa_cons pe_int (pa_cons pe_int (pa_cons pe_int pa_nil))))) pa_nil)))
        (pss_one (ps_dput hu (pv 3) (pv 5) pe_bl rfl))))))))
    (pss_one (ps_ret (pe_dget hu (pe_fld (pv 0) rfl) (pv 1) (fun _ _ => rfl))))))), ?_⟩
    obtain ⟨a1, a2, a3, a4⟩ := hV.apart
    obtain ⟨dx, ev⟩ := hV.ins
    obtain ⟨kvs, ed, hK⟩ := hV.dct
    walk_at "go"
    refine ⟨by show 4 ≤ sizeLine; decide, fun f0 hf0 => ?_⟩
    walk_at "go"
    refine ⟨by show 1 ≤ sizeLine; decide, fun sK hs => ?_⟩
    walk_at "go"
    intro aK ha
    obtain ⟨ns, hs0⟩ := upd_none hs
    obtain ⟨na, ha1⟩ := upd_none ha
    obtain ⟨na2, ha0⟩ := upd_none ha1
    have u1 : ∀ {x : Addr} {o : HO}, H x = some o → upd (upd (upd H f0 (.lst [.ref t, .int 0, .int 1, .int 1])) sK (.lst [.ref f0])) aK (.dT []) x = some o := fun {x o} e =>
      (upd_ne (ne_of_none e ha0)).trans ((upd_ne (ne_of_none e hs0)).trans ((upd_ne (ne_of_none e hf0)).trans e))
    walk_at "go"
    refine ⟨upd_same, t, kk p, rfl, u1 ht, ?_⟩
    have k1 : Kp [v, d] H (upd (upd (upd (upd H f0 (.lst [.ref t, .int 0, .int 1, .int 1])) sK (.lst [.ref f0])) aK (.dT [])) aK (.dT [(kk p, V.bl true)])) :=
      (((Kp.new (S := []) hf0).new' hs).new' ha).via (Kp.wr (S := [aK]) (u := .dT []) (List.mem_singleton.mpr rfl) upd_same (fun _ z => nomatch z)) (fun b hb => .inr (List.mem_singleton.mp hb ▸ ha0)) |>.of0
    have k0 : Kp [] H (upd (upd (upd (upd H f0 (.lst [.ref t, .int 0, .int 1, .int 1])) sK (.lst [.ref f0])) aK (.dT [])) aK (.dT [(kk p, V.bl true)])) :=
      (((Kp.new (S := []) hf0).new' hs).new' ha).via (Kp.wr (S := [aK]) (u := .dT []) (List.mem_singleton.mpr rfl) upd_same (fun _ z => nomatch z)) (fun b hb => .inr (List.mem_singleton.mp hb ▸ ha0))
    generalize hH1 : (upd (upd (upd (upd H f0 (.lst [.ref t, .int 0, .int 1, .int 1])) sK (.lst [.ref f0])) aK (.dT [])) aK (.dT [(kk p, V.bl true)])) = H1 at k1 k0
    have V1 := hV.kp0 k0
    have eF : H1 f0 = some (.lst [.ref t, .int 0, .int 1, .int 1]) := by
      rw [← hH1, upd_ne na2.symm, upd_ne na2.symm, upd_ne ns.symm, upd_same]
    have eS : H1 sK = some (.lst [.ref f0]) := by
      rw [← hH1, upd_ne na.symm, upd_ne na.symm, upd_same]
    have eA : H1 aK = some (.dT [(kk p, V.bl true)]) := by
      rw [← hH1, upd_same]
    walk_at "go"
    by_cases ik : p ∈ kn
    · refine i_while (fun m σ H' => H' = H1 ∧ ∃ z4 z5, σ = [some (.ref v), some (.ref t), some (.ref sK), some (.ref aK), z4, z5]) 0 ⟨rfl, _, _, rfl⟩ ?_
      rintro m σ H' ⟨rfl, z4, z5, rfl⟩
      obtain ⟨tv, g1, g2⟩ := hK.get_in ik
      walk_at "go"
      refine ⟨_, _, _, _, _, rfl, k0.at0 ev, T.clV, T.nV_known, vf_known _ _ _, ?_⟩
      refine ⟨d, _, rfl, DGet.t (k := kk p) (k0.at0 ed) (ht.kp k0), ?_⟩
      rw [g1]
      walk_at "go"
      refine iteF rfl ?_
      walk_at "go"
      refine ⟨_, _, _, _, _, rfl, k0.at0 ev, T.clV, T.nV_known, vf_known _ _ _, ?_⟩
      walk_at "go"
      refine ⟨d, .ref tv, rfl, g1 ▸ DGet.t (k := kk p) (k0.at0 ed) (ht.kp k0), ?_⟩
      exact q _ tv kn D k1 V1 hM ik (fun _ z => z) (fun _ => ⟨rfl, rfl⟩) (k0.t _ _ g2)
    · refine i_while (fun m σ H' => ∃ kn' D' fs z4 z5, m = 2 * (484 - kn'.length - fs.length) + fs.length ∧ σ = [some (.ref v), some (.ref t), some (.ref sK), some (.ref aK), z4, z5] ∧ OfI cV H v d l as c kn p sK aK H' kn' D' fs)
        (2 * (484 - kn.length - 1) + 1) ⟨kn, D, [(f0, p)], _, _, rfl, rfl, ?_⟩ ?_
      · refine ⟨k1, V1, ⟨hM.nd, hM.rg, hM.kb, fun x hx y hy => .inl ((hM.cl x hx y hy).elim id fun z => nomatch z), hM.dp⟩, fun _ z => z, eS, eA, fun x hx => ?_, by simp, by simp, True.intro, hs0, ha0, by simpa using ns, .inr ⟨f0, [], rfl⟩⟩
        rw [List.mem_singleton] at hx
        subst hx
        exact ⟨t, 0, 1, 1, eF, ht.kp k0, FrI.fresh c kn p, ik, rp, hf0⟩
      · rintro m σ H2 ⟨kn', D', fs, z4, z5, rfl, rfl, I⟩
        have hm := I.room hL
        obtain ⟨dx2, ev2⟩ := I.hV.ins
        obtain ⟨kvs2, ed2, hK2⟩ := I.hV.dct
        have ht2 := ht.kp I.kp
        walk_at "go"
        refine ⟨_, _, _, _, _, rfl, ev2, T.clV, T.nV_known, vf_known _ _ _, ?_⟩
        refine ⟨d, _, rfl, DGet.t (k := kk p) ed2 ht2, ?_⟩
        by_cases ik2 : p ∈ kn'
        · obtain ⟨tv, g1, g2⟩ := hK2.get_in ik2
          rw [g1]
          walk_at "go"
          refine iteF rfl ?_
          walk_at "go"
          refine ⟨_, _, _, _, _, rfl, ev2, T.clV, T.nV_known, vf_known _ _ _, ?_⟩
          walk_at "go"
          refine ⟨d, .ref tv, rfl, g1 ▸ DGet.t (k := kk p) ed2 ht2, ?_⟩
          have efs : fs = [] := by
            rcases I.bot with ⟨z, _⟩ | ⟨f1, rest, z⟩
            · exact z
            · obtain ⟨_, _, _, _, _, _, _, n, _, _⟩ := I.hF (f1, p) (by rw [z]; exact List.mem_cons_self ..)
              exact absurd ik2 n
          have M2 := I.hM
          rw [efs] at M2
          exact q _ tv kn' D' I.kp I.hV M2 ik2 I.sub (fun z => absurd z ik) g2
        · rw [hK2.get_out ik2]
          walk_at "go"
          refine iteT rfl (WhB.go ?_)
          obtain ⟨ini, ⟨g, p1⟩, rfl⟩ := snoc_of (l := fs) (fun z => (I.bot.elim (fun y => ik2 y.2) fun ⟨_, _, y⟩ => by rw [z] at y; cases y))
          obtain ⟨t1, pl, s1, d1, eg, et1, F1, n1, r1, g0⟩ := I.hF (g, p1) (List.mem_append_right _ (List.mem_singleton.mpr rfl))
          have hS2 : H2 sK = some (.lst ((ini.map fun x => V.ref x.1) ++ [.ref g])) := by rw [I.hS, List.map_append]; rfl
          have hA2 : ActS H2 aK (ini.map (·.2) ++ [p1]) := by have z := I.hA; rw [List.map_append] at z; exact z
          have hM2 : VerM c kn' (ini.map (·.2) ++ [p1]) D' := by have z := I.hM; rw [List.map_append] at z; exact z
          have st2 : Stk c (p1 :: (ini.map (·.2)).reverse) := by have z := I.st; rw [List.map_append, List.reverse_append] at z; exact z
          have na3 : ¬ p1 ∈ ini.map (·.2) := by
            have z := I.na
            rw [List.map_append, List.nodup_append] at z
            exact fun y => z.2.2 p1 y p1 (List.mem_singleton.mpr rfl) rfl
          have nf3 : ¬ g ∈ ini.map (·.1) := by
            have z := I.nf
            rw [List.map_append, List.nodup_append] at z
            exact fun y => z.2.2 g y g (List.mem_singleton.mpr rfl) rfl
          have ns3 : sK ≠ g := fun z => I.sf (by rw [List.map_append, z]; exact List.mem_append_right _ (List.mem_singleton.mpr rfl))
          have xv : ∃ o, H v = some o := ⟨_, ev⟩
          have xd : ∃ o, H d = some o := ⟨_, ed⟩
          have xl : ∃ o, H l = some o := ⟨_, hV.lst.1⟩
          have xa : ∀ a ∈ as, ∃ o, H a = some o := fun a hx => (hV.rowL hx).elim fun xs e => ⟨_, e⟩
          have nsv : sK ≠ v := ne_of I.hS ev2 (fun z => nomatch z)
          have nsd : sK ≠ d := ne_of I.hS ed2 (fun z => nomatch z)
          have nAv : aK ≠ v := ne_of I.hA ev2 (fun z => nomatch z)
          have nAd : aK ≠ d := fun z => by rw [← z, ha0] at ed; cases ed
          have nAg : aK ≠ g := ne_of I.hA eg (fun z => nomatch z)
          have nAs : aK ≠ sK := ne_of I.hA I.hS (fun z => nomatch z)
          have ngv : g ≠ v := ne_of eg ev2 (fun z => nomatch z)
          have ngd : g ≠ d := ne_of eg ed2 (fun z => nomatch z)
          walk_at "go"
          refine i_ixL hS2 (atI_last _ _) ?_
          walk_at "go"
          refine ⟨_, _, _, rfl, ev2, rfl, ?_⟩
          walk_at "go"
          refine ⟨v, d, l, g, t1, aK, as, c, kn', ini.map (·.2) ++ [p1], D', p1, (ini.map (·.2)).reverse, pl, s1, d1, rfl, ⟨I.hV, hM2, hL, eg, et1, n1, r1, by rw [List.reverse_append]; rfl, st2, F1, hA2,
            fun z => (by rw [z, hV.lst.1] at g0; cases g0), fun z => (xa g z).elim fun o e => (by rw [e] at g0; cases g0), nAd⟩, fun H3 D3 k3 V3 M3 e3 => ?_, fun H3 b q1 pl' s' d' k3 e3 hb F3 nk nact kd => ?_⟩
          · obtain ⟨x1, x2, x3, e3⟩ := e3
            have hS3 := k3.k _ _ (nin3 nsv nsd ns3) hS2
            have hA3 : H3 aK = _ := k3.k _ _ (nin3 nAv nAd nAg) hA2
            have et3 := et1.kp k3
            walk_at "go"
            refine iteT dnn ?_
            walk_at "go"
            refine ⟨ty_list hS3, sK, _, .ref g, rfl, rfl, hS3, by simp, ?_⟩
            rw [List.dropLast_concat]
            walk_at "go"
            have hA4 := (upd_ne (H := H3) (o := .lst (ini.map fun x => V.ref x.1)) nAs).trans hA3
            refine ⟨ty_dT hA4, ?_⟩
            walk_at "go"
            refine i_ixL ((upd_ne ns3.symm).trans e3) rfl ?_
            obtain ⟨u, hu1⟩ := act_some (q := p1) (act := ini.map (·.2) ++ [p1]) (List.mem_append_right _ (List.mem_singleton.mpr rfl))
            refine ⟨aK, _, kk p1, t1, u, rfl, rfl, hA4, (upd_ne (ne_of et3 hS3 (fun z => nomatch z))).trans et3, hu1, ?_⟩
            rw [act_drop na3]
            have y4 : Kp [sK] H3 (upd H3 sK (.lst (ini.map fun x => V.ref x.1))) := Kp.wr (List.mem_singleton.mpr rfl) hS3 (fun _ z => nomatch z)
            have y5 : Kp [aK] (upd H3 sK (.lst (ini.map fun x => V.ref x.1))) (upd (upd H3 sK (.lst (ini.map fun x => V.ref x.1))) aK (.dT ((ini.map (·.2)).map fun p => (kk p, V.bl true)))) := Kp.wr (List.mem_singleton.mpr rfl) hA4 (fun _ z => nomatch z)
            have V5 := (V3.new1 y4 hs0 xv xd xl xa).new1 y5 ha0 xv xd xl xa
            have K3 : Kp [v, d] H H3 := I.kp.via k3 fun b hb => by
              rcases List.mem_cons.mp hb with z | hb
              · exact .inl (z ▸ List.mem_cons_self ..)
              · rcases List.mem_cons.mp hb with z | hb
                · exact .inl (z ▸ List.mem_cons_of_mem _ (List.mem_singleton.mpr rfl))
                · exact .inr (List.mem_singleton.mp hb ▸ g0)
            have K5 := (K3.via y4 fun b hb => .inr (List.mem_singleton.mp hb ▸ hs0)).via y5 fun b hb => .inr (List.mem_singleton.mp hb ▸ ha0)
            have lk : (kn' ++ [p1]).length = kn'.length + 1 := by simp
            have li : (ini ++ [(g, p1)]).length = ini.length + 1 := by simp
            rw [li] at hm
            refine ⟨2 * (484 - (kn' ++ [p1]).length - ini.length) + ini.length, by rw [lk, li]; omega, kn' ++ [p1], D3, ini, _, _, rfl, rfl, K5, V5, ⟨M3.nd, M3.rg, M3.kb, fun x hx y hy => ?_, M3.dp⟩, fun z hz => List.mem_append_left _ (I.sub z hz), ?_, upd_same, fun x hx => ?_, ?_, ?_, st2.tail, hs0, ha0, ?_, ?_⟩
            · rcases M3.cl x hx y hy with z | z
              · exact .inl z
              · rcases List.mem_append.mp z with z | z
                · exact .inr z
                · exact .inl (List.mem_append_right _ z)
            · exact (upd_ne nAs.symm).trans upd_same
            · have hx2 := I.hF x (List.mem_append_left _ hx)
              obtain ⟨tx, _, _, _, ex, _, _, nx, _, x0⟩ := id hx2
              have mx : x.1 ∈ ini.map (·.1) := List.mem_map.mpr ⟨x, hx, rfl⟩
              have mx2 : x.2 ∈ ini.map (·.2) := List.mem_map.mpr ⟨x, hx, rfl⟩
              refine ((hx2.kp k3 (nin3 (ne_of ex ev2 (fun z => nomatch z)) (ne_of ex ed2 (fun z => nomatch z)) (fun z => nf3 (z ▸ mx))) (fun z hz => List.mem_append_left _ hz) (fun z => ?_)).kp y4 (fun z => I.sf ?_) (fun _ z => z) (fun z => ?_)).kp y5 (fun z => ?_) (fun _ z => z) (fun z => ?_)
              · rcases List.mem_append.mp z with z | z
                · exact nx z
                · exact na3 (List.mem_singleton.mp z ▸ mx2)
              · rw [List.map_append]
                exact List.mem_append_left _ (List.mem_singleton.mp z ▸ mx)
              · rcases List.mem_append.mp z with z | z
                · exact nx z
                · exact na3 (List.mem_singleton.mp z ▸ mx2)
              · rw [List.mem_singleton] at z
                have e := I.hA
                unfold ActS at e
                rw [← z, ex] at e
                cases e
              · rcases List.mem_append.mp z with z | z
                · exact nx z
                · exact na3 (List.mem_singleton.mp z ▸ mx2)
            · have z := I.nf
              rw [List.map_append, List.nodup_append] at z
              exact z.1
            · have z := I.na
              rw [List.map_append, List.nodup_append] at z
              exact z.1
            · intro z
              exact I.sf (by rw [List.map_append]; exact List.mem_append_left _ z)
            · rcases I.bot with ⟨z, _⟩ | ⟨f1, rest, z⟩
              · exact absurd z (by simp)
              · cases ini with
                | nil =>
                  have z2 : (g, p1) = (f1, p) := (List.cons.inj z).1
                  exact .inl ⟨rfl, List.mem_append_right _ (List.mem_singleton.mpr (congrArg Prod.snd z2).symm)⟩
                | cons x r =>
                  have z2 : x = (f1, p) := (List.cons.inj z).1
                  exact .inr ⟨f1, r, by rw [z2]⟩
          · have hS3 := k3.k _ _ (fun z => ns3 (List.mem_singleton.mp z)) hS2
            have hA3 : H3 aK = _ := k3.k _ _ (fun z => nAg (List.mem_singleton.mp z)) hA2
            have li : (ini ++ [(g, p1)]).length = ini.length + 1 := by simp
            rw [li] at hm
            walk_at "go"
            refine iteF drn ?_
            walk_at "go"
            refine ⟨ty_list hS3, ?_⟩
            walk_at "go"
            refine ⟨by show 4 ≤ sizeLine; decide, fun h hh => ?_⟩
            have u3 : ∀ {x : Addr} {o : HO}, H3 x = some o → upd H3 h (.lst [.ref b, .int 0, .int 1, .int 1]) x = some o := fun {x o} e => (upd_ne (ne_of_none e hh)).trans e
            walk_at "go"
            refine ⟨sK, _, .ref h, rfl, rfl, u3 hS3, ?_, ?_⟩
            · rw [List.length_append, List.length_map]
              exact Nat.lt_of_le_of_lt (show ini.length + 1 ≤ 484 by omega) (by decide)
            walk_at "go"
            have hA4 := (upd_ne (o := .lst (((ini.map fun x => V.ref x.1) ++ [.ref g]) ++ [.ref h])) nAs).trans (u3 hA3)
            have hb4 := (upd_ne (o := .lst (((ini.map fun x => V.ref x.1) ++ [.ref g]) ++ [.ref h])) (ne_of hb hS3 (fun z => nomatch z))).trans (u3 hb)
            refine ⟨aK, _, rfl, DPut.t (k := kk q1) hA4 hb4 ?_, ?_⟩
            · rw [List.length_map, List.length_append, List.length_map]
              exact Nat.lt_of_le_of_lt (show ini.length + 1 ≤ 484 by omega) (by decide)
            rw [act_put nact]
            walk_at "go"
            have y3 : Kp [] H3 (upd H3 h (.lst [.ref b, .int 0, .int 1, .int 1])) := Kp.new hh
            have y4 : Kp [sK] (upd H3 h (.lst [.ref b, .int 0, .int 1, .int 1])) (upd (upd H3 h (.lst [.ref b, .int 0, .int 1, .int 1])) sK (.lst (((ini.map fun x => V.ref x.1) ++ [.ref g]) ++ [.ref h]))) := Kp.wr (List.mem_singleton.mpr rfl) (u3 hS3) (fun _ z => nomatch z)
            have y5 : Kp [aK] (upd (upd H3 h (.lst [.ref b, .int 0, .int 1, .int 1])) sK (.lst (((ini.map fun x => V.ref x.1) ++ [.ref g]) ++ [.ref h]))) (upd (upd (upd H3 h (.lst [.ref b, .int 0, .int 1, .int 1])) sK (.lst (((ini.map fun x => V.ref x.1) ++ [.ref g]) ++ [.ref h]))) aK (.dT ((ini.map (·.2) ++ [p1] ++ [q1]).map fun p => (kk p, V.bl true)))) := Kp.wr (List.mem_singleton.mpr rfl) hA4 (fun _ z => nomatch z)
            have K3 : Kp [v, d] H H3 := I.kp.via k3 fun x hx => .inr (List.mem_singleton.mp hx ▸ g0)
            have ev3 := k3.k _ _ (fun z => ngv (List.mem_singleton.mp z).symm) ev2
            have ed3 := k3.k _ _ (fun z => ngd (List.mem_singleton.mp z).symm) ed2
            have h0 : H h = none := K3.free (fun z => by
              rcases List.mem_cons.mp z with z | z
              · rw [z, ev3] at hh; cases hh
              · rw [List.mem_singleton.mp z, ed3] at hh; cases hh) hh
            have V5 := (((I.hV.new1 k3 g0 xv xd xl xa).kp0 y3).new1 y4 hs0 xv xd xl xa).new1 y5 ha0 xv xd xl xa
            have K5 := ((K3.via y3 fun _ z => nomatch z).via y4 fun b hb => .inr (List.mem_singleton.mp hb ▸ hs0)).via y5 fun b hb => .inr (List.mem_singleton.mp hb ▸ ha0)
            have ns4 : sK ≠ h := fun z => by rw [← z, hS3] at hh; cases hh
            have nA4 : aK ≠ h := fun z => by rw [← z, hA3] at hh; cases hh
            have fr0 : ∀ x ∈ ini ++ [(g, p1)], Frm H H3 c kn' x.1 x.2 := fun x hx => by
              rcases List.mem_append.mp hx with hx | hx
              · have hx2 := I.hF x (List.mem_append_left _ hx)
                obtain ⟨tx, _, _, _, ex, _, _, nx, _, x0⟩ := id hx2
                have mx : x.1 ∈ ini.map (·.1) := List.mem_map.mpr ⟨x, hx, rfl⟩
                exact hx2.kp k3 (fun z => nf3 (List.mem_singleton.mp z ▸ mx)) (fun _ z => z) nx
              · rw [List.mem_singleton] at hx
                subst hx
                exact ⟨t1, pl', s', d', e3, et1.kp k3, F3, n1, r1, g0⟩
            have I5 : OfI cV H v d l as c kn p sK aK (upd (upd (upd H3 h (.lst [.ref b, .int 0, .int 1, .int 1])) sK (.lst (((ini.map fun x => V.ref x.1) ++ [.ref g]) ++ [.ref h]))) aK (.dT ((ini.map (·.2) ++ [p1] ++ [q1]).map fun p => (kk p, V.bl true)))) kn' D' (ini ++ [(g, p1)] ++ [(h, q1)]) := by
              refine ⟨K5, V5, ⟨I.hM.nd, I.hM.rg, I.hM.kb, fun x hx y hy => (I.hM.cl x hx y hy).imp id fun z => by rw [List.map_append]; exact List.mem_append_left _ z, I.hM.dp⟩, I.sub, ?_, ?_, fun x hx => ?_, ?_, ?_, ?_, hs0, ha0, ?_, ?_⟩
              · exact (upd_ne nAs.symm).trans (upd_same.trans (by simp))
              · unfold ActS
                exact upd_same.trans (by simp)
              · rcases List.mem_append.mp hx with hx | hx
                · have hx2 := fr0 x hx
                  obtain ⟨tx, _, _, _, ex, _, _, nx, _, x0⟩ := id hx2
                  have mx : x.1 ∈ (ini ++ [(g, p1)]).map (·.1) := List.mem_map.mpr ⟨x, hx, rfl⟩
                  refine ((hx2.kp y3 (fun z => nomatch z) (fun _ z => z) nx).kp y4 (fun z => I.sf (List.mem_singleton.mp z ▸ mx)) (fun _ z => z) nx).kp y5 (fun z => ?_) (fun _ z => z) nx
                  rw [List.mem_singleton] at z
                  unfold ActS at hA3
                  rw [← z, ex] at hA3
                  cases hA3
                · rw [List.mem_singleton] at hx
                  subst hx
                  exact ⟨b, 0, 1, 1, (upd_ne nA4.symm).trans ((upd_ne ns4.symm).trans upd_same), (((PrAt.kp hb y3).kp y4).kp y5), FrI.fresh c kn' q1, nk, kidsOf_rng hL.rng kd, h0⟩
              · rw [List.map_append, List.nodup_append]
                refine ⟨I.nf, by simp, fun x hx y hy e => ?_⟩
                obtain ⟨z, hz, rfl⟩ := List.mem_map.mp hx
                obtain ⟨tx, _, _, _, ex, _⟩ := fr0 z hz
                have y2 : y = h := by simpa using hy
                rw [e, y2, hh] at ex
                cases ex
              · rw [List.map_append, List.nodup_append]
                refine ⟨I.na, by simp, fun x hx y hy e => ?_⟩
                have y2 : y = q1 := by simpa using hy
                rw [e, y2, List.map_append] at hx
                exact nact hx
              · rw [List.map_append, List.reverse_append, List.map_append, List.reverse_append]
                exact ⟨kd, st2⟩
              · rw [List.map_append]
                intro z
                rcases List.mem_append.mp z with z | z
                · exact I.sf z
                · exact ns4 (by simpa using z)
              · rcases I.bot with ⟨z, _⟩ | ⟨f1, rest, z⟩
                · exact absurd z (by simp)
                · exact .inr ⟨f1, rest ++ [(h, q1)], by rw [z]; rfl⟩
            have hm5 := I5.room hL
            have lj : (ini ++ [(g, p1)] ++ [(h, q1)]).length = ini.length + 2 := by simp
            rw [lj] at hm5
            exact ⟨2 * (484 - kn'.length - (ini ++ [(g, p1)] ++ [(h, q1)]).length) + (ini ++ [(g, p1)] ++ [(h, q1)]).length, by rw [lj, li]; omega, kn', D', ini ++ [(g, p1)] ++ [(h, q1)], _, _, rfl, rfl, I5⟩
end
end Rk
set_option Elab.async false
set_option linter.all false
set_option maxRecDepth 100000
set_option maxHeartbeats 4000000
/-! list(zip(xs, ys)) of two lists: new pairs in a new list. -/
namespace RkZ
open PySem PySem.Spec PyProof.Rows
theorem no_len : typeLookup (.type "zip") "__len__" = pure none := by rw [typeLookup_type, builtinLookup_eq_fast]; kernel_rfl
theorem no_hint : typeLookup (.type "zip") "__length_hint__" = pure none := by rw [typeLookup_type, builtinLookup_eq_fast]; kernel_rfl
/-- a zip object on its way, while a list grows at S -/
structure On (z TI TO i1 i2 l1 l2 S : Addr) (xs ys : Array Value) (i : Nat) (h : Heap) : Prop where
  ti : IsPair h TI (.ref i1) (.ref i2)
  a1 : h.IsListIter i1 l1 i
  a2 : h.IsListIter i2 l2 i
  b1 : h.IsList l1 xs
  b2 : h.IsList l2 ys
  zp : (IsZip h z TI TO .none ∧ ∃ a b, IsPair h TO a b) ∨ ∃ T f oT, IsZipHeld h z TI TO T f ∧ h.get? T = some oT ∧ T ≠ z ∧ T ≠ i1 ∧ T ≠ i2 ∧ T ≠ S
section
variable {z TI TO i1 i2 l1 l2 S : Addr} {xs ys : Array Value} {i : Nat} {h h' : Heap}
theorem On.keep (o : On z TI TO i1 i2 l1 l2 S xs ys i h) (n : S ≠ z ∧ S ≠ TI ∧ S ≠ TO ∧ S ≠ i1 ∧ S ≠ i2 ∧ S ≠ l1 ∧ S ≠ l2) (k : ∀ b u, b ≠ S → h.get? b = some u → h'.get? b = some u) : On z TI TO i1 i2 l1 l2 S xs ys i h' := by
  obtain ⟨n1, n2, n3, n4, n5, n6, n7⟩ := n
  refine ⟨k _ _ n2.symm o.ti, o.a1.at fun u e => k _ u n4.symm e, o.a2.at fun u e => k _ u n5.symm e, o.b1.at fun u e => k _ u n6.symm e, o.b2.at fun u e => k _ u n7.symm e, ?_⟩
  rcases o.zp with ⟨e, a, b, p⟩ | ⟨T, f, oT, e, eT, r⟩
  · exact .inl ⟨k _ _ n1.symm e, a, b, k _ _ n3.symm p⟩
  · exact .inr ⟨T, f, oT, k _ _ n1.symm e, k _ _ r.2.2.2 eT, r⟩
theorem On.zlt (o : On z TI TO i1 i2 l1 l2 S xs ys i h) : z < h.objs.size := by
  rcases o.zp with ⟨e, _⟩ | ⟨T, f, oT, e, _⟩
  · exact Heap.lt_size e
  · exact Heap.lt_size e
end
section
variable {prog : Program} {w : World} {A : Around} {E : Value → Shared → Prop} {s : Shared} {z TI TO i1 i2 l1 l2 S : Addr} {xs ys : Array Value} {i : Nat}
theorem nxt {Q : Option Value → Shared → Prop} (D : ZipApart z TI TO i1 i2 l1 l2) (o : On z TI TO i1 i2 l1 l2 S xs ys i s.heap) (hS : S < s.heap.objs.size) {x y : Value} (ex : xs[i]? = some x) (ey : ys[i]? = some y)
    (hQ : ∀ h', On z TI TO i1 i2 l1 l2 S xs ys (i + 1) h' → IsPair h' s.heap.objs.size x y → (∀ c u, c ≠ z → c ≠ TO → c ≠ i1 → c ≠ i2 → s.heap.get? c = some u → h'.get? c = some u) → Q (some (.ref s.heap.objs.size)) { s with heap := h' }) :
    wpAny (model prog w) A (pyNext (.ref z)) Q E s := by
  have big : ∀ {c u}, s.heap.get? c = some u → s.heap.objs.size ≠ c := fun e => Nat.ne_of_gt (Heap.lt_size e)
  have m1 : s.heap.objs.size ≠ i1 := let ⟨_, e, _⟩ := o.a1; big e
  have m2 : s.heap.objs.size ≠ i2 := let ⟨_, e, _⟩ := o.a2; big e
  have mz : s.heap.objs.size ≠ z := Nat.ne_of_gt o.zlt
  rcases o.zp with ⟨e, a, b, p⟩ | ⟨T, f, oT, e, eT, r1, r2, r3, r4⟩
  · refine wpAny_pyNext_zip_item D e o.ti p o.a1 o.a2 o.b1 o.b2 ex ey fun h' q1 q2 q3 q4 q5 q6 k => hQ h' ⟨k _ _ D.TIz D.TITO D.TIi1 D.TIi2 o.ti, q3, q4, o.b1.at fun u q => k _ u D.l1z D.l1TO D.l1i1 D.l1i2 q, o.b2.at fun u q => k _ u D.l2z D.l2TO D.l2i1 D.l2i2 q,
      .inr ⟨_, false, _, q1, q5, mz, m1, m2, Nat.ne_of_gt hS⟩⟩ q5 k
  · refine wpAny_pyNext_zip_item_held D e eT o.ti o.a1 o.a2 o.b1 o.b2 ex ey fun h' q1 q3 q4 q5 q6 k => hQ h' ⟨k _ _ D.TIz D.TIi1 D.TIi2 o.ti, q3, q4, o.b1.at fun u q => k _ u D.l1z D.l1i1 D.l1i2 q, o.b2.at fun u q => k _ u D.l2z D.l2i1 D.l2i2 q,
      .inr ⟨T, true, oT, q1, k _ _ r1 r2 r3 eT, r1, r2, r3, r4⟩⟩ q5 fun c u c1 _ c3 c4 q => k c u c1 c3 c4 q
theorem fin {Q : Option Value → Shared → Prop} (hh : A.handled = none) (D : ZipApart z TI TO i1 i2 l1 l2) (o : On z TI TO i1 i2 l1 l2 S xs ys i s.heap) (he : xs[i]? = none ∨ ys[i]? = none)
    (hQ : ∀ h', (∀ c u, c ≠ z → c ≠ TO → c ≠ i1 → c ≠ i2 → s.heap.get? c = some u → h'.get? c = some u) → Q none { s with heap := h' }) : wpAny (model prog w) A (pyNext (.ref z)) Q E s := by
  rcases o.zp with ⟨e, a, b, p⟩ | ⟨T, f, oT, e, eT, r1, r2, r3, r4⟩
  · exact wpAny_pyNext_zip_end hh D e o.ti p o.a1 o.a2 o.b1 o.b2 he fun h' k => hQ h' k
  · exact wpAny_pyNext_zip_end_held hh D e eT o.ti o.a1 o.a2 o.b1 o.b2 he fun h' k => hQ h' fun c u c1 _ c3 c4 q => k c u c1 c3 c4 q
end
theorem ng {a b n : Nat} (h : a < n) (k : n ≤ b) : b ≠ a := by omega
/-- the pairs so far: at new places, rising -/
structure Pairs (xs ys : Array Value) (lo : Nat) (h : Heap) (as : List Addr) : Prop where
  rise : as.Pairwise (· < ·)
  above : ∀ a ∈ as, lo ≤ a
  at_ : ∀ (j : Nat) (a : Addr), as[j]? = some a → ∃ x y, xs[j]? = some x ∧ ys[j]? = some y ∧ IsPair h a x y
section
variable {prog : Program} {w : World} {A : Around} {s : Shared} {R : Result → Shared → Prop} {z TI TO i1 i2 l1 l2 S : Addr} {xs ys : Array Value}
theorem loop (hh : A.handled = none) (D : ZipApart z TI TO i1 i2 l1 l2) (nS : S ≠ z ∧ S ≠ TI ∧ S ≠ TO ∧ S ≠ i1 ∧ S ≠ i2 ∧ S ≠ l1 ∧ S ≠ l2) (hn : min xs.size ys.size ≤ sizeLine) (res : Value) {h₁ : Heap} (lz : z < h₁.objs.size ∧ TO < h₁.objs.size ∧ i1 < h₁.objs.size ∧ i2 < h₁.objs.size ∧ S < h₁.objs.size)
    (hR : ∀ h' tk acc c as, (∀ b o, b ≠ S → b ≠ z → b ≠ TO → b ≠ i1 → b ≠ i2 → h₁.get? b = some o → h'.get? b = some o) → h'.get? S = some { cls := .type "list", dict := none, data := .seq acc c, slots := #[] } → as.length = min xs.size ys.size → Pairs xs ys h₁.objs.size h' as →
      acc.toList = as.map Value.ref → R (.ok (.ret res)) { s with heap := h', toks := tk }) :
    ∀ (k i : Nat) (h : Heap) (tk c : Nat) (acc : Array Value) (as : List Addr), min xs.size ys.size - i = k → i ≤ min xs.size ys.size → On z TI TO i1 i2 l1 l2 S xs ys i h → (∀ b o, b ≠ S → b ≠ z → b ≠ TO → b ≠ i1 → b ≠ i2 → h₁.get? b = some o → h.get? b = some o) →
      h.get? S = some { cls := .type "list", dict := none, data := .seq acc c, slots := #[] } → acc.toList = as.map Value.ref → as.length = i → Pairs xs ys h₁.objs.size h as → h₁.objs.size ≤ h.objs.size →
      codeAny (model prog w) A (.builtin "list.extend.loop" ⟨[.ref S, .ref z, res], []⟩) R { s with heap := h, toks := tk } := by
  obtain ⟨n1, n2, n3, n4, n5, n6, n7⟩ := id nS
  obtain ⟨lz1, lz2, lz3, lz4, lz5⟩ := lz
  intro k
  induction k with
  | zero =>
    intro i h tk c acc as hk hi o hkeep hS hacc hal hG hsz
    refine codeAny_builtin PySem.F.entry_extend_loop ?_
    rw [Around.under_plainId PySem.F.plain_extend_loop _]
    show wpAny _ A.in1 (pyNext (.ref z) >>= _) _ _ _
    have he : xs[i]? = none ∨ ys[i]? = none := by
      rcases Nat.le_total xs.size ys.size with q | q
      · exact .inl (Array.getElem?_eq_none (by rw [Nat.min_eq_left q] at hk hi; omega))
      · exact .inr (Array.getElem?_eq_none (by rw [Nat.min_eq_right q] at hk hi; omega))
    refine wpAny_bind (fin (s := { s with heap := h, toks := tk }) (A := A.in1) hh D o he fun h' ke => ?_)
    refine wpAny_pure (hR h' tk acc c as (fun b u c0 c1 c2 c3 c4 e => ke b u c1 c2 c3 c4 (hkeep b u c0 c1 c2 c3 c4 e)) (ke S _ n1 n3 n4 n5 hS) (by omega) ⟨hG.rise, hG.above, fun j a hj => ?_⟩ hacc)
    obtain ⟨x, y, e1, e2, e3⟩ := hG.at_ j a hj
    have ha := hG.above a (List.mem_of_getElem? hj)
    exact ⟨x, y, e1, e2, ke a _ (ng lz1 ha) (ng lz2 ha) (ng lz3 ha) (ng lz4 ha) e3⟩
  | succ k ih =>
    intro i h tk c acc as hk hi o hkeep hS hacc hal hG hsz
    have hlt : i < min xs.size ys.size := by omega
    have hix : i < xs.size := Nat.lt_of_lt_of_le hlt (Nat.min_le_left ..)
    have hiy : i < ys.size := Nat.lt_of_lt_of_le hlt (Nat.min_le_right ..)
    have hac : acc.size = i := by rw [← Array.length_toList, hacc, List.length_map, hal]
    have hSl : S < h.objs.size := Heap.lt_size hS
    refine codeAny_builtin PySem.F.entry_extend_loop ?_
    rw [Around.under_plainId PySem.F.plain_extend_loop _]
    show wpAny _ A.in1 (pyNext (.ref z) >>= _) _ _ _
    refine wpAny_bind (nxt (s := { s with heap := h, toks := tk }) D o hSl (Array.getElem?_eq_getElem hix) (Array.getElem?_eq_getElem hiy) fun h' o' hp ke => ?_)
    dsimp only at hp ke ⊢
    have hS' := ke S _ n1 n3 n4 n5 hS
    have up : ∀ b u, b ≠ S → h'.get? b = some u → (h'.update S (Obj.mapSeq (·.push (Value.ref h.objs.size)))).get? b = some u := fun b u hb e => (Heap.get?_update_other _ _ (Ne.symm hb)).trans e
    show wpAny _ A.in1 (updateSeq S (·.push (Value.ref h.objs.size)) >>= _) _ _ _
    refine wpAny_bind ?_
    refine wpAny_updateSeq hS' rfl (wpAny_pure ⟨plainId_quiet PySem.F.plain_extend_loop _, ih (i + 1) _ tk _ (acc.push (Value.ref h.objs.size)) (as ++ [h.objs.size]) (by omega) hlt (o'.keep nS up)
      (fun b u c0 c1 c2 c3 c4 e => up b u c0 (ke b u c1 c2 c3 c4 (hkeep b u c0 c1 c2 c3 c4 e))) (Heap.get?_update_self _ hS' rfl) (by rw [Array.toList_push, hacc, List.map_append]; rfl) (by rw [List.length_append, hal]; rfl) ⟨?_, ?_, ?_⟩ ?_⟩) (by rw [hac]; omega) (by show (acc.push (Value.ref h.objs.size)).size ≤ sizeLine + 1; rw [Array.size_push, hac]; omega)
    · refine List.pairwise_append.mpr ⟨hG.rise, List.pairwise_singleton _ _, fun a ha b hb => ?_⟩
      rw [List.mem_singleton.mp hb]
      obtain ⟨j, hj⟩ := List.mem_iff_getElem?.mp ha
      obtain ⟨_, _, _, _, e⟩ := hG.at_ j a hj
      exact Heap.lt_size e
    · intro a ha
      rcases List.mem_append.mp ha with ha | ha
      · exact hG.above a ha
      · rw [List.mem_singleton.mp ha]
        exact hsz
    · intro j b hj
      rcases Nat.lt_trichotomy j as.length with q | q | q
      · rw [List.getElem?_append_left q] at hj
        obtain ⟨x, y, e1, e2, e3⟩ := hG.at_ j b hj
        have ha := hG.above b (List.mem_of_getElem? hj)
        exact ⟨x, y, e1, e2, up b _ (ng lz5 ha) (ke b _ (ng lz1 ha) (ng lz2 ha) (ng lz3 ha) (ng lz4 ha) e3)⟩
      · subst q
        have hb : h.objs.size = b := by simpa using hj
        subst hb
        subst hal
        exact ⟨_, _, Array.getElem?_eq_getElem hix, Array.getElem?_eq_getElem hiy, up _ _ (Nat.ne_of_gt hSl) hp⟩
      · rw [List.getElem?_eq_none (by rw [List.length_append, List.length_singleton]; omega)] at hj
        cases hj
    · have e := up _ _ (Nat.ne_of_gt hSl) hp
      exact Nat.le_trans hsz (Nat.le_of_lt (Heap.lt_size e))
theorem ext (hh : A.handled = none) (D : ZipApart z TI TO i1 i2 l1 l2) (o : On z TI TO i1 i2 l1 l2 S xs ys 0 s.heap) (nS : S ≠ z ∧ S ≠ TI ∧ S ≠ TO ∧ S ≠ i1 ∧ S ≠ i2 ∧ S ≠ l1 ∧ S ≠ l2) (hn : min xs.size ys.size ≤ sizeLine) (res : Value) (c₀ : Nat) (ez : IsZip s.heap z TI TO .none) (lTO : TO < s.heap.objs.size)
    (hS : s.heap.get? S = some { cls := .type "list", data := .seq #[] c₀ })
    (hR : ∀ h' tk acc c as, (∀ b o, b ≠ S → b ≠ z → b ≠ TO → b ≠ i1 → b ≠ i2 → s.heap.get? b = some o → h'.get? b = some o) → h'.get? S = some { cls := .type "list", dict := none, data := .seq acc c, slots := #[] } → as.length = min xs.size ys.size → Pairs xs ys s.heap.objs.size h' as →
      acc.toList = as.map Value.ref → R (.ok (.ret res)) { s with heap := h', toks := tk }) :
    wpAny (model prog w) A.in1 (Builtin.List.listExtendWith (.ref S) (.ref z) res)
      (fun fin s' => match fin with | .done f => R (.ok f) s' | .again c' => c'.quiet = true ∧ codeAny (model prog w) A c' R s') (fun e s' => R (.error e) s') s := by
  have hT : s.TypeIs (.ref z) "zip" := by
    rcases o.zp with ⟨e, _⟩ | ⟨T, f, oT, e, _⟩
    · exact ⟨_, e, rfl⟩
    · exact ⟨_, e, rfl⟩
  have li1 : i1 < s.heap.objs.size := let ⟨_, e, _⟩ := o.a1; Heap.lt_size e
  have li2 : i2 < s.heap.objs.size := let ⟨_, e, _⟩ := o.a2; Heap.lt_size e
  have lS : S < s.heap.objs.size := Heap.lt_size hS
  unfold Builtin.List.listExtendWith
  refine wpAny_bind (wpAny_typeOf hT ?_)
  have h1 : Builtin.List.listSameRef (.ref S) (.ref z) = false := by simp [Builtin.List.listSameRef, nS.1]
  have h2 : (Value.type "zip" == Value.type "list") = false := by decide
  have h3 : (Value.type "zip" == Value.type "tuple") = false := by decide
  simp only [h1, h2, h3, Bool.or_false, Bool.false_eq_true, if_false]
  refine wpAny_bind (wpAny_pyIter_zip ez ?_)
  refine wpAny_bind (wpAny_holding ?_)
  unfold Builtin.List.listLengthHint
  refine wpAny_bind (wpAny_specialOf hT no_len ?_)
  show wpAny _ A.in1 (specialOf (Value.ref z) (Str.ofString "__length_hint__") >>= _) _ _ _
  refine wpAny_bind (wpAny_specialOf hT no_hint ?_)
  refine wpAny_pure ?_
  show wpAny _ A.in1 (rule "list.extend.makes-room" >>= fun _ => Builtin.List.listTouch (.ref S) >>= fun _ =>
    again (.builtin "list.extend.loop" ⟨[.ref S, .ref z, res], []⟩)) _ _ _
  refine wpAny_bind (wpAny_rule ?_)
  refine wpAny_bind ?_
  show wpAny _ A.in1 (updateSeq S (·.push .none) >>= fun _ => updateSeq S (·.pop)) _ _ _
  refine wpAny_bind (wpAny_updateSeq hS rfl ?_)
  have hS₂ := Heap.get?_update_self (Obj.mapSeq (·.push Value.none)) hS rfl
  refine wpAny_updateSeq (hz := by seq_fits) hS₂ rfl ?_
  have hS₃ := Heap.get?_update_self (Obj.mapSeq (·.pop)) hS₂ rfl
  have oth : ∀ b u, b ≠ S → s.heap.get? b = some u → ((s.heap.update S (Obj.mapSeq (·.push Value.none))).update S (Obj.mapSeq (·.pop))).get? b = some u :=
    fun b u hb e => (Heap.get?_update_other _ _ (Ne.symm hb)).trans ((Heap.get?_update_other _ _ (Ne.symm hb)).trans e)
  have sz : ((s.heap.update S (Obj.mapSeq (·.push Value.none))).update S (Obj.mapSeq (·.pop))).objs.size = s.heap.objs.size := by simp
  exact wpAny_pure ⟨plainId_quiet PySem.F.plain_extend_loop _, loop (h₁ := s.heap) hh D nS hn res ⟨o.zlt, lTO, li1, li2, lS⟩ hR _ 0 _ _ _ #[] [] rfl (Nat.zero_le _) (o.keep nS oth) (fun b u c0 _ _ _ _ e => oth b u c0 e) hS₃ rfl rfl
    ⟨List.Pairwise.nil, (fun _ ha => nomatch ha), (fun j a hj => by simp at hj)⟩ (by rw [sz]; exact Nat.le_refl _)⟩
end
section
variable {prog : Program} {w : World} {A : Around} {E : Value → Shared → Prop} {s : Shared} {z TI TO i1 i2 l1 l2 : Addr} {xs ys : Array Value}
theorem call_list {Q : Value → Shared → Prop} (hh : A.handled = none) (D : ZipApart z TI TO i1 i2 l1 l2) (ez : IsZip s.heap z TI TO .none) (eTI : IsPair s.heap TI (.ref i1) (.ref i2)) (eTO : ∃ a b, IsPair s.heap TO a b) (e1 : s.heap.IsListIter i1 l1 0) (e2 : s.heap.IsListIter i2 l2 0)
    (f1 : s.heap.IsList l1 xs) (f2 : s.heap.IsList l2 ys) (hn : min xs.size ys.size ≤ sizeLine)
    (hQ : ∀ h' tk acc c as, (∀ b o, b ≠ z → b ≠ TO → b ≠ i1 → b ≠ i2 → s.heap.get? b = some o → h'.get? b = some o) → h'.get? s.heap.objs.size = some { cls := .type "list", dict := none, data := .seq acc c, slots := #[] } → as.length = min xs.size ys.size →
      Pairs xs ys (s.heap.objs.size + 1) h' as → acc.toList = as.map Value.ref → Q (.ref s.heap.objs.size) { s with heap := h', toks := tk }) : wpAny (model prog w) A (call (.type "list") [.ref z]) Q E s := by
  have lt : ∀ {c u}, s.heap.get? c = some u → s.heap.objs.size ≠ c := fun e => Nat.ne_of_gt (Heap.lt_size e)
  obtain ⟨ta, tb, eTO⟩ := eTO
  have nS : s.heap.objs.size ≠ z ∧ s.heap.objs.size ≠ TI ∧ s.heap.objs.size ≠ TO ∧ s.heap.objs.size ≠ i1 ∧ s.heap.objs.size ≠ i2 ∧ s.heap.objs.size ≠ l1 ∧ s.heap.objs.size ≠ l2 :=
    ⟨lt ez, lt eTI, lt eTO, let ⟨_, e, _⟩ := e1; lt e, let ⟨_, e, _⟩ := e2; lt e, let ⟨_, e, _⟩ := f1; lt e, let ⟨_, e, _⟩ := f2; lt e⟩
  have o : On z TI TO i1 i2 l1 l2 s.heap.objs.size xs ys 0 s.heap := ⟨eTI, e1, e2, f1, f2, .inl ⟨ez, ta, tb, eTO⟩⟩
  refine callType_codes (Q₁ := fun obj s₁ => obj = .ref s.heap.objs.size ∧ s₁ = { s with heap := s.heap.push { cls := .type "list", data := .seq #[] } }) F.called_list (F.typeCall_list_1 _) F.entry_list_init
    (code_list_new _ ⟨rfl, rfl⟩) fun obj s₁ q₁ => ?_
  obtain ⟨rfl, rfl⟩ := q₁
  have hS : (s.heap.push { cls := .type "list", data := .seq #[] }).get? s.heap.objs.size = some { cls := .type "list", data := .seq #[] } := Heap.get?_push_size _ rfl
  refine ⟨⟨_, hS, rfl⟩, F.args_list_init_2 _ _, ?_⟩
  show wpAny _ _ (do let old ← Builtin.List.listItems (.ref s.heap.objs.size); Builtin.List.listUpdate (.ref s.heap.objs.size) (fun _ => #[]); letGo old.toList.reverse; Builtin.List.listExtendWith (.ref s.heap.objs.size) (.ref z) .none) _ _ _
  refine wpAny_bind ?_
  unfold Builtin.List.listItems
  refine wpAny_bind (wpAny_seqItems hS rfl (wpAny_pure ?_))
  show wpAny _ _ (updateSeq s.heap.objs.size (fun _ => #[]) >>= fun _ => letGo (#[] : Array Value).toList.reverse >>= fun _ => Builtin.List.listExtendWith (.ref s.heap.objs.size) (.ref z) .none) _ _ _
  refine wpAny_bind (wpAny_updateSeq hS rfl ?_)
  have hS₂ := Heap.get?_update_self (Obj.mapSeq (fun _ => (#[] : Array Value))) hS rfl
  have oth : ∀ b u, b ≠ s.heap.objs.size → s.heap.get? b = some u → ((s.heap.push { cls := .type "list", data := .seq #[] }).update s.heap.objs.size (Obj.mapSeq (fun _ => (#[] : Array Value)))).get? b = some u :=
    fun b u hb e => (Heap.get?_update_other _ _ (Ne.symm hb)).trans (Heap.get?_push_of_some _ e)
  have sz : ((s.heap.push { cls := .type "list", data := .seq #[] }).update s.heap.objs.size (Obj.mapSeq (fun _ => (#[] : Array Value)))).objs.size = s.heap.objs.size + 1 := by simp
  refine wpAny_bind (wpAny_letGo ?_)
  refine ext (A := A.in1) (s := { s with heap := (s.heap.push { cls := .type "list", data := .seq #[] }).update s.heap.objs.size (Obj.mapSeq (fun _ => (#[] : Array Value))) }) hh D (o.keep nS oth) nS hn .none _ (oth _ _ nS.1.symm ez)
    (by show TO < _; rw [sz]; exact Nat.lt_succ_of_lt (Heap.lt_size eTO)) hS₂ fun h' tk acc c as k hS' hl hG hacc => ?_
  refine ⟨rfl, hQ h' tk acc c as (fun b u c1 c2 c3 c4 e => k b u (Ne.symm (lt e)) c1 c2 c3 c4 (oth b u (Ne.symm (lt e)) e)) hS' hl ?_ hacc⟩
  have hG' : Pairs xs ys ((s.heap.push { cls := .type "list", data := .seq #[] }).update s.heap.objs.size (Obj.mapSeq (fun _ => (#[] : Array Value)))).objs.size h' as := hG
  rw [sz] at hG'
  exact hG'
end
end RkZ
namespace Rk
open PySem PySem.Spec PyProof.Rows L2
section
variable {X : Cx} {pins : List (Addr × Obj)} {σ : L2.St} {H H' : Hp} {s : Shared} {h' : Heap}
/-- many new objects tracked at once -/
theorem batch {t' : Nat} (I : Inv X pins σ H s) (k : ∀ b u, s.heap.get? b = some u → h'.get? b = some u) (hx : ∀ b o, H b = some o → H' b = some o) (hn : ∀ b o, H' b = some o → H b = some o ∨ (s.heap.objs.size ≤ b ∧ ObjOk X.prog X.w H' h' b o)) :
    Inv X pins σ H' { s with heap := h', toks := t' } := by
  refine I.un ⟨fun b o e _ _ _ => k b o e, fun b o e _ _ _ => ⟨o.slots, k b o e⟩, fun b o e n _ => ?_, fun b o e _ => ⟨o, k b o e⟩, fun b xs e => hx b _ e, fun b o u e => hx b _ e, fun b ps e => ⟨#[], by rw [Array.append_empty]; exact hx b _ e⟩⟩ fun b o e => ?_
  · cases q : H' b with
    | none => rfl
    | some u =>
      rcases hn b u q with z | ⟨z, _⟩
      · rw [n] at z; cases z
      · exact absurd (Heap.lt_size e) (Nat.not_lt.mpr z)
  · rcases hn b o e with z | ⟨_, z⟩
    · exact (I.hok b o z).stay (fun c v _ q => k c v q) (fun c q => hx c _ q) fun c xs q => hx c _ q
    · exact z
end
/-- new pairs at as, a new list of them at l -/
def trk (H : Hp) (l : Addr) (as : List Addr) (ps : List (V × V)) : Hp := fun b => if b = l then some (.lst (as.map V.ref)) else match (as.zip ps).lookup b with
  | some p => some (.tup [p.1, p.2])
  | none => H b
theorem lookup_mem {as : List Addr} {ps : List (V × V)} {b : Addr} {p : V × V} (h : (as.zip ps).lookup b = some p) : ∃ j : Nat, as[j]? = some b ∧ ps[j]? = some p := by
  induction as generalizing ps with
  | nil => cases h
  | cons a as ih =>
    cases ps with
    | nil => cases h
    | cons q ps =>
      rw [List.zip_cons_cons, List.lookup_cons] at h
      by_cases e : b = a
      · subst e
        rw [beq_self_eq_true] at h
        cases h
        exact ⟨0, rfl, rfl⟩
      · rw [beq_eq_false_iff_ne.mpr e] at h
        obtain ⟨j, h1, h2⟩ := ih h
        exact ⟨j + 1, by simpa using h1, by simpa using h2⟩
theorem mem_lookup {as : List Addr} {ps : List (V × V)} {j : Nat} {b : Addr} {p : V × V} (hn : as.Nodup) (h1 : as[j]? = some b) (h2 : ps[j]? = some p) : (as.zip ps).lookup b = some p := by
  induction as generalizing ps j with
  | nil => simp at h1
  | cons a as ih =>
    cases ps with
    | nil => simp at h2
    | cons q ps =>
      rw [List.nodup_cons] at hn
      rw [List.zip_cons_cons, List.lookup_cons]
      cases j with
      | zero =>
        simp at h1 h2
        subst h1 h2
        rw [beq_self_eq_true]
      | succ j =>
        simp at h1 h2
        have e : ¬ b = a := fun z => hn.1 (z ▸ List.mem_of_getElem? h1)
        rw [beq_eq_false_iff_ne.mpr e]
        exact ih hn.2 h1 h2
def tListZip (K : PySem.W.Frag) (t : TA) : TE := fun σ H Q => t σ H fun vs H2 => ∃ a b xs ys, vs = [.ref a, .ref b] ∧ SqL K H2 a xs ∧ SqL K H2 b ys ∧
  ∀ H' l as, Kp [] H2 H' → H2 l = none → H' l = some (.lst (as.map V.ref)) → (∀ a ∈ as, H2 a = none) → Paired (fun (p : V × V) t => H' t = some (.tup [p.1, p.2])) (xs.zip ys) as → Q (.ref l) H'
theorem paired_of {α β : Type} {F : α → β → Prop} : ∀ {l : List α} {k : List β}, l.length = k.length → (∀ (j : Nat) a b, l[j]? = some a → k[j]? = some b → F a b) → Paired F l k
  | [], [], _, _ => .nil
  | a :: l, b :: k, h, f => .cons (f 0 a b rfl rfl) (paired_of (by simpa using h) fun j x y h1 h2 => f (j + 1) x y (by simpa using h1) (by simpa using h2))
  | [], _ :: _, h, _ => by simp at h
  | _ :: _, [], h, _ => by simp at h
theorem pe_listZip {X : Cx} {e1 e2 : Expr} {t : TA} {p p2 pos pos2 : Pos} (hc : X.calm = true) (hml : X.mg "list" = none) (hmz : X.mg "zip" = none) (PAs : PA X [e1, e2] t) (hgl : Gl X "list" := by rfl) (hgz : Gl X "zip" := by rfl)
    (hs : starEach [e1, e2] X.env = (false, eval e1 X.env) :: starEach [e2] X.env := by rfl) (hpl : (backTo pos2 (starEach [e2] X.env)).any (·.1) = false := by rfl)
    (hz : starEach [.Call (.Name "zip" p2) [e1, e2] [] pos2] X.env = (false, eval (.Call (.Name "zip" p2) [e1, e2] [] pos2) X.env) :: starEach [] X.env := by rfl) (hpz : (backTo pos (starEach [] X.env)).any (·.1) = false := by rfl) :
    PE X (.Call (.Name "list" p) [.Call (.Name "zip" p2) [e1, e2] [] pos2] [] pos) (tListZip X.K t) := by
  refine ⟨fun pins s σ H Q I h => ?_⟩
  refine Call_ (ld_blt I hgl hml (by decide +kernel : bootBuiltins "list" = some (.type "list")) (PyProof.Rows.callWith_type1 ?_ hz hpz))
  rw [hz]
  show wpAny _ _ (spliced ((false, eval (.Call (.Name "zip" p2) [e1, e2] [] pos2) X.env) :: backTo pos (starEach [] X.env))) _ _ s
  refine Calls.spliced_cons ?_
  refine Call_ (ld_blt I hgz hmz PyProof.Rows.boot_zip (PyProof.Rows.callWith_type1 (thn (PAs.run pos2 pins s σ H _ I h) fun us s1 ⟨vs, H1, I1, r1, q1⟩ => ?_) hs hpl))
  obtain ⟨a, b, xs, ys, ev, hqx, hqy, q⟩ := q1
  subst ev
  cases r1 with
  | cons r rr =>
    cases rr with
    | cons r' rr =>
      cases rr
      cases r
      cases r'
      obtain ⟨its, rv, p1, z1⟩ := I1.list hqx
      obtain ⟨its2, rv2, p2', z2⟩ := I1.list hqy
      refine call_zip_2 p1.isList p2'.isList fun h1 hz hTI hTO i1 i2 hsz hk => ?_
      refine Calls.spliced_nil ?_
      have D := PySem.W.ktu_apart s1.heap.objs.size a b p1.lt p2'.lt
      have lx : xs.length = its.length := rv.length
      have ly : ys.length = its2.length := rv2.length
      have hmin : min its.toArray.size its2.toArray.size ≤ sizeLine := by
        rw [List.size_toArray, List.size_toArray]
        exact Nat.le_trans (Nat.min_le_left ..) (by first | exact z1 | omega)
      refine RkZ.call_list (s := { s1 with heap := h1 }) (I.ok.hd hc) D hz hTI ⟨_, _, hTO⟩ i1 i2 (p1.isList.at fun o e => hk _ o e) (p2'.isList.at fun o e => hk _ o e) hmin fun h2 tk acc c as kp2 hS hl hG hacc => ?_
      dsimp only at hS hG kp2 ⊢
      have hsz5 : h1.objs.size = s1.heap.objs.size + 5 := hsz
      have kall : ∀ b u, s1.heap.get? b = some u → h2.get? b = some u := fun b u e => by
        have lb := Heap.lt_size e
        exact kp2 b u (Nat.ne_of_lt (Nat.lt_of_lt_of_le lb (Nat.le_add_right _ _))) (Nat.ne_of_lt (Nat.lt_of_lt_of_le lb (Nat.le_add_right _ _))) (Nat.ne_of_lt lb) (Nat.ne_of_lt (Nat.lt_of_lt_of_le lb (Nat.le_add_right _ _))) (hk b u e)
      have nd : as.Nodup := hG.rise.imp fun h => Nat.ne_of_lt h
      have la : as.length = (xs.zip ys).length := by rw [hl, List.length_zip, lx, ly, List.size_toArray, List.size_toArray]
      have alo : ∀ x ∈ as, h1.objs.size < x := fun x hx => Nat.lt_of_succ_le (hG.above x hx)
      have anew : ∀ x, h1.objs.size ≤ x → H1 x = none := fun x hx => I1.hok.fresh (Nat.le_trans (by rw [hsz5]; exact Nat.le_add_right _ _) hx)
      have lna : ∀ x ∈ as, x ≠ h1.objs.size := fun x hx => Nat.ne_of_gt (alo x hx)
      have tl : trk H1 h1.objs.size as (xs.zip ys) h1.objs.size = some (.lst (as.map V.ref)) := by unfold trk; rw [if_pos rfl]
      have ta : ∀ (j : Nat) (x : Addr) (pp : V × V), as[j]? = some x → (xs.zip ys)[j]? = some pp → trk H1 h1.objs.size as (xs.zip ys) x = some (.tup [pp.1, pp.2]) := fun j x pp q1 q2 => by
        unfold trk
        rw [if_neg (lna x (List.mem_of_getElem? q1)), mem_lookup nd q1 q2]
      have told : ∀ b o, H1 b = some o → trk H1 h1.objs.size as (xs.zip ys) b = some o := fun b o e => by
        have lb : b < h1.objs.size := Nat.lt_of_lt_of_le (I1.hok b o e).lt (by rw [hsz5]; exact Nat.le_add_right _ _)
        unfold trk
        rw [if_neg (Nat.ne_of_lt lb)]
        cases q : (as.zip (xs.zip ys)).lookup b with
        | none => exact e
        | some pp =>
          obtain ⟨j, q1, _⟩ := lookup_mem q
          exact absurd (alo b (List.mem_of_getElem? q1)) (Nat.not_lt.mpr (Nat.le_of_lt lb))
      have tnew : ∀ b o, trk H1 h1.objs.size as (xs.zip ys) b = some o → H1 b = some o ∨ (s1.heap.objs.size ≤ b ∧ ObjOk X.prog X.w (trk H1 h1.objs.size as (xs.zip ys)) h2 b o) := fun b o e => by
        unfold trk at e
        by_cases eb : b = h1.objs.size
        · rw [if_pos eb] at e
          cases e
          subst eb
          refine .inr ⟨by rw [hsz5]; exact Nat.le_add_right _ _, by rw [List.length_map, la, List.length_zip, lx]; exact Nat.le_trans (Nat.min_le_left ..) (by first | exact z1 | omega), as.map Value.ref, c, ?_, by rw [hS, ← hacc]⟩
          clear hacc hl hG nd la alo lna tl ta told
          induction as with
          | nil => exact .nil
          | cons x as ih => exact .cons rfl ih
        · rw [if_neg eb] at e
          cases q : (as.zip (xs.zip ys)).lookup b with
          | none =>
            rw [q] at e
            exact .inl e
          | some pp =>
            rw [q] at e
            cases e
            obtain ⟨j, q1, q2⟩ := lookup_mem q
            obtain ⟨x, y, g1, g2, g3⟩ := hG.at_ j b q1
            refine .inr ⟨Nat.le_trans (by rw [hsz5]; exact Nat.le_add_right _ _) (Nat.le_of_lt (alo b (List.mem_of_getElem? q1))), by show 2 ≤ sizeLine; decide, [x, y], ?_, ⟨_, g3, rfl, _, rfl⟩⟩
            rw [List.getElem?_zip_eq_some] at q2
            have r1 := rv.get q2.1
            have r2 := rv2.get q2.2
            obtain ⟨u1, w1, w2⟩ := r1
            obtain ⟨u2, w3, w4⟩ := r2
            have gx : its[j]? = some x := by simpa using g1
            have gy : its2[j]? = some y := by simpa using g2
            rw [gx] at w1
            rw [gy] at w3
            cases w1
            cases w3
            exact .cons w2 (.cons w4 .nil)
      have I3 : Inv X pins σ (trk H1 h1.objs.size as (xs.zip ys)) { s1 with heap := h2, toks := tk } := batch I1 kall told tnew
      refine ⟨.ref h1.objs.size, _, I3, rfl, q _ _ as ⟨fun b o _ e => told b o e, fun b xs e => told b _ e⟩ (anew _ (Nat.le_refl _)) tl (fun x hx => anew x (Nat.le_of_lt (alo x hx))) (paired_of la.symm fun j pp x q1 q2 => ta j x pp q2 q1)⟩
end Rk
set_option Elab.async false
set_option linter.all false
set_option maxRecDepth 100000
set_option maxHeartbeats 4000000
/-! entered from -/
namespace Rk
open PySem PySem.Spec PyProof.Rows L2
local macro_rules | `(tactic| walk_at "go") => `(tactic| ((try dsimp only); repeat (first
  | with_reducible apply i_seq
  | ((with_reducible apply i_var); exact rfl)
  | with_reducible apply i_c
  | with_reducible apply i_cons
  | with_reducible apply i_nil
  | with_reducible apply i_call
  | with_reducible apply i_cb
  | with_reducible apply i_meth
  | with_reducible apply i_fld
  | with_reducible apply i_op
  | with_reducible apply i_rI0
  | with_reducible apply i_eqI
  | with_reducible apply i_neI
  | with_reducible apply i_eqS
  | with_reducible apply i_neS
  | with_reducible apply i_if
  | with_reducible apply i_test
  | with_reducible apply i_b
  | with_reducible apply i_bl
  | with_reducible apply i_int
  | with_reducible apply i_and
  | with_reducible apply i_or
  | with_reducible apply i_not
  | with_reducible apply i_andV
  | with_reducible apply i_orV
  | with_reducible apply i_notV
  | with_reducible apply i_ifE
  | with_reducible apply i_itt
  | with_reducible apply i_itf
  | with_reducible apply i_nt
  | with_reducible apply i_nf
  | with_reducible apply i_asg
  | with_reducible apply i_name
  | with_reducible apply i_ret
  | with_reducible apply i_retN
  | with_reducible apply i_drop
  | with_reducible apply i_next
  | with_reducible apply i_break
  | with_reducible apply i_un
  | with_reducible apply i_rU
  | with_reducible apply i_tup
  | with_reducible apply i_lst
  | with_reducible apply i_par
  | with_reducible apply i_chain
  | with_reducible apply i_gcons
  | with_reducible apply i_gnil
  | with_reducible apply i_prop
  | with_reducible apply i_make
  | ((with_reducible apply i_aug); exact rfl)
  | with_reducible apply i_ipI
  | with_reducible apply i_sl
  | with_reducible apply i_noPart
  | with_reducible apply i_part
  | with_reducible apply i_bm
  | with_reducible apply i_bm0
  | with_reducible apply i_lc
  | with_reducible apply i_for
  | with_reducible apply i_iStr
  | with_reducible apply i_iList
  | with_reducible apply i_iTup
  | with_reducible apply i_rng1
  | with_reducible apply i_rng2
  | with_reducible apply i_yes
  | with_reducible apply i_refE
  | with_reducible apply i_strE
  | with_reducible apply i_sfld
  | with_reducible apply i_dput
  | with_reducible apply i_dget
  | with_reducible apply i_din
  | with_reducible apply i_dnotin
  | with_reducible apply i_dnew
  | with_reducible apply i_augS
  | with_reducible apply i_gsub
  | with_reducible apply i_asg2
  | with_reducible apply i_disp1
  | with_reducible apply i_ar)))
theorem cutV_take (xs : List V) (k : Nat) : cutV xs none (some (k : Int)) = xs.take k := by
  unfold cutV
  rw [HT.sIx_none, HT.sIx_nat, List.drop_zero, Nat.sub_zero, ← List.take_take, List.take_length]
theorem i_listZip {K : PySem.W.Frag} {t : TA} {σ : L2.St} {H : Hp} {Q : VK} (h : t σ H fun vs H2 => ∃ a b xs ys, vs = [.ref a, .ref b] ∧ SqL K H2 a xs ∧ SqL K H2 b ys ∧
  ∀ H' l as, Kp [] H2 H' → H2 l = none → H' l = some (.lst (as.map V.ref)) → (∀ a ∈ as, H2 a = none) → Paired (fun (p : V × V) t => H' t = some (.tup [p.1, p.2])) (xs.zip ys) as → Q (.ref l) H') : tListZip K t σ H Q := h
/-- what pair_of gave, on a list -/
def FoundV (H : Hp) : Option Pr → V → Prop
  | none, v => v = .non
  | some q, v => ∃ t, v = .ref t ∧ PrAt H t q
theorem FoundV.kp {S : List Addr} {H H' : Hp} (x : Kp S H H') : ∀ {o : Option Pr} {v : V}, FoundV H o v → FoundV H' o v
  | none, _, h => h
  | some _, _, ⟨t, e, h⟩ => ⟨t, e, h.kp x⟩
theorem vdL_3 (u : Vd) : ∃ a b d, vdL u = [a, b, d, .int u.pl] := by
  obtain ⟨w, s, d, pl⟩ := u
  cases w <;> exact ⟨_, _, _, rfl⟩
/-- kids as the program keeps them -/
theorem kids_ctn {c : Ctn} {p : Pr} : kidsOf c p = (((zp c p).take ((VV c p).pl + 1).toNat).map fun x => pairOf x.1 x.2).filterMap id := by
  rw [kidsOf_take, List.filterMap_map]
  rfl
theorem pzip {α β : Type} {F : α → β → Prop} {l1 l2 : List α} {k1 k2 : List β} (h1 : Paired F l1 k1) (h2 : Paired F l2 k2) : Paired (fun (a : α × α) (b : β × β) => F a.1 b.1 ∧ F a.2 b.2) (l1.zip l2) (k1.zip k2) := by
  induction h1 generalizing l2 k2 with
  | nil => exact .nil
  | cons f t ih =>
    cases h2 with
    | nil => exact .nil
    | cons g u => exact .cons ⟨f, g⟩ (ih u)
theorem ptake {α β : Type} {F : α → β → Prop} {l : List α} {k : List β} (h : Paired F l k) : ∀ n, Paired F (l.take n) (k.take n) := by
  induction h with
  | nil => intro n; rw [List.take_nil, List.take_nil]; exact .nil
  | cons f t ih =>
    intro n
    cases n with
    | zero => exact .nil
    | succ n => exact .cons f (ih n)
abbrev N_Verdicts_entered_from : List Str := ["self", "pair", "one", "other", "place", "items", "found", "mine", "yours", "child"]
theorem sc_Verdicts_entered_from : FnScope N_Verdicts_entered_from ["self", "pair"] (defScope s_Verdicts_entered_from) := ⟨rfl, rfl, rfl, by decide +kernel, rfl, by decide +kernel, by decide +kernel⟩
def spEntered (cV : Addr) : Sp := fun vs H Q _ => ∃ (v d l t : Addr) (as : List Addr) (c : Ctn) (kn : List Pr) (D : Nat) (p : Pr), vs = [.ref v, .ref t] ∧ VerS H cV v d l as c kn D ∧ VerM c kn [] D ∧ Lim c ∧ PrAt H t p ∧ p ∈ kn ∧
  ∀ H' a ts, Kp [v, d] H H' → VerS H' cV v d l as c kn D → H a = none → H' a = some (.lst (ts.map V.ref)) → Paired (fun q t => PrAt H' t q) (kidsOf c p) ts → Q (.ref a) H'
section
variable {P : Program} {w : World} {K : PySem.W.Frag} {mg : Str → Option Value} {base : Heap} {cV cO cH : Addr}
theorem ok_Verdicts_entered_from (T : Txt K mg cV cO cH) : Mt0 P w K mg base 5 cV "entered_from" ["self", "pair"] (spEntered cV) := by
  have h_of_pair := ok_Verdicts_of_pair (P := P) (w := w) (base := base) T
  have h_pair_of := ok_pair_of (P := P) (w := w) (base := base) T
  refine T.d_Verdicts_entered_from.ok sc_Verdicts_entered_from (fun vs H Q E h => ?_) (fun _ _ _ _ _ _ us hl => match us, hl with | [_, _], _ => rfl) (fun f cdv A outer s H vs Q E hr h => ?_)
  · obtain ⟨_, _, _, _, _, _, _, _, _, rfl, _⟩ := h
    rfl
  · have hu := hu_of hr
    obtain ⟨v, d, l, t, as, c, kn, D, p, rfl, hV, hM, hL, ht, ik, q⟩ := h
    have rp := hM.rg p ik
    refine ⟨_, (pss_cons (ps_asg (pv 1) (pg_tup rfl (pgs_cons (pg_name (i := 2) sc_Verdicts_entered_from.nd rfl (by first | exact Or.inl rfl | exact Or.inr rfl)) (pgs_cons (pg_name (i := 3) sc_Verdicts_entered_from.nd rfl (by first | exact Or.inl rfl | exact Or.inr rfl)) pgs_nil))))
    (pss_cons (ps_set (i := 4) sc_Verdicts_entered_from.nd rfl (by first | exact Or.inl rfl | exact Or.inr rfl) (pe_ix ix_tup (pe_mtd (pv 0) T.clV h_of_pair hr (by decide) (pa_cons (pv 1) pa_nil)) pe_int (fun _ _ => rfl)))
    (pss_cons (ps_set (i := 5) sc_Verdicts_entered_from.nd rfl (by first | exact Or.inl rfl | exact Or.inr rfl) (pe_listZip rfl T.f_list T.f_zip (pa_cons (pe_ix ix_list (pe_fld (pv 0) rfl) (pv 2) (fun _ _ => rfl)) (pa_cons (pe_ix ix_list (pe_fld (pv 0) rfl) (pv 3) (fun _ _ => rfl)) pa_nil))))
    (pss_cons (ps_setLc (i := 6) (own := [("mine", 7), ("yours", 8)]) rfl sc_Verdicts_entered_from.nd rfl rfl (sw_true rfl rfl rfl (by decide +kernel)) (pi_list (pe_slice sl_list (pv 5) po_none (po_some (pe_op op_add (pv 4) pe_int)))) (blkOk_by (own := [("mine", 7), ("yours", 8)]) (N := N_Verdicts_entered_from) (sc := defScope s_Verdicts_entered_from) (by decide +kernel)) (by intro _ _ _ _ _; exact (pg_tupK (K := K) (n := 2) rfl rfl (pgs_cons (pg_name (i := 7) sc_Verdicts_entered_from.nd rfl (by first | exact Or.inl rfl | exact Or.inr rfl)) (pgs_cons (pg_name (i := 8) sc_Verdicts_entered_from.nd rfl (by first | exact Or.inl rfl | exact Or.inr rfl)) pgs_nil)))) (by intro _ _ _ _ _; exact pts_nil) (by intro _ _ _ _ _; exact (pe_fn h_pair_of hr (by decide) rfl (pa_cons (pv 7) (pa_cons (pv 8) pa_nil)))))
    (pss_one (ps_ret (pe_lc (own := [("child", 9)]) rfl sc_Verdicts_entered_from.nd (pi_list (pv 6)) (blkOk_by (own := [("child", 9)]) (N := N_Verdicts_entered_from) (sc := defScope s_Verdicts_entered_from) (by decide +kernel)) (by intro _ _ _ _ _; exact (pg_name (i := 9) sc_Verdicts_entered_from.nd rfl (by first | exact Or.inl rfl | exact Or.inr rfl))) (by intro _ _ _ _ _; exact (pts_one (pt_cmpR op_notN (pv 9) pe_non (nomark _)))) (by intro _ _ _ _ _; exact (pv 9))))))))), ?_⟩
    obtain ⟨a1, a2, a3, a4⟩ := hV.apart
    obtain ⟨dx, ev⟩ := hV.ins
    walk_at "go"
    refine ⟨t, _, rfl, SqT.of ht, rfl, ?_⟩
    walk_at "go"
    refine ⟨_, _, _, rfl, ev, rfl, ?_⟩
    walk_at "go"
    refine ⟨v, d, l, t, as, c, kn, D, p, rfl, hV, hM, hL, ht, rp, fun H1 t' kn' D' k1 V1 M1 _ _ same e1 => ?_⟩
    obtain ⟨rfl, rfl⟩ := same ik
    obtain ⟨x1, x2, x3, ed⟩ := vdL_3 (VV c p)
    rw [ed] at e1
    obtain ⟨dx1, ev1⟩ := V1.ins
    obtain ⟨ax, ex, vx, evx, px⟩ := V1.lst.row rp.1
    obtain ⟨ay, ey, vy, evy, py⟩ := V1.lst.row rp.2
    refine i_ixT e1 rfl ?_
    walk_at "go"
    refine i_listZip ?_
    walk_at "go"
    refine ⟨_, _, _, _, _, rfl, ev1, T.clV, T.nV_lists, vf_lists _ _ _, ?_⟩
    walk_at "go"
    refine i_ixL V1.lst.1 (atI_nat (by rw [List.getElem?_map, ex]; rfl)) ?_
    walk_at "go"
    refine ⟨_, _, _, _, _, rfl, ev1, T.clV, T.nV_lists, vf_lists _ _ _, ?_⟩
    walk_at "go"
    refine i_ixL V1.lst.1 (atI_nat (by rw [List.getElem?_map, ey]; rfl)) ?_
    walk_at "go"
    refine ⟨ax, ay, vx, vy, rfl, SqL.of evx, SqL.of evy, fun H2 lz zs k2 lz0 elz zn pz => ?_⟩
    walk_at "go"
    refine ⟨lz, _, rfl, SqL.of elz, fun cz hcz => ?_⟩
    have epl : (VV c p).pl + 1 = ((((VV c p).pl + 1).toNat : Nat) : Int) := by have := VV_pl c p; omega
    rw [epl, cutV_take, ← List.map_take]
    generalize hk : ((VV c p).pl + 1).toNat = k
    have k3 : Kp [] H2 (upd H2 cz (.lst ((zs.take k).map V.ref))) := Kp.new hcz
    have kall := k2.trans k3
    -- the pairs of items, paired with the pairs' tuples
    have PZ : Paired (fun (x : It × It) t => ∃ v1 v2, (upd H2 cz (.lst ((zs.take k).map V.ref))) t = some (.tup [v1, v2]) ∧ ItV H1 x.1 v1 ∧ ItV H1 x.2 v2) ((zp c p).take k) (zs.take k) := by
      refine ptake ?_ k
      have z := pzip px py
      have lz1 := plen z
      have lz2 := plen pz
      refine paired_of (by unfold zp; rw [lz1, lz2]) fun j x t e1 e2 => ?_
      obtain ⟨w1, g1, g2⟩ := pgetL z e1
      obtain ⟨t', g3, g4⟩ := pgetL pz g1
      rw [e2] at g3
      cases g3
      exact ⟨w1.1, w1.2, k3.t _ _ g4, g2.1, g2.2⟩
    have OK : ∀ x ∈ (zp c p).take k, ItOk c.length x.1 ∧ ItOk c.length x.2 := fun x hx => by
      have h1 := List.mem_of_mem_take hx
      obtain ⟨m1, m2⟩ := List.of_mem_zip (show (x.1, x.2) ∈ (rw c p.1).zip (rw c p.2) from h1)
      exact ⟨hL.ok p.1 _ m1, hL.ok p.2 _ m2⟩
    have hk2 : kidsOf c p = (((zp c p).take k).map fun (x : It × It) => pairOf x.1 x.2).filterMap id := by rw [← hk]; exact kids_ctn
    have hz4 : ((zp c p).take k).length ≤ 4 := by
      rw [List.length_take]
      unfold zp
      rw [List.length_zip]
      have := hL.m p.1
      omega
    generalize (zp c p).take k = zl at PZ OK hk2 hz4
    generalize hzt : zs.take k = zt at PZ kall k3
    generalize hHc : upd H2 cz (.lst (zt.map V.ref)) = Hc at PZ kall k3
    have ecz : Hc cz = some (.lst (zt.map V.ref)) := by rw [← hHc]; exact upd_same
    walk_at "go"
    refine ⟨⟨_, SqL.of ecz⟩, fun D hD => ?_⟩
    have lzt := plen PZ
    have s4 : 4 < sizeLine := by decide
    refine LcW.it (walk_list (xs := zt.map V.ref)) (fun i H' => Kp [D] Hc H' ∧ ∃ acc, H' D = some (.lst acc) ∧ Paired (FoundV H') ((zl.map fun x => pairOf x.1 x.2).take i) acc) ⟨Kp.new hD, [], upd_same, by simp; exact .nil⟩ (fun i H' _ z => (z.1.sqL (nin ecz hD) (SqL.of ecz))) ?_ ?_
    · rintro i x H3 H4 hi ⟨k4, acc, e4, p4⟩ ⟨rfl, hx⟩
      rw [List.getElem?_map] at hx
      obtain ⟨ti, et, rfl⟩ := Option.map_eq_some_iff.mp hx
      obtain ⟨xx, exx, v1, v2, eT, iv1, iv2⟩ := pgetR PZ et
      obtain ⟨ok1, ok2⟩ := OK xx (List.mem_of_getElem? exx)
      have la : acc.length < sizeLine := by
        rw [← plen p4, List.length_take, List.length_map]
        exact Nat.lt_of_le_of_lt (Nat.le_trans (Nat.min_le_right ..) hz4) s4
      have etk : (zl.map fun x => pairOf x.1 x.2).take (i + 1) = (zl.map fun x => pairOf x.1 x.2).take i ++ [pairOf xx.1 xx.2] := by
        rw [List.take_succ, List.getElem?_map, exx]
        rfl
      rw [etk]
      walk_at "go"
      refine ⟨ti, _, rfl, SqT.of (k4.t _ _ eT), rfl, ?_⟩
      walk_at "go"
      refine ⟨rfl, ?_⟩
      walk_at "go"
      refine ⟨c.length, xx.1, xx.2, v1, v2, rfl, (iv1.kp kall).kp k4, (iv2.kp kall).kp k4, ok1, ok2, ?_⟩
      cases pairOf xx.1 xx.2 with
      | none =>
        refine PairQ.none ?_
        have k5 : Kp [D] H4 (upd H4 D (.lst (acc ++ [.non]))) := Kp.wr (List.mem_singleton.mpr rfl) e4 (fun _ z => nomatch z)
        exact ⟨acc, e4, la, k4.trans k5, _, upd_same, psnoc (pmap p4 fun _ _ z => z.kp k5) rfl⟩
      | some q1 =>
        refine PairQ.some fun b hb => ?_
        have k5 : Kp [D] H4 (upd H4 b (.tup [.int q1.1, .int q1.2])) := Kp.new hb
        have e5 := (upd_ne (o := .tup [.int q1.1, .int q1.2]) (ne_of_none e4 hb)).trans e4
        have k6 := k5.wr' (o := .lst (acc ++ [.ref b])) (List.mem_singleton.mpr rfl) e5 (fun _ z => nomatch z)
        refine ⟨acc, e5, la, k4.trans k6, _, upd_same, psnoc (pmap p4 fun _ _ z => z.kp k6) ⟨b, rfl, ?_⟩⟩
        exact (upd_ne (ne_of_none e4 hb).symm).trans upd_same
    · rintro H3 ⟨k4, acc, e4, p4⟩
      have hf : (zl.map fun x => pairOf x.1 x.2).take (zt.map V.ref).length = zl.map fun x => pairOf x.1 x.2 := List.take_of_length_le (by rw [List.length_map, List.length_map, lzt]; exact Nat.le_refl _)
      rw [hf] at p4
      have lac := plen p4
      have la4 : acc.length ≤ 4 := by rw [← lac, List.length_map]; exact hz4
      walk_at "go"
      refine ⟨⟨_, SqL.of e4⟩, fun D2 hD2 => ?_⟩
      refine LcW.it (walk_list (xs := acc)) (fun i H' => Kp [D2] H3 H' ∧ ∃ ts : List Addr, ts.length ≤ i ∧ H' D2 = some (.lst (ts.map V.ref)) ∧ Paired (fun q t => PrAt H' t q) (((zl.map fun x => pairOf x.1 x.2).take i).filterMap id) ts) ⟨Kp.new hD2, [], Nat.le_refl _, upd_same, by simp; exact .nil⟩ (fun i H' _ z => (z.1.sqL (nin e4 hD2) (SqL.of e4))) ?_ ?_
      · rintro i x H5 H6 hi ⟨k5, ts, lts, e5, p5⟩ ⟨rfl, hx⟩
        obtain ⟨o, eo, fo⟩ := pgetR p4 hx
        have etk : ((zl.map fun x => pairOf x.1 x.2).take (i + 1)).filterMap id = ((zl.map fun x => pairOf x.1 x.2).take i).filterMap id ++ o.toList := by
          rw [List.take_succ, eo, List.filterMap_append]
          cases o <;> rfl
        rw [etk]
        walk_at "go"
        refine ⟨rfl, ?_⟩
        walk_at "go"
        cases o with
        | none =>
          cases (show x = .non from fo)
          rw [dnn]
          walk_at "go"
          refine ⟨k5, ts, Nat.le_succ_of_le lts, e5, ?_⟩
          rw [Option.toList_none, List.append_nil]
          exact p5
        | some q1 =>
          obtain ⟨t1, rfl, ht1⟩ := fo
          rw [drn]
          walk_at "go"
          have k6 : Kp [D2] H6 (upd H6 D2 (.lst (ts.map V.ref ++ [.ref t1]))) := Kp.wr (List.mem_singleton.mpr rfl) e5 (fun _ z => nomatch z)
          refine ⟨_, e5, by rw [List.length_map]; exact Nat.lt_of_le_of_lt (Nat.le_trans lts (Nat.le_trans (Nat.le_of_lt hi) la4)) s4, k5.trans k6, ts ++ [t1], by rw [List.length_append, List.length_singleton]; exact Nat.succ_le_succ lts, by rw [upd_same, List.map_append]; rfl, ?_⟩
          exact psnoc (pmap p5 fun _ _ z => PrAt.kp z k6) (PrAt.kp ht1 (k5.trans k6))
      · rintro H5 ⟨k5, ts, lts, e5, p5⟩
        rw [← lac, List.take_length, ← hk2] at p5
        have K15 : Kp [] H1 H5 := (kall.trans (k4.drop hD)).trans (k5.drop hD2)
        have n1 : H1 D2 = none := (kall.trans (k4.drop hD)).free (fun z => nomatch z) hD2
        have n0 : H D2 = none := k1.free (fun z => by
          rcases List.mem_cons.mp z with z | z
          · rw [z, ev1] at n1; cases n1
          · obtain ⟨kv1, ed1, _⟩ := V1.dct
            rw [List.mem_singleton.mp z, ed1] at n1; cases n1) n1
        exact q H5 D2 ts (k1.trans K15.of0) (V1.kp0 K15) n0 e5 p5
end
end Rk
set_option Elab.async false
set_option linter.all false
set_option maxRecDepth 100000
set_option maxHeartbeats 4000000
/-! steps until deep -/
namespace Rk
open PySem PySem.Spec PyProof.Rows L2
local macro_rules | `(tactic| walk_at "go") => `(tactic| ((try dsimp only); repeat (first
  | with_reducible apply i_seq
  | ((with_reducible apply i_var); exact rfl)
  | with_reducible apply i_c
  | with_reducible apply i_cons
  | with_reducible apply i_nil
  | with_reducible apply i_call
  | with_reducible apply i_cb
  | with_reducible apply i_meth
  | with_reducible apply i_fld
  | with_reducible apply i_op
  | with_reducible apply i_rI0
  | with_reducible apply i_eqI
  | with_reducible apply i_neI
  | with_reducible apply i_eqS
  | with_reducible apply i_neS
  | with_reducible apply i_if
  | with_reducible apply i_test
  | with_reducible apply i_b
  | with_reducible apply i_bl
  | with_reducible apply i_int
  | with_reducible apply i_and
  | with_reducible apply i_or
  | with_reducible apply i_not
  | with_reducible apply i_andV
  | with_reducible apply i_orV
  | with_reducible apply i_notV
  | with_reducible apply i_ifE
  | with_reducible apply i_itt
  | with_reducible apply i_itf
  | with_reducible apply i_nt
  | with_reducible apply i_nf
  | with_reducible apply i_asg
  | with_reducible apply i_name
  | with_reducible apply i_ret
  | with_reducible apply i_retN
  | with_reducible apply i_drop
  | with_reducible apply i_next
  | with_reducible apply i_break
  | with_reducible apply i_un
  | with_reducible apply i_rU
  | with_reducible apply i_tup
  | with_reducible apply i_lst
  | with_reducible apply i_par
  | with_reducible apply i_chain
  | with_reducible apply i_gcons
  | with_reducible apply i_gnil
  | with_reducible apply i_prop
  | with_reducible apply i_make
  | ((with_reducible apply i_aug); exact rfl)
  | with_reducible apply i_ipI
  | with_reducible apply i_sl
  | with_reducible apply i_noPart
  | with_reducible apply i_part
  | with_reducible apply i_bm
  | with_reducible apply i_bm0
  | with_reducible apply i_lc
  | with_reducible apply i_for
  | with_reducible apply i_iStr
  | with_reducible apply i_iList
  | with_reducible apply i_iTup
  | with_reducible apply i_rng1
  | with_reducible apply i_rng2
  | with_reducible apply i_yes
  | with_reducible apply i_refE
  | with_reducible apply i_strE
  | with_reducible apply i_sfld
  | with_reducible apply i_dput
  | with_reducible apply i_dget
  | with_reducible apply i_din
  | with_reducible apply i_dnotin
  | with_reducible apply i_dnew
  | with_reducible apply i_augS
  | with_reducible apply i_gsub
  | with_reducible apply i_asg2
  | with_reducible apply i_disp1
  | with_reducible apply i_ar)))
/-! ### dicts by pairs -/
def PKey (R : Pr → V → Prop) (ks : List Pr) (kvs : List (List Key × V)) : Prop := Paired (fun p (kv : List Key × V) => kv.1 = kk p ∧ R p kv.2) ks kvs
section
variable {R R' : Pr → V → Prop} {ks : List Pr} {kvs : List (List Key × V)} {p : Pr} {v : V}
theorem PKey.out (h : PKey R ks kvs) (n : ¬ p ∈ ks) : valV kvs (kk p) = none := by
  unfold PKey at h
  induction h with
  | nil => rfl
  | @cons a b l k f r ih =>
    rw [valV_neg, ih fun z => n (List.mem_cons_of_mem _ z)]
    intro e
    exact n (List.mem_cons.mpr (.inl (kk_inj (e.symm.trans f.1))))
theorem PKey.get (h : PKey R ks kvs) (n : p ∈ ks) : ∃ v, valV kvs (kk p) = some v ∧ R p v := by
  unfold PKey at h
  induction h with
  | nil => cases n
  | @cons a b l k f r ih =>
    by_cases e : a = p
    · subst e
      exact ⟨_, valV_pos f.1, f.2⟩
    · rw [valV_neg fun z => e (kk_inj (f.1.symm.trans z))]
      exact ih ((List.mem_cons.mp n).resolve_left fun z => e z.symm)
theorem PKey.add (h : PKey R ks kvs) (r : R p v) (n : ¬ p ∈ ks) : putK kvs (kk p) v = kvs ++ [(kk p, v)] ∧ PKey R (ks ++ [p]) (kvs ++ [(kk p, v)]) := ⟨putK_new _ (h.out n), psnoc h ⟨rfl, r⟩⟩
theorem PKey.imp (h : PKey R ks kvs) (m : ∀ p ∈ ks, ∀ v, R p v → R' p v) : PKey R' ks kvs := by
  unfold PKey at h ⊢
  induction h with
  | nil => exact .nil
  | @cons a b l k f r ih => exact .cons ⟨f.1, m _ (List.mem_cons_self ..) _ f.2⟩ (ih fun p hp => m p (List.mem_cons_of_mem _ hp))
end
theorem kids_len {c : Ctn} (L : Lim c) (p : Pr) : (kidsOf c p).length ≤ 4 := by
  rw [kidsOf_take]
  refine Nat.le_trans (List.length_filterMap_le _ _) ?_
  rw [List.length_take]
  unfold zp
  rw [List.length_zip]
  have := L.m p.1
  omega
set_option exponentiation.threshold 3000
def bigB : Nat := 5 ^ 484
theorem bigB_lt : 10 ^ 30 * (1 + 4 * bigB) < 2 ^ 1300 := by decide +kernel
theorem VerM.cls {c : Ctn} {kn : List Pr} {D : Nat} (h : VerM c kn [] D) : Cl c D (· ∈ kn) := ⟨fun p hp q hq => (h.cl p hp q hq).elim id (fun z => nomatch z), h.dp⟩
theorem VerM.sB {c : Ctn} {kn act : List Pr} {D : Nat} (h : VerM c kn act D) (L : Lim c) {p : Pr} (hp : p ∈ kn) {v : Fv} (hv : Vc c p = some v) : v.s ≤ bigB ∧ v.d ≤ 484 := by
  have z := h.kb.bound L.m hp hv
  have l := h.le L
  exact ⟨Nat.le_trans z.1 (Nat.pow_le_pow_right (by decide) l), Nat.le_trans z.2 l⟩
theorem T_le {c : Ctn} {kn : List Pr} {D : Nat} (h : VerM c kn [] D) (L : Lim c) : ∀ (n : Nat) (p : Pr), p ∈ kn → T c n p ≤ n * (1 + 4 * bigB)
  | 0, _, _ => Nat.zero_le _
  | n + 1, p, hp => by
    have h1 := brk_cost (f := Vc c) (L := n) (kidsOf c p) fun q hq v hv => (h.sB L (h.cls.kid p hp q hq) hv).1
    have h2 := T_le h L n _ (h.cls.nxt hp n)
    have h3 : (kidsOf c p).length * bigB ≤ 4 * bigB := Nat.mul_le_mul_right _ (kids_len L p)
    have e : T c (n + 1) p = 1 + (brk (Vc c) n (kidsOf c p)).1 + T c n ((brk (Vc c) n (kidsOf c p)).2.getD p) := rfl
    rw [e, Nat.add_mul, Nat.one_mul]
    omega
def PasD (H : Hp) (c : Ctn) (D : Nat) (kn : List Pr) (p : Pr) (l s : Nat) (pk : List Pr) (kvs : List (List Key × V)) : Prop :=
  PKey (fun q v => ∃ tt f b, v = .ref tt ∧ H tt = some (.tup [.int (f : Nat), .int (b : Nat)]) ∧ PasOk c D (· ∈ kn) q f b p l s ∧ l < f ∧ f ≤ 10 ^ 30) pk kvs
theorem PasD.kp {S : List Addr} {H H' : Hp} {c : Ctn} {D : Nat} {kn : List Pr} {p : Pr} {l s : Nat} {pk : List Pr} {kvs : List (List Key × V)} (h : PasD H c D kn p l s pk kvs) (x : Kp S H H') : PasD H' c D kn p l s pk kvs :=
  h.imp fun q _ v ⟨tt, f, b, e1, e2, e3⟩ => ⟨tt, f, b, e1, x.t _ _ e2, e3⟩
theorem brk_en {f : Pr → Option Fv} {L : Nat} {q : Pr} {r : List Pr} (h : f q = none) : brk f L (q :: r) = (0, some q) := by
  unfold brk
  rw [h]
theorem brk_hi {f : Pr → Option Fv} {L : Nat} {q : Pr} {r : List Pr} {v : Fv} (h : f q = some v) (hd : L < v.d) : brk f L (q :: r) = (0, some q) := by
  unfold brk
  rw [h]
  simp only [if_pos hd]
theorem brk_lo {f : Pr → Option Fv} {L : Nat} {q : Pr} {r : List Pr} {v : Fv} (h : f q = some v) (hd : ¬ L < v.d) : brk f L (q :: r) = (v.s + (brk f L r).1, (brk f L r).2) := by
  conv => lhs; unfold brk
  rw [h]
  simp only [if_neg hd]
def DeepI (cV : Addr) (H : Hp) (v d l : Addr) (as : List Addr) (c : Ctn) (kn : List Pr) (D : Nat) (p : Pr) (L : Nat) (ps : Addr) (m : Nat) (σ : L2.St) (H' : Hp) : Prop :=
  ∃ t' p' l' s' pk kvs z5 z6 z7 z8 z9 z10 z11 z12, l' = m ∧ σ = [some (.ref v), some (.ref t'), some (.int (l' : Nat)), some (.int (s' : Nat)), some (.ref ps), z5, z6, z7, z8, z9, z10, z11, z12] ∧ Kp [v, d] H H' ∧ VerS H' cV v d l as c kn D ∧ PrAt H' t' p' ∧ p' ∈ kn ∧
      H' ps = some (.dT kvs) ∧ PasD H' c D kn p' l' s' pk kvs ∧ pk.Nodup ∧ (∀ x ∈ pk, x ∈ kn) ∧ l' ≤ L ∧ s' + T c l' p' = T c L p
theorem deep_next {cV : Addr} {H H2 H6 : Hp} {v d l : Addr} {as : List Addr} {c : Ctn} {kn : List Pr} {D : Nat} {p p' : Pr} {L l1 s1 si : Nat} {ps tq : Addr} {pk : List Pr} {kvs : List (List Key × V)} {S : List Addr} {z5 z6 z7 z8 z9 z10 z11 z12 : Option V} (cl : Cl c D (· ∈ kn)) (ik1 : p' ∈ kn)
    (k : Kp [v, d] H H6) (V6 : VerS H6 cV v d l as c kn D) (t6 : PrAt H6 tq ((brk (Vc c) l1 (kidsOf c p')).2.getD p')) (e : s1 + 1 + (brk (Vc c) l1 (kidsOf c p')).1 = si) (ep6 : H6 ps = some (.dT kvs)) (k26 : Kp S H2 H6)
    (pas : PKey (fun q v => ∃ tt f b, v = .ref tt ∧ H2 tt = some (.tup [.int (f : Nat), .int (b : Nat)]) ∧ PasOk c D (· ∈ kn) q f b p' (l1 + 1) s1 ∧ f ≤ 10 ^ 30) pk kvs) (nd : pk.Nodup) (sub : ∀ x ∈ pk, x ∈ kn) (hl : l1 ≤ L) (tot : s1 + T c (l1 + 1) p' = T c L p) :
    DeepI cV H v d l as c kn D p L ps l1 [some (.ref v), some (.ref tq), some (.int (l1 : Nat)), some (.int (si : Nat)), some (.ref ps), z5, z6, z7, z8, z9, z10, z11, z12] H6 := by
  subst e
  refine ⟨tq, _, l1, _, pk, kvs, _, _, _, _, _, _, _, _, rfl, rfl, k, V6, t6, cl.nxt ik1 l1, ep6, pas.imp fun q _ v ⟨tt, f, b, g1, g2, g3, g4⟩ => ⟨tt, f, b, g1, k26.t _ _ g2, (g3.step cl ik1).1, (g3.step cl ik1).2, g4⟩, nd, sub, hl, ?_⟩
  have e : T c (l1 + 1) p' = 1 + (brk (Vc c) l1 (kidsOf c p')).1 + T c l1 ((brk (Vc c) l1 (kidsOf c p')).2.getD p') := rfl
  omega
abbrev N_steps_until_deep : List Str := ["verdicts", "pair", "limit", "steps", "passed", "former", "before", "rounds", "child", "word", "cost", "depth", "place"]
theorem sc_steps_until_deep : FnScope N_steps_until_deep ["verdicts", "pair", "limit"] (defScope s_steps_until_deep) := ⟨rfl, rfl, rfl, by decide +kernel, rfl, by decide +kernel, by decide +kernel⟩
def spDeep (cV : Addr) : Sp := fun vs H Q _ => ∃ (v d l t : Addr) (as : List Addr) (c : Ctn) (kn : List Pr) (D : Nat) (p : Pr) (L : Nat), vs = [.ref v, .ref t, .int L] ∧ VerS H cV v d l as c kn D ∧ VerM c kn [] D ∧ Lim c ∧ PrAt H t p ∧ p ∈ kn ∧ L ≤ 10 ^ 30 ∧
  ∀ H', Kp [v, d] H H' → VerS H' cV v d l as c kn D → Q (.int (T c L p)) H'
section
variable {P : Program} {w : World} {K : PySem.W.Frag} {mg : Str → Option Value} {base : Heap} {cV cO cH : Addr}
theorem ok_steps_until_deep (T0 : Txt K mg cV cO cH) : Fn0 P w K mg base 6 "steps_until_deep" ["verdicts", "pair", "limit"] (spDeep cV) := by
  have h_entered_from := ok_Verdicts_entered_from (P := P) (w := w) (base := base) T0
  have h_of_pair := ok_Verdicts_of_pair (P := P) (w := w) (base := base) T0
  refine T0.d_steps_until_deep.ok sc_steps_until_deep (fun vs H Q E h => ?_) (fun _ _ _ _ _ _ us hl => match us, hl with | [_, _, _], _ => rfl) (fun f cdv A outer s H vs Q E hr h => ?_)
  · obtain ⟨_, _, _, _, _, _, _, _, _, _, rfl, _⟩ := h
    rfl
  · have hu := hu_of hr
    obtain ⟨v, d, l, t, as, c, kn, D, p, L, rfl, hV, hM, hL, ht, ik, hLL, q⟩ := h
    refine ⟨_, (pss_cons (ps_set (i := 3) sc_steps_until_deep.nd rfl (by first | exact Or.inl rfl | exact Or.inr rfl) pe_int)
    (pss_cons (ps_set (i := 4) sc_steps_until_deep.nd rfl (by first | exact Or.inl rfl | exact Or.inr rfl) pe_dnewT)
    (pss_cons (ps_while PassesOwn.never (pt_cmpR op_gt (pv 2) pe_int (nomark _))
      (pss_cons (ps_if (pt_cmpR op_gt (pv 2) (pe_fld (pv 0) rfl) (nomark _))
        (pss_cons (ps_if (pt_cmp (pc_din hu (pv 1) (pv 4)))
          (pss_cons (ps_asg (pe_dget hu (pv 4) (pv 1) (fun _ _ => rfl)) (pg_tup rfl (pgs_cons (pg_name (i := 5) sc_steps_until_deep.nd rfl (by first | exact Or.inl rfl | exact Or.inr rfl)) (pgs_cons (pg_name (i := 6) sc_steps_until_deep.nd rfl (by first | exact Or.inl rfl | exact Or.inr rfl)) pgs_nil))))
          (pss_cons (ps_set (i := 7) sc_steps_until_deep.nd rfl (by first | exact Or.inl rfl | exact Or.inr rfl) (pe_op op_fdivW (pe_op op_sub (pv 2) (pe_fld (pv 0) rfl)) (pe_op op_sub (pv 5) (pv 2))))
          (pss_cons (ps_par (i := 3) (j := 2) rfl sc_steps_until_deep.nd rfl rfl (by decide) rfl rfl (pa_cons (pe_op op_add (pv 3) (pe_op op_mulW (pv 7) (pe_op op_sub (pv 3) (pv 6)))) (pa_cons (pe_op op_sub (pv 2) (pe_op op_mulW (pv 7) (pe_op op_sub (pv 5) (pv 2)))) pa_nil)) (by rfl))
          (pss_cons (ps_expr (pe_bm0 PySem.F.plainAttrs_dict PySem.F.slot_dict_clear PySem.F.type_dict_clear mt_clearT (pv 4)))
          (pss_one (ps_if (pt_cmpR op_eq (pv 2) pe_int (nomark _))
            (pss_one (ps_ret (pv 3)))
            pss_nil))))))
          pss_nil)
        (pss_one (ps_dput hu (pv 4) (pv 1) (pe_tup (pa_cons (pv 2) (pa_cons (pv 3) pa_nil))) rfl)))
        pss_nil)
      (pss_cons (ps_par (i := 3) (j := 2) rfl sc_steps_until_deep.nd rfl rfl (by decide) rfl rfl (pa_cons (pe_op op_add (pv 3) pe_int) (pa_cons (pe_op op_sub (pv 2) pe_int) pa_nil)) (by rfl))
      (pss_one (ps_for PassesOwn.never rfl (pi_list (pe_mtd (pv 0) T0.clV h_entered_from hr (by decide) (pa_cons (pv 1) pa_nil))) (pg_name (i := 8) sc_steps_until_deep.nd rfl (by first | exact Or.inl rfl | exact Or.inr rfl))
        (pss_cons (ps_asg (pe_mtd (pv 0) T0.clV h_of_pair hr (by decide) (pa_cons (pv 8) pa_nil)) (pg_tup rfl (pgs_cons (pg_name (i := 9) sc_steps_until_deep.nd rfl (by first | exact Or.inl rfl | exact Or.inr rfl)) (pgs_cons (pg_name (i := 10) sc_steps_until_deep.nd rfl (by first | exact Or.inl rfl | exact Or.inr rfl)) (pgs_cons (pg_name (i := 11) sc_steps_until_deep.nd rfl (by first | exact Or.inl rfl | exact Or.inr rfl)) (pgs_cons (pg_name (i := 12) sc_steps_until_deep.nd rfl (by first | exact Or.inl rfl | exact Or.inr rfl)) pgs_nil))))))
        (pss_cons (ps_if (PW.pt (pw_or (pt_cmpR op_eq (pv 9) (pe_gs T0.g_ENDLESS) (nomark _)) (pw_or1 (pt_cmpR op_gt (pv 11) (pv 2) (nomark _)))))
          (pss_cons (ps_set (i := 1) sc_steps_until_deep.nd rfl (by first | exact Or.inl rfl | exact Or.inr rfl) (pv 8))
          (pss_one (ps_break)))
          pss_nil)
        (pss_one (ps_aug (i := 3) sc_steps_until_deep.nd rfl (by first | exact Or.inl rfl | exact Or.inr rfl) (pv 10) ip_add)))))))))
    (pss_one (ps_ret (pv 3)))))), ?_⟩
    obtain ⟨dx, ev⟩ := hV.ins
    obtain ⟨kvs0, ed, _⟩ := hV.dct
    walk_at "go"
    intro ps hps
    walk_at "go"
    have cl := hM.cls
    refine i_while (DeepI cV H v d l as c kn D p L ps) L ⟨t, p, L, 0, [], [], _, _, _, _, _, _, _, _, rfl, rfl, (Kp.new hps).of0, hV.kp0 (Kp.new hps), ht.kp (S := []) (Kp.new hps), ik, upd_same, .nil, List.nodup_nil, (fun _ z => nomatch z), Nat.le_refl _, Nat.zero_add _⟩ ?_
    rintro m σ H1 ⟨t', p', l', s', pk, kvs, z5, z6, z7, z8, z9, z10, z11, z12, rfl, rfl, k1, V1, ht1, ik1, ep, pas, nd, sub, hl', tot⟩
    have bT : s' ≤ 10 ^ 30 * (1 + 4 * bigB) := Nat.le_trans (Nat.le_trans (by omega) (T_le hM hL L p ik)) (Nat.mul_le_mul_right _ hLL)
    walk_at "go"
    by_cases hz : l' = 0
    · subst hz
      refine iteF (by decide) ?_
      walk_at "go"
      have e0 : s' = T c L p := by rw [← tot]; rfl
      rw [e0]
      exact q H1 k1 V1
    · refine iteT (decide_eq_true (by omega)) (WhB.go ?_)
      refine i_cut (fun σ' H' => ∃ l1 s1 pk kvs z5 z6 z7 z8 z9 z10 z11 z12, l1 + 1 ≤ l' ∧ σ' = [some (.ref v), some (.ref t'), some (.int ((l1 + 1 : Nat) : Int)), some (.int (s1 : Nat)), some (.ref ps), z5, z6, z7, z8, z9, z10, z11, z12] ∧ Kp [v, d] H H' ∧ VerS H' cV v d l as c kn D ∧ PrAt H' t' p' ∧
        H' ps = some (.dT kvs) ∧ PKey (fun q v => ∃ tt f b, v = .ref tt ∧ H' tt = some (.tup [.int (f : Nat), .int (b : Nat)]) ∧ PasOk c D (· ∈ kn) q f b p' (l1 + 1) s1 ∧ f ≤ 10 ^ 30) pk kvs ∧ pk.Nodup ∧ (∀ x ∈ pk, x ∈ kn) ∧ s1 + T c (l1 + 1) p' = T c L p) ?_ ?_
      · rintro σ' H2 ⟨l1, s1, pk, kvs, z5, z6, z7, z8, z9, z10, z11, z12, hl1, rfl, k2, V2, ht2', ep2, pas2, nd2, sub2, tot2⟩
        have ht2 := ht.kp k2
        obtain ⟨dx2, ev2⟩ := V2.ins
        obtain ⟨kvs2, ed2, _⟩ := V2.dct
        have nps1 : ps ≠ v := ne_of ep2 ev2 (fun z => nomatch z)
        have nps2 : ps ≠ d := fun z => by rw [z, ed] at hps; cases hps
        have nps : ¬ ps ∈ [v, d] := by simp [nps1, nps2]
        walk_at "go"
        refine ⟨_, _, rfl, ?_⟩
        have el : ((l1 + 1 : Nat) : Int) - 1 = (l1 : Nat) := by omega
        have es : (s1 : Int) + 1 = ((s1 + 1 : Nat) : Int) := rfl
        rw [el, es]
        walk_at "go"
        refine ⟨_, _, _, rfl, ev2, rfl, ?_⟩
        walk_at "go"
        refine ⟨v, d, l, t', as, c, kn, D, p', rfl, V2, hM, hL, ht2', ik1, fun H3 a ts k3 V3 a0 ea pa => ?_⟩
        walk_at "go"
        refine ⟨⟨_, SqL.of ea⟩, ?_⟩
        have lts := plen pa
        refine ForW.it (walk_list (xs := ts.map V.ref)) (fun i σ H' => ∃ si y8 y9 y10 y11 y12, σ = [some (.ref v), some (.ref t'), some (.int (l1 : Nat)), some (.int (si : Nat)), some (.ref ps), z5, z6, z7, y8, y9, y10, y11, y12] ∧ Kp [v, d] H2 H' ∧ VerS H' cV v d l as c kn D ∧
          H' a = some (.lst (ts.map V.ref)) ∧ s1 + 1 + (brk (Vc c) l1 (kidsOf c p')).1 = si + (brk (Vc c) l1 ((kidsOf c p').drop i)).1 ∧ (brk (Vc c) l1 (kidsOf c p')).2 = (brk (Vc c) l1 ((kidsOf c p').drop i)).2 ∧ Paired (fun q t => PrAt H' t q) (kidsOf c p') ts)
          ⟨s1 + 1, _, _, _, _, _, rfl, k3, V3, ea, rfl, rfl, pa⟩ (fun i σ H' _ z => ?_) ?_ ?_
        · obtain ⟨_, _, _, _, _, _, _, _, _, z, _⟩ := z
          exact SqL.of z
        · rintro i x σ H4 H5 hi ⟨si, y8, y9, y10, y11, y12, rfl, k4, V4, ea4, b1, b2, pa4⟩ ⟨rfl, hx⟩
          rw [List.getElem?_map] at hx
          obtain ⟨tq, etq, rfl⟩ := Option.map_eq_some_iff.mp hx
          obtain ⟨q1, eq1, hq1⟩ := pgetR pa4 etq
          have iq : q1 ∈ kn := cl.kid p' ik1 q1 (List.mem_of_getElem? eq1)
          have ed1 := drop_at eq1
          obtain ⟨dx4, ev4⟩ := V4.ins
          obtain ⟨kvs4, ed4, _⟩ := V4.dct
          have na : ¬ a ∈ [v, d] := by
            have z1 : a ≠ v := ne_of ea4 ev4 (fun z => nomatch z)
            have z2 : a ≠ d := ne_of ea4 ed4 (fun z => nomatch z)
            simp [z1, z2]
          walk_at "go"
          refine ⟨_, _, _, rfl, ev4, rfl, ?_⟩
          walk_at "go"
          refine ⟨v, d, l, tq, as, c, kn, D, q1, rfl, V4, hM, hL, hq1, hM.rg q1 iq, fun H6 t6 kn' D' k6 V6 _ _ _ same e6 => ?_⟩
          obtain ⟨rfl, rfl⟩ := same iq
          have K6 : Kp [v, d] H2 H6 := k4.trans k6
          have hm := kids_len hL p'
          walk_at "go"
          have ep6 : H6 ps = some (.dT kvs) := K6.k _ _ nps ep2
          by_cases hw : (VV c q1).w = .en
          · obtain ⟨g4, g5⟩ := vdL_en hw
            have vn : Vc c q1 = none := by rw [V_fix, g5]
            have bn : brk (Vc c) l1 ((kidsOf c p').drop i) = (0, some q1) := by rw [ed1]; exact brk_en vn
            rw [bn] at b1 b2
            rw [g4] at e6
            refine ⟨t6, _, rfl, SqT.of e6, rfl, ?_⟩
            walk_at "go"
            refine iteT (by decide +kernel) ?_
            walk_at "go"
            exact ⟨l1, by omega, deep_next cl ik1 (k2.trans K6) V6 (by rw [b2]; exact hq1.kp k6) b1 ep6 K6 pas2 nd2 sub2 (by omega) tot2⟩
          · obtain ⟨g4, g5, g6, g7⟩ := vdL_fi hw
            have vn : Vc c q1 = some ⟨decide ((VV c q1).w = .un), (VV c q1).s, (VV c q1).d⟩ := by rw [V_fix, g5]
            rw [g4] at e6
            refine ⟨t6, _, rfl, SqT.of e6, rfl, ?_⟩
            walk_at "go"
            refine iteF g6 ?_
            walk_at "go"
            by_cases hd : l1 < (VV c q1).d
            · have bn : brk (Vc c) l1 ((kidsOf c p').drop i) = (0, some q1) := by rw [ed1]; exact brk_hi vn hd
              rw [bn] at b1 b2
              refine iteT (decide_eq_true (by omega)) ?_
              walk_at "go"
              exact ⟨l1, by omega, deep_next cl ik1 (k2.trans K6) V6 (by rw [b2]; exact hq1.kp k6) b1 ep6 K6 pas2 nd2 sub2 (by omega) tot2⟩
            · have bn : brk (Vc c) l1 ((kidsOf c p').drop i) = ((VV c q1).s + (brk (Vc c) l1 ((kidsOf c p').drop (i + 1))).1, (brk (Vc c) l1 ((kidsOf c p').drop (i + 1))).2) := by
                rw [ed1]
                exact brk_lo vn hd
              rw [bn] at b1 b2
              refine iteF (decide_eq_false (by omega)) ?_
              walk_at "go"
              exact ⟨si + (VV c q1).s, _, _, _, _, _, rfl, K6, V6, k6.k _ _ na ea4, by rw [b1]; simp only; omega, b2, pmap pa4 fun _ _ z => PrAt.kp z k6⟩
        · rintro σ H4 ⟨si, y8, y9, y10, y11, y12, rfl, k4, V4, ea4, b1, b2, pa4⟩
          have hd : (kidsOf c p').drop (ts.map V.ref).length = [] := List.drop_eq_nil_of_le (by rw [List.length_map, lts]; exact Nat.le_refl _)
          rw [hd] at b1 b2
          have e1 : s1 + 1 + (brk (Vc c) l1 (kidsOf c p')).1 = si := b1
          have e2 : (brk (Vc c) l1 (kidsOf c p')).2 = none := b2
          walk_at "go"
          exact ⟨l1, by omega, deep_next cl ik1 (k2.trans k4) V4 (by rw [e2]; exact ht2'.kp k4) e1 (k4.k _ _ nps ep2) k4 pas2 nd2 sub2 (by omega) tot2⟩
      · intro NX hNX
        obtain ⟨dx1, ev1⟩ := V1.ins
        have pkl : pk.length ≤ 484 := Nat.le_trans (nodup_pr_le (N := c.length) nd fun x hx => hM.rg x (sub x hx)) (Nat.mul_le_mul hL.n hL.n)
        have lk : kvs.length < sizeLine := by rw [← plen pas]; exact Nat.lt_of_le_of_lt pkl (by decide)
        have ne1 : ps ≠ v := ne_of ep ev1 (fun z => nomatch z)
        have ne2 : ps ≠ d := fun z => by rw [z, ed] at hps; cases hps
        walk_at "go"
        refine ⟨_, _, _, _, _, rfl, ev1, T0.clV, T0.nV_deepest, vf_deep _ _ _, ?_⟩
        walk_at "go"
        refine iteB (fun e => ?_) (fun e => ?_)
        · have hDl : D < l' := by have := of_decide_eq_true e; omega
          -- the second store: what stands then
          refine i_cut (fun σ' H' => ∃ l1 s1 kvs pk z5 z6 z7 z8 z9 z10 z11 z12, l1 + 1 ≤ l' ∧ σ' = [some (.ref v), some (.ref t'), some (.int ((l1 + 1 : Nat) : Int)), some (.int (s1 : Nat)), some (.ref ps), z5, z6, z7, z8, z9, z10, z11, z12] ∧ Kp [v, d] H H' ∧ VerS H' cV v d l as c kn D ∧ PrAt H' t' p' ∧
            H' ps = some (.dT kvs) ∧ PasD H' c D kn p' (l1 + 1) s1 pk kvs ∧ pk.Nodup ∧ (∀ x ∈ pk, x ∈ kn) ∧ ¬ p' ∈ pk ∧ s1 + T c (l1 + 1) p' = T c L p) ?_ ?_
          · rintro σ' H2 ⟨l1, s1, kvs1, pk1, y5, y6, y7, y8, y9, y10, y11, y12, hl1, rfl, k2, V2, ht2, ep2, pas2, nd2, sub2, np2, tot2⟩
            have pkl2 : pk1.length ≤ 484 := Nat.le_trans (nodup_pr_le (N := c.length) nd2 fun x hx => hM.rg x (sub2 x hx)) (Nat.mul_le_mul hL.n hL.n)
            have lk2 : kvs1.length < sizeLine := by rw [← plen pas2]; exact Nat.lt_of_le_of_lt pkl2 (by decide)
            walk_at "go"
            refine ⟨by show 2 ≤ sizeLine; decide, fun b hb => ?_⟩
            walk_at "go"
            have k3 : Kp [] H2 (upd H2 b (.tup [.int ((l1 + 1 : Nat) : Int), .int (s1 : Nat)])) := Kp.new hb
            have ep3 := k3.at0 ep2
            refine ⟨ps, _, rfl, DPut.t (k := kk p') ep3 (ht2.kp k3) lk2, ?_⟩
            have k4 : Kp [ps] _ (upd (upd H2 b (.tup [.int ((l1 + 1 : Nat) : Int), .int (s1 : Nat)])) ps (.dT (putK kvs1 (kk p') (.ref b)))) := Kp.wr (List.mem_singleton.mpr rfl) ep3 (fun _ z => nomatch z)
            have pa3 : PKey (fun q v => ∃ tt f b', v = .ref tt ∧ (upd (upd H2 b (.tup [.int ((l1 + 1 : Nat) : Int), .int (s1 : Nat)])) ps (.dT (putK kvs1 (kk p') (.ref b)))) tt = some (.tup [.int (f : Nat), .int (b' : Nat)]) ∧ PasOk c D (· ∈ kn) q f b' p' (l1 + 1) s1 ∧ f ≤ 10 ^ 30) pk1 kvs1 :=
              pas2.imp fun q _ v ⟨tt, f, b', g1, g2, g3, _, g5⟩ => ⟨tt, f, b', g1, k4.t _ _ (k3.t _ _ g2), g3, g5⟩
            obtain ⟨e1, e2⟩ := pa3.add (p := p') (v := .ref b) ⟨b, l1 + 1, s1, rfl, k4.t _ _ upd_same, PasOk.here ik1, Nat.le_trans (Nat.le_trans hl1 hl') hLL⟩ np2
            refine hNX _ _ ⟨l1, s1, pk1 ++ [p'], _, y5, y6, y7, y8, y9, y10, y11, y12, hl1, rfl, (k2.trans k3.of0).via k4 fun x hx => .inr (List.mem_singleton.mp hx ▸ hps), ?_, (ht2.kp k3).kp k4, upd_same, e1 ▸ e2, ?_, ?_, tot2⟩
            · exact (V2.kp0 k3).new1 k4 hps ⟨_, ev⟩ ⟨_, ed⟩ ⟨_, hV.lst.1⟩ fun a ha => (hV.rowL ha).elim fun xs e => ⟨_, e⟩
            · exact List.nodup_append.mpr ⟨nd2, by simp, fun x hx y hy e => np2 (by rw [List.mem_singleton] at hy; rw [← hy, ← e]; exact hx)⟩
            · intro x hx
              rcases List.mem_append.mp hx with hx | hx
              · exact sub2 x hx
              · exact List.mem_singleton.mp hx ▸ ik1
          · intro NY hNY
            walk_at "go"
            refine ⟨ps, _, rfl, DGet.t (k := kk p') ep ht1, ?_⟩
            by_cases ipk : p' ∈ pk
            · obtain ⟨_, g1, tt, f, b, rfl, g2, po, lf, fL⟩ := pas.get ipk
              obtain ⟨hb, tsk, hD2⟩ := po.skip cl (Nat.le_of_lt hDl) lf
              have hR : (l' - D) / (f - l') * (f - l') ≤ l' - D := Nat.div_mul_le_self _ _
              have hR2 : (l' - D) / (f - l') ≤ 10 ^ 30 := Nat.le_trans (Nat.div_le_self _ _) (by omega)
              rw [g1]
              walk_at "go"
              refine iteT rfl ?_
              walk_at "go"
              refine ⟨ps, .ref tt, rfl, g1 ▸ DGet.t (k := kk p') ep ht1, ?_⟩
              walk_at "go"
              refine ⟨tt, _, rfl, SqT.of g2, rfl, ?_⟩
              walk_at "go"
              refine ⟨_, _, _, _, _, rfl, ev1, T0.clV, T0.nV_deepest, vf_deep _ _ _, ?_⟩
              walk_at "go"
              have e1 : (l' : Int) - (D : Nat) = ((l' - D : Nat) : Int) := by omega
              have e2 : (f : Int) - (l' : Nat) = ((f - l' : Nat) : Int) := by omega
              have e3 : (s' : Int) - (b : Nat) = ((s' - b : Nat) : Int) := by omega
              have p100 : 10 ^ 30 < 2 ^ 100 := by decide
              rw [e1, e2]
              refine i_rI (wide_div (b := 100) (by omega) (by omega) (by decide) (by decide)) ?_
              have e4 : ((l' - D : Nat) : Int) / ((f - l' : Nat) : Int) = (((l' - D) / (f - l') : Nat) : Int) := rfl
              rw [e4]
              generalize hRR : (l' - D) / (f - l') = R at hR hR2 tsk hD2
              walk_at "go"
              rw [e3]
              refine i_rI (wide_mul (a := 100) (b := 1300) (by omega) (by have := bigB_lt; omega) (by decide) (by decide) (by decide)) ?_
              walk_at "go"
              rw [e2]
              refine i_rI (wide_mul (a := 100) (b := 100) (by omega) (by omega) (by decide) (by decide) (by decide)) ?_
              walk_at "go"
              refine ⟨_, _, rfl, ?_⟩
              have e5 : (s' : Int) + (R : Int) * ((s' - b : Nat) : Int) = ((s' + R * (s' - b) : Nat) : Int) := by rw [Int.natCast_add, Int.natCast_mul]
              have e6 : (l' : Int) - (R : Int) * ((f - l' : Nat) : Int) = ((l' - R * (f - l') : Nat) : Int) := by rw [← Int.natCast_mul]; omega
              rw [e5, e6]
              generalize hs2 : s' + R * (s' - b) = s2
              generalize hl2 : l' - R * (f - l') = l2 at tsk hD2
              have tot2 : s2 + T c l2 p' = T c L p := by omega
              walk_at "go"
              refine ⟨ty_dT ep, ps, _, rfl, rfl, ep, ?_⟩
              have k3 : Kp [ps] H1 (upd H1 ps (.dT [])) := Kp.wr (List.mem_singleton.mpr rfl) ep (fun _ z => nomatch z)
              have k4 := k1.via k3 fun x hx => .inr (List.mem_singleton.mp hx ▸ hps)
              have V2 := V1.new1 k3 hps ⟨_, ev⟩ ⟨_, ed⟩ ⟨_, hV.lst.1⟩ fun a ha => (hV.rowL ha).elim fun xs e => ⟨_, e⟩
              walk_at "go"
              by_cases hz2 : l2 = 0
              · refine iteT (decide_eq_true (by omega)) ?_
                walk_at "go"
                have e7 : s2 = T c L p := by rw [← tot2, hz2]; rfl
                rw [e7]
                exact q _ k4 V2
              · refine iteF (decide_eq_false (by omega)) ?_
                walk_at "go"
                refine hNY _ _ ⟨l2 - 1, s2, [], [], _, _, _, z8, z9, z10, z11, z12, by omega, by rw [show l2 - 1 + 1 = l2 by omega]; rfl, k4, V2, ht1.kp k3, upd_same, .nil, List.nodup_nil, (fun _ z => nomatch z), (fun z => nomatch z), by rw [show l2 - 1 + 1 = l2 by omega]; exact tot2⟩
            · rw [pas.out ipk]
              walk_at "go"
              refine iteF rfl ?_
              walk_at "go"
              refine hNY _ _ ⟨l' - 1, s', kvs, pk, z5, z6, z7, z8, z9, z10, z11, z12, by omega, by rw [show l' - 1 + 1 = l' by omega], k1, V1, ht1, ep, by rw [show l' - 1 + 1 = l' by omega]; exact pas, nd, sub, ipk, by rw [show l' - 1 + 1 = l' by omega]; exact tot⟩
        · walk_at "go"
          refine hNX _ _ ⟨l' - 1, s', pk, kvs, z5, z6, z7, z8, z9, z10, z11, z12, by omega, by rw [show l' - 1 + 1 = l' by omega], k1, V1, ht1, ep, ?_, nd, sub, by rw [show l' - 1 + 1 = l' by omega]; exact tot⟩
          rw [show l' - 1 + 1 = l' by omega]
          exact pas.imp fun q _ v ⟨tt, f, b', g1, g2, g3, _, g5⟩ => ⟨tt, f, b', g1, g2, g3, g5⟩
end
end Rk
set_option Elab.async false
set_option linter.all false
set_option maxRecDepth 100000
set_option maxHeartbeats 4000000
/-! max(xs, default=d) of a list of ints. -/
namespace Rk
open PySem PySem.Spec PyProof.Rows L2
theorem vals_ints {ns : List Int} {its : List Value} (h : Vals (ns.map V.int) its) {i : Nat} {v : Value} (e : its[i]? = some v) : ∃ n t, ns[i]? = some n ∧ v = .int n t := by
  induction ns generalizing its i with
  | nil => cases h; simp at e
  | cons n ns ih =>
    cases h with
    | cons a r =>
      cases i with
      | zero =>
        simp at e
        subst e
        obtain ⟨t, e⟩ := (show ∃ t, _ = Value.int n t from a)
        exact ⟨n, t, rfl, e⟩
      | succ i =>
        simp at e
        obtain ⟨m, t, h1, h2⟩ := ih r e
        exact ⟨m, t, by simpa using h1, h2⟩
section
variable {prog : Program} {w : World} {A : Around} {E : Value → Shared → Prop} {s : Shared}
theorem max_dflt {l : Addr} {its : List Value} {ns : List Int} {d : Value} {Q : Value → Shared → Prop} (hh : A.handled = none) (hl : s.heap.IsList l its.toArray) (hr : Vals (ns.map V.int) its)
    (h0 : ns = [] → ∀ h' tk, (∀ b o, s.heap.get? b = some o → h'.get? b = some o) → Q d { s with heap := h', toks := tk })
    (h : ∀ m t h' tk, m ∈ ns → (∀ y ∈ ns, y ≤ m) → (∀ b o, s.heap.get? b = some o → h'.get? b = some o) → Q (.int m t) { s with heap := h', toks := tk }) :
    wpAny (model prog w) A (call (.builtin "max") [.ref l] [(Str.ofString "default", d)]) Q E s := by
  have hn : its.length = ns.length := by rw [← hr.length, List.length_map]
  have hz : its.toArray.size = ns.length := by rw [List.size_toArray, hn]
  have val : ∀ (i : Nat) (v : Value), its.toArray[i]? = some v → ∃ t, v = .int (ns.getD i 0) t := fun i v e => by
    obtain ⟨n, t, h1, h2⟩ := vals_ints hr (by simpa using e)
    refine ⟨t, ?_⟩
    rw [h2, List.getD_eq_getElem?_getD, h1]
    rfl
  refine PySem.call_max_walkD (PySem.W.iter_listW (A := A.in1) hh hl fun s₂ e W st hfp hw hk => ?_)
  refine ⟨_, _, _, _, _, _, _, s.heap, _, rfl, W, st, hfp, hw, hk, fun hz0 s' m => ?_, fun hp => ⟨fun i j vi vj s Q E _ hi hj q => CmpOf.ints_gt (fun i => ns.getD i 0) val i j vi vj s Q E hi hj q, fun v s' hP m => ?_⟩⟩
  · obtain ⟨h', tk, rfl, hk'⟩ := PySem.W.moved_old e rfl m
    exact h0 (List.eq_nil_of_length_eq_zero (by omega)) h' tk hk'
  · obtain ⟨h', tk, rfl, hk'⟩ := PySem.W.moved_old e rfl m
    obtain ⟨h1, h2⟩ := argBest_gt (fun i => ns.getD i 0) (its.toArray.size - 1)
    obtain ⟨t, ev⟩ := val _ v hP
    subst ev
    have hlt : argBest (fun i j => decide (ns.getD i 0 > ns.getD j 0)) (its.toArray.size - 1) < ns.length := by omega
    refine h _ t h' tk ?_ (fun y hy => ?_) hk'
    · rw [List.getD_eq_getElem?_getD, List.getElem?_eq_getElem hlt]
      exact List.getElem_mem hlt
    · obtain ⟨j, hj, rfl⟩ := List.mem_iff_getElem.mp hy
      have z := h2 j (by omega)
      rw [List.getD_eq_getElem?_getD, List.getElem?_eq_getElem hj] at z
      exact z
end
def rMaxD (K : PySem.W.Frag) : List V → List V → Hp → VK → Prop := fun xs zs H Q => ∃ (a : Addr) (ns : List Int) (d : Int), xs = [.ref a] ∧ zs = [.int d] ∧ SqL K H a (ns.map V.int) ∧ (ns = [] → Q (.int d) H) ∧ ∀ m, m ∈ ns → (∀ y ∈ ns, y ≤ m) → Q (.int m) H
theorem cr_maxD {X : Cx} (hc : X.calm = true) : CallRK X (.builtin "max") [Str.ofString "default"] (rMaxD X.K) := by
  intro pins s σ H xs zs us ws Q I r1 r2 h
  obtain ⟨a, ns, d, rfl, rfl, hs, q0, q⟩ := h
  obtain ⟨its, rv, hl, _⟩ := I.list hs
  rw [Vals.ref1 r1]
  obtain ⟨u, rfl, t, rfl⟩ := vals1 r2
  exact max_dflt (I.ok.hd hc) hl.isList rv (fun e h' tk hk => ⟨.int d, H, I.kept hk, ⟨_, rfl⟩, q0 e⟩) fun m t' h' tk h1 h2 hk => ⟨.int m, H, I.kept hk, ⟨_, rfl⟩, q m h1 h2⟩
theorem pe_maxD {X : Cx} {p pos : Pos} {e : Expr} {kws : List Keyword} {t tk : TA} (hm : X.mg "max" = none) (ha : PA X [e] t) (hk : PK X kws tk) (hc : X.calm = true := by rfl) (hg : Gl X "max" := by rfl)
    (he : backTo pos (starEach [e] X.env) = (false, eval e X.env) :: backTo pos (starEach [] X.env) := by rfl) (hpl : (backTo pos (starEach [e] X.env)).any (·.1) = false := by rfl)
    (hall : (backToKw pos (keywordEach kws X.env)).all (·.1.isSome) = true := by rfl) (hnone : (backToKw pos (keywordEach kws X.env)).any (·.1.isNone) = false := by rfl) (hks : (backToKw pos (keywordEach kws X.env)).filterMap (·.1) = [Str.ofString "default"] := by rfl) :
    PE X (.Call (.Name "max" p) [e] kws pos) (tCKw (rMaxD X.K) t tk) :=
  pe_callBK (cr_maxD hc) hg hm (by decide +kernel) ha hk (by decide) (by decide) he hpl hall hnone hks
end Rk
set_option Elab.async false
set_option linter.all false
set_option maxRecDepth 100000
set_option maxHeartbeats 1000000
/-! outcomes -/
namespace Rk
open PySem PySem.Spec PyProof.Rows L2
local macro_rules | `(tactic| walk_at "go") => `(tactic| ((try dsimp only); repeat (first
  | with_reducible apply i_seq
  | ((with_reducible apply i_var); exact rfl)
  | with_reducible apply i_c
  | with_reducible apply i_cons
  | with_reducible apply i_nil
  | with_reducible apply i_call
  | with_reducible apply i_cb
  | with_reducible apply i_meth
  | with_reducible apply i_fld
  | with_reducible apply i_op
  | with_reducible apply i_rI0
  | with_reducible apply i_eqI
  | with_reducible apply i_neI
  | with_reducible apply i_eqS
  | with_reducible apply i_neS
  | with_reducible apply i_if
  | with_reducible apply i_test
  | with_reducible apply i_b
  | with_reducible apply i_bl
  | with_reducible apply i_int
  | with_reducible apply i_and
  | with_reducible apply i_or
  | with_reducible apply i_not
  | with_reducible apply i_andV
  | with_reducible apply i_orV
  | with_reducible apply i_notV
  | with_reducible apply i_ifE
  | with_reducible apply i_itt
  | with_reducible apply i_itf
  | with_reducible apply i_nt
  | with_reducible apply i_nf
  | with_reducible apply i_asg
  | with_reducible apply i_name
  | with_reducible apply i_ret
  | with_reducible apply i_retN
  | with_reducible apply i_drop
  | with_reducible apply i_next
  | with_reducible apply i_break
  | with_reducible apply i_un
  | with_reducible apply i_rU
  | with_reducible apply i_tup
  | with_reducible apply i_lst
  | with_reducible apply i_par
  | with_reducible apply i_chain
  | with_reducible apply i_gcons
  | with_reducible apply i_gnil
  | with_reducible apply i_prop
  | with_reducible apply i_make
  | ((with_reducible apply i_aug); exact rfl)
  | with_reducible apply i_ipI
  | with_reducible apply i_sl
  | with_reducible apply i_noPart
  | with_reducible apply i_part
  | with_reducible apply i_bm
  | with_reducible apply i_bm0
  | with_reducible apply i_lc
  | with_reducible apply i_for
  | with_reducible apply i_iStr
  | with_reducible apply i_iList
  | with_reducible apply i_iTup
  | with_reducible apply i_rng1
  | with_reducible apply i_rng2
  | with_reducible apply i_yes
  | with_reducible apply i_refE
  | with_reducible apply i_strE
  | with_reducible apply i_sfld
  | with_reducible apply i_dput
  | with_reducible apply i_dget
  | with_reducible apply i_din
  | with_reducible apply i_dnotin
  | with_reducible apply i_dnew
  | with_reducible apply i_augS
  | with_reducible apply i_gsub
  | with_reducible apply i_asg2
  | with_reducible apply i_disp1
  | with_reducible apply i_ar
  | with_reducible apply i_sfldaug
  | with_reducible apply i_gfld
  | with_reducible apply i_ckw
  | with_reducible apply i_rAdd)))
theorem i_lc2 {K : PySem.W.Frag} {wi wi1 : TI} {g g1 : TG} {tt tt1 : TT} {te : TE} {vs vs1 : List Nat} {σ : L2.St} {H : Hp} {Q : VK} (h : wi σ H fun J H1 => ∀ D, H1 D = none → ∃ W : Nat → Nat → Hp → Prop, (∃ m, W 0 m (upd H1 D (.lst []))) ∧ ∀ i m H, W i m H →
  (J.stop i H ∧ Q (.ref D) H) ∨ (J.go i H ∧ ∃ Nx : Hp → Prop, (∀ H', Nx H' → ∃ m', m' < m ∧ W (i + 1) m' H') ∧ ∀ x H', J.yld i H x H' → g x (wipe σ vs) H' fun σ2 H2 => wipe σ2 vs = wipe σ vs ∧ tt σ2 H2 fun b H3 =>
    if b = true then wi1 σ2 H3 fun J1 H4 => ∃ W1 : Nat → Nat → Hp → Prop, (∃ m, W1 0 m H4) ∧ ∀ j k H, W1 j k H →
      (J1.stop j H ∧ Nx H) ∨ (J1.go j H ∧ ∃ Nx1 : Hp → Prop, (∀ H', Nx1 H' → ∃ k', k' < k ∧ W1 (j + 1) k' H') ∧ ∀ x H', J1.yld j H x H' → g1 x (wipe σ2 vs1) H' fun σ3 H5 => wipe σ3 vs1 = wipe σ2 vs1 ∧ tt1 σ3 H5 fun b H6 =>
        if b = true then te σ3 H6 fun y H7 => ∃ acc, H7 D = some (.lst acc) ∧ acc.length < sizeLine ∧ Nx1 (upd H7 D (.lst (acc ++ [y]))) else Nx1 H6)
    else Nx H3)) : tLc2 wi g tt wi1 g1 tt1 te vs vs1 σ H Q := h
/-- a pair list at lp -/
def PrsAt (H : Hp) (ps : List Pr) (lp : Addr) : Prop := ∃ ts : List Addr, H lp = some (.lst (ts.map V.ref)) ∧ Paired (fun q t => PrAt H t q) ps ts
theorem PrsAt.kp {S : List Addr} {H H' : Hp} {ps : List Pr} {lp : Addr} (h : PrsAt H ps lp) (x : Kp S H H') (n : ¬ lp ∈ S) : PrsAt H' ps lp := by
  obtain ⟨ts, h1, h2⟩ := h
  exact ⟨ts, x.k _ _ n h1, pmap h2 fun _ _ z => PrAt.kp z x⟩
/-- a row of a course -/
def RowC (H : Hp) (r : Rw) (x : V) : Prop := ∃ t lp, x = .ref t ∧ H t = some (.tup [.int (r.1 : Nat), .ref lp]) ∧ PrsAt H r.2 lp
def CrsAt (H : Hp) (rows : List Rw) (cr : Addr) : Prop := ∃ xs, H cr = some (.lst xs) ∧ Paired (RowC H) rows xs
theorem RowC.kp {S : List Addr} {H H' : Hp} {r : Rw} {x : V} (h : RowC H r x) (k : Kp S H H') (n : ∀ b xs, H b = some (.lst xs) → ¬ b ∈ S) : RowC H' r x := by
  obtain ⟨t, lp, e, h1, h2⟩ := h
  have h3 := h2
  obtain ⟨ts, h4, _⟩ := h3
  exact ⟨t, lp, e, k.t _ _ h1, h2.kp k (n _ _ h4)⟩
/-- lists stay -/
theorem CrsAt.kp {S : List Addr} {H H' : Hp} {rows : List Rw} {cr : Addr} (h : CrsAt H rows cr) (k : Kp S H H') (n : ∀ b xs, H b = some (.lst xs) → ¬ b ∈ S) : CrsAt H' rows cr := by
  obtain ⟨xs, h1, h2⟩ := h
  exact ⟨xs, k.k _ _ (n _ _ h1) h1, pmap h2 fun _ _ z => z.kp k n⟩
theorem VerS.nl {H : Hp} {cV v d l : Addr} {as : List Addr} {c : Ctn} {kn : List Pr} {D : Nat} (h : VerS H cV v d l as c kn D) : ∀ b xs, H b = some (.lst xs) → ¬ b ∈ [v, d] := fun b xs e z => by
  obtain ⟨dx, h1⟩ := h.ins
  obtain ⟨kvs, h2, _⟩ := h.dct
  rcases List.mem_cons.mp z with z | z
  · rw [z, h1] at e; cases e
  · rw [List.mem_singleton.mp z, h2] at e; cases e
/-- one known pair's verdict -/
theorem of_turn {K : PySem.W.Frag} {cV cO v d l o t dx : Addr} {as : List Addr} {c : Ctn} {kn : List Pr} {D : Nat} {q : Pr} {fs : List (Str × V)} {σ : L2.St} {H : Hp} {Q : VK} {j : Nat} (hO : H o = some (.ins cO dx fs)) (hf : fs.lookup ("verdicts" : Str) = some (.ref v)) (cl : Cls K cO) (na : NoAttr K cO "verdicts")
    (s0 : σ[0]? = some (some (.ref o))) (sj : σ[j]? = some (some (.ref t))) (V0 : VerS H cV v d l as c kn D) (M : VerM c kn [] D) (L : Lim c) (ht : PrAt H t q) (iq : q ∈ kn)
    (h : ∀ H' t', Kp [v, d] H H' → VerS H' cV v d l as c kn D → H' t' = some (.tup (vdL (VV c q))) → Q (.ref t') H') : tMeth cV "of_pair" (spOfPair cV) [] E0 (tFld K (tVar 0) "verdicts") (tCons (tVar j) tNil) σ H Q := by
  obtain ⟨dv, ev⟩ := V0.ins
  refine i_meth (i_fld (i_var s0 ⟨_, _, _, _, _, rfl, hO, cl, na, hf, _, _, _, rfl, ev, rfl, i_cons (i_var sj (i_nil ?_))⟩))
  refine ⟨v, d, l, t, as, c, kn, D, q, rfl, V0, M, L, ht, M.rg q iq, fun H' t' kn' D' k1 V1 _ _ _ same e1 => ?_⟩
  obtain ⟨rfl, rfl⟩ := same iq
  exact h H' t' k1 V1 e1
/-- verdict tuples -/
def VdsAt (H : Hp) (us : List Vd) (xs : List V) : Prop := Paired (fun u x => ∃ t, x = V.ref t ∧ H t = some (.tup (vdL u))) us xs
theorem VdsAt.kp {S : List Addr} {H H' : Hp} {us : List Vd} {xs : List V} (h : VdsAt H us xs) (x : Kp S H H') : VdsAt H' us xs := pmap h fun _ _ ⟨t, e, z⟩ => ⟨t, e, x.t _ _ z⟩
theorem wipe_set {σ : L2.St} {i : Nat} {x : Option V} : ∀ {vs : List Nat}, i ∈ vs → wipe (σ.set i x) vs = wipe σ vs
  | v :: vs, h => by
    unfold wipe
    by_cases e : i = v
    · subst e
      by_cases m : i ∈ vs
      · rw [wipe_set m]
      · have g : ∀ (ws : List Nat) (τ : L2.St), ¬ i ∈ ws → wipe (τ.set i x) ws = (wipe τ ws).set i x := by
          intro ws
          induction ws with
          | nil => intro τ _; rfl
          | cons a ws ih =>
            intro τ hn
            unfold wipe
            rw [ih τ fun z => hn (List.mem_cons_of_mem _ z), List.set_comm _ _ (fun z : i = a => hn (by rw [z]; exact List.mem_cons_self ..))]
        rw [g vs σ m, List.set_set]
    · rw [wipe_set ((List.mem_cons.mp h).resolve_left e)]
theorem wipe_none {σ : L2.St} : ∀ {vs : List Nat} {i : Nat}, i ∈ vs → (wipe σ vs).set i none = wipe σ vs
  | v :: vs, i, h => by
    unfold wipe
    by_cases e : i = v
    · subst e
      rw [List.set_set]
    · rw [List.set_comm _ _ (fun z : v = i => e z.symm), wipe_none ((List.mem_cons.mp h).resolve_left e)]
theorem wipe_wipe {σ : L2.St} (vs : List Nat) : wipe (wipe σ vs) vs = wipe σ vs := by
  have g : ∀ ws : List Nat, (∀ i ∈ ws, i ∈ vs) → wipe (wipe σ vs) ws = wipe σ vs := by
    intro ws
    induction ws with
    | nil => intro _; rfl
    | cons a ws ih =>
      intro h
      show (wipe (wipe σ vs) ws).set a none = wipe σ vs
      rw [ih fun i hi => h i (List.mem_cons_of_mem _ hi)]
      exact wipe_none (h a (List.mem_cons_self ..))
  exact g vs fun _ h => h
theorem wipe_one {σ : L2.St} {vs : List Nat} {i : Nat} {x : Option V} (h : i ∈ vs) : wipe ((wipe σ vs).set i x) vs = wipe σ vs := by
  rw [wipe_set h, wipe_wipe]
/-- [verdicts.of_pair(pair) for pair in pairs] -/
theorem lc_of {K : PySem.W.Frag} {cV cO v d l o dx lp E : Addr} {as : List Addr} {c : Ctn} {kn : List Pr} {D : Nat} {ps : List Pr} {fs : List (Str × V)} {σ : L2.St} {H : Hp} {Qd : Hp → Prop} {j : Nat} {vs : List Nat} (hO : H o = some (.ins cO dx fs)) (hf : fs.lookup ("verdicts" : Str) = some (.ref v)) (cl : Cls K cO) (na : NoAttr K cO "verdicts") (nov : o ≠ v)
    (V0 : VerS H cV v d l as c kn D) (M : VerM c kn [] D) (L : Lim c) (hp : PrsAt H ps lp) (iq : ∀ q ∈ ps, q ∈ kn) (hl : ps.length < sizeLine) (hE : H E = none)
    (s0 : σ[0]? = some (some (.ref o))) (n0 : ¬ 0 ∈ vs) (hj : j ∈ vs) (jl : j < σ.length)
    (q : ∀ H' xs, Kp [v, d] H H' → VerS H' cV v d l as c kn D → H' E = some (.lst xs) → VdsAt H' (ps.map (VV c)) xs → Qd H') : LcW (Itl K lp) (gName j) tYes (tMeth cV "of_pair" (spOfPair cV) [] E0 (tFld K (tVar 0) "verdicts") (tCons (tVar j) tNil)) vs σ H E Qd := by
  obtain ⟨ts, e1, pt⟩ := hp
  obtain ⟨dv, ev⟩ := V0.ins
  obtain ⟨kv, ed, _⟩ := V0.dct
  have nod : o ≠ d := ne_of hO ed (fun z => nomatch z)
  have lt := plen pt
  have nE : ∀ {x : Addr} {u : HO}, H x = some u → ¬ x ∈ [E] := fun e => nin e hE
  refine LcW.it (walk_list (xs := ts.map V.ref)) (fun i H' => Kp [v, d] H H' ∧ VerS H' cV v d l as c kn D ∧ ∃ xs, H' E = some (.lst xs) ∧ VdsAt H' ((ps.take i).map (VV c)) xs) ⟨(Kp.new hE).of0, V0.kp0 (Kp.new hE), [], upd_same, .nil⟩ (fun i H' _ z => ?_) ?_ ?_
  · exact SqL.of (z.1.k _ _ (V0.nl _ _ e1) e1)
  · rintro i x H1 H2 hi ⟨k1, V1, xs, e2, p2⟩ ⟨rfl, hx⟩
    rw [List.getElem?_map] at hx
    obtain ⟨t, et, rfl⟩ := Option.map_eq_some_iff.mp hx
    obtain ⟨q1, eq1, hq1⟩ := pgetR pt et
    have j0 : j ≠ 0 := fun z => n0 (z ▸ hj)
    have g1 : ((wipe σ vs).set j (some (.ref t)))[0]? = some (some (.ref o)) := by rw [List.getElem?_set_ne j0, wipe_out n0]; exact s0
    have g2 : ((wipe σ vs).set j (some (.ref t)))[j]? = some (some (.ref t)) := List.getElem?_set_self (by rw [wipe_length]; exact jl)
    have g3 : wipe ((wipe σ vs).set j (some (.ref t))) vs = wipe σ vs := wipe_one hj
    have hO1 := k1.k _ _ (by simp [nov, nod]) hO
    obtain ⟨dv1, ev1⟩ := V1.ins
    obtain ⟨kv1, ed1, _⟩ := V1.dct
    have nEv : E ≠ v := fun z => by rw [z, ev1] at e2; cases e2
    have nEd : E ≠ d := fun z => by rw [z, ed1] at e2; cases e2
    refine ⟨g3, i_yes (i_itt ?_)⟩
    refine of_turn hO1 hf cl na g1 g2 V1 M L (PrAt.kp hq1 k1) (iq q1 (List.mem_of_getElem? eq1)) fun H3 t3 k3 V3 e3 => ?_
    have e4 := k3.k _ _ (by simp [nEv, nEd]) e2
    have k5 : Kp [E] H3 (upd H3 E (.lst (xs ++ [.ref t3]))) := Kp.wr (List.mem_singleton.mpr rfl) e4 (fun _ z => nomatch z)
    have lx : xs.length < sizeLine := by
      rw [← plen p2, List.length_map, List.length_take]
      omega
    refine ⟨xs, e4, lx, (k1.trans k3).via k5 fun b hb => .inr (List.mem_singleton.mp hb ▸ hE), V3.new1 k5 hE ⟨_, ev⟩ ⟨_, ed⟩ ⟨_, V0.lst.1⟩ (fun a ha => (V0.rowL ha).elim fun xs e => ⟨_, e⟩), _, upd_same, ?_⟩
    rw [take_snoc eq1, List.map_append]
    exact psnoc ((VdsAt.kp p2 k3).kp k5) ⟨t3, rfl, k5.t _ _ e3⟩
  · rintro H1 ⟨k1, V1, xs, e2, p2⟩
    rw [List.length_map, ← lt, List.take_length] at p2
    exact q H1 xs k1 V1 e2 p2
/-- [part for word, steps, depth, place in found] -/
theorem lc_part {K : PySem.W.Frag} {fo E : Addr} {us : List Vd} {ys : List V} {σ : L2.St} {H : Hp} {Qd : Hp → Prop} {i0 i1 i2 i3 ik : Nat} {vs : List Nat} (pick : Vd → Nat) (hf : H fo = some (.lst ys)) (hu : VdsAt H us ys) (fin : ∀ u ∈ us, ¬ u.w = .en) (hl : us.length < sizeLine) (hE : H E = none)
    (hv : (i0 ∈ vs ∧ i1 ∈ vs) ∧ i2 ∈ vs ∧ i3 ∈ vs) (il : ik < σ.length) (hk : (ik = i1 ∧ pick = (·.s) ∧ i2 ≠ i1 ∧ i3 ≠ i1) ∨ (ik = i2 ∧ pick = (·.d) ∧ i3 ≠ i2))
    (q : ∀ H', Kp [] H H' → H' E = some (.lst ((us.map fun u => ((pick u : Nat) : Int)).map V.int)) → Qd H') : LcW (Itl K fo) (gTup K 4 (gCons (gName i0) (gCons (gName i1) (gCons (gName i2) (gCons (gName i3) gNil))))) tYes (tVar ik) vs σ H E Qd := by
  have lu := plen hu
  refine LcW.it (walk_list (xs := ys)) (fun i H' => Kp [E] H H' ∧ H' E = some (.lst (((us.take i).map fun u => ((pick u : Nat) : Int)).map V.int))) ⟨Kp.new hE, by rw [upd_same, List.take_zero]; rfl⟩ (fun i H' _ z => z.1.sqL (nin hf hE) (SqL.of hf)) ?_ ?_
  · rintro i x H1 H2 hi ⟨k1, e2⟩ ⟨rfl, hx⟩
    obtain ⟨u, eu, t, rfl, et⟩ := pgetR hu hx
    obtain ⟨g4, _, _, _⟩ := vdL_fi (fin u (List.mem_of_getElem? eu))
    rw [g4] at et
    have s2 : wipe (((((wipe σ vs).set i0 (some (.str (wdS u.w)))).set i1 (some (.int u.s))).set i2 (some (.int u.d))).set i3 (some (.int u.pl))) vs = wipe σ vs := by
      rw [wipe_set hv.2.2, wipe_set hv.2.1, wipe_set hv.1.2, wipe_set hv.1.1, wipe_wipe]
    have s1 : (((((wipe σ vs).set i0 (some (.str (wdS u.w)))).set i1 (some (.int u.s))).set i2 (some (.int u.d))).set i3 (some (.int u.pl)))[ik]? = some (some (.int (pick u))) := by
      rcases hk with ⟨rfl, rfl, n1, n2⟩ | ⟨rfl, rfl, n1⟩
      · rw [List.getElem?_set_ne n2, List.getElem?_set_ne n1]
        exact List.getElem?_set_self (by rw [List.length_set, wipe_length]; exact il)
      · rw [List.getElem?_set_ne n1]
        exact List.getElem?_set_self (by rw [List.length_set, List.length_set, wipe_length]; exact il)
    refine ⟨t, _, rfl, SqT.of (k1.t _ _ et), rfl, ?_⟩
    refine i_gcons (i_name (i_gcons (i_name (i_gcons (i_name (i_gcons (i_name (i_gnil ⟨s2, i_yes (i_itt (i_var s1 ?_))⟩)))))))) 
    have lx : (((us.take i).map fun u => ((pick u : Nat) : Int)).map V.int).length < sizeLine := by
      rw [List.length_map, List.length_map, List.length_take]
      omega
    refine ⟨_, e2, lx, k1.wr' (List.mem_singleton.mpr rfl) e2 (fun _ z => nomatch z), ?_⟩
    rw [upd_same, take_snoc eu, List.map_append, List.map_append]
    rfl
  · rintro H1 ⟨k1, e2⟩
    rw [← lu, List.take_length] at e2
    exact q H1 (k1.drop hE) e2
end Rk
set_option Elab.async false
set_option linter.all false
set_option maxRecDepth 100000
set_option maxHeartbeats 1000000
/-! outcomes measured -/
namespace Rk
open PySem PySem.Spec PyProof.Rows L2
local macro_rules | `(tactic| walk_at "go") => `(tactic| ((try dsimp only); repeat (first
  | with_reducible apply i_seq
  | ((with_reducible apply i_var); exact rfl)
  | with_reducible apply i_c
  | with_reducible apply i_cons
  | with_reducible apply i_nil
  | with_reducible apply i_call
  | with_reducible apply i_cb
  | with_reducible apply i_meth
  | with_reducible apply i_fld
  | with_reducible apply i_op
  | with_reducible apply i_rI0
  | with_reducible apply i_eqI
  | with_reducible apply i_neI
  | with_reducible apply i_eqS
  | with_reducible apply i_neS
  | with_reducible apply i_if
  | with_reducible apply i_test
  | with_reducible apply i_b
  | with_reducible apply i_bl
  | with_reducible apply i_int
  | with_reducible apply i_and
  | with_reducible apply i_or
  | with_reducible apply i_not
  | with_reducible apply i_andV
  | with_reducible apply i_orV
  | with_reducible apply i_notV
  | with_reducible apply i_ifE
  | with_reducible apply i_itt
  | with_reducible apply i_itf
  | with_reducible apply i_nt
  | with_reducible apply i_nf
  | with_reducible apply i_asg
  | with_reducible apply i_name
  | with_reducible apply i_ret
  | with_reducible apply i_retN
  | with_reducible apply i_drop
  | with_reducible apply i_next
  | with_reducible apply i_break
  | with_reducible apply i_un
  | with_reducible apply i_rU
  | with_reducible apply i_tup
  | with_reducible apply i_lst
  | with_reducible apply i_par
  | with_reducible apply i_chain
  | with_reducible apply i_gcons
  | with_reducible apply i_gnil
  | with_reducible apply i_prop
  | with_reducible apply i_make
  | ((with_reducible apply i_aug); exact rfl)
  | with_reducible apply i_ipI
  | with_reducible apply i_sl
  | with_reducible apply i_noPart
  | with_reducible apply i_part
  | with_reducible apply i_bm
  | with_reducible apply i_bm0
  | with_reducible apply i_lc
  | with_reducible apply i_for
  | with_reducible apply i_iStr
  | with_reducible apply i_iList
  | with_reducible apply i_iTup
  | with_reducible apply i_rng1
  | with_reducible apply i_rng2
  | with_reducible apply i_yes
  | with_reducible apply i_refE
  | with_reducible apply i_strE
  | with_reducible apply i_sfld
  | with_reducible apply i_dput
  | with_reducible apply i_dget
  | with_reducible apply i_din
  | with_reducible apply i_dnotin
  | with_reducible apply i_dnew
  | with_reducible apply i_augS
  | with_reducible apply i_gsub
  | with_reducible apply i_asg2
  | with_reducible apply i_disp1
  | with_reducible apply i_ar
  | with_reducible apply i_sfldaug
  | with_reducible apply i_gfld
  | with_reducible apply i_ckw
  | with_reducible apply i_rAdd)))
def outF (wd : Str) (num : V) (v cr : Addr) (lp st dp : V) : List (Str × V) := [("word", .str wd), ("number", num), ("verdicts", .ref v), ("course", .ref cr), ("loop", lp), ("steps", st), ("depth", dp)]
section
variable (wd : Str) (num : V) (v cr : Addr) (lp st dp x : V)
theorem of_word : (outF wd num v cr lp st dp).lookup ("word" : Str) = some (.str wd) := rfl
theorem of_num : (outF wd num v cr lp st dp).lookup ("number" : Str) = some num := rfl
theorem of_ver : (outF wd num v cr lp st dp).lookup ("verdicts" : Str) = some (.ref v) := rfl
theorem of_crs : (outF wd num v cr lp st dp).lookup ("course" : Str) = some (.ref cr) := rfl
theorem of_lp : (outF wd num v cr lp st dp).lookup ("loop" : Str) = some lp := rfl
theorem of_st : (outF wd num v cr lp st dp).lookup ("steps" : Str) = some st := rfl
theorem of_dp : (outF wd num v cr lp st dp).lookup ("depth" : Str) = some dp := rfl
theorem of_pst : putF "steps" x (outF wd num v cr lp st dp) = outF wd num v cr lp x dp := rfl
theorem of_pdp : putF "depth" x (outF wd num v cr lp st dp) = outF wd num v cr lp st x := rfl
end
theorem of_len {wd : Str} {num : V} {v cr : Addr} {lp st dp : V} : (outF wd num v cr lp st dp).length < 1000 := by show 7 < 1000; decide
theorem VerS.updO {cV cO v d l o dx : Addr} {as : List Addr} {c : Ctn} {kn : List Pr} {D : Nat} {H : Hp} {fs fs' : List (Str × V)} (h : VerS H cV v d l as c kn D) (hO : H o = some (.ins cO dx fs)) (n : o ≠ v) : VerS (upd H o (.ins cO dx fs')) cV v d l as c kn D := by
  obtain ⟨kv, ed, _⟩ := h.dct
  refine h.kp (S := [o]) (Kp.wr (List.mem_singleton.mpr rfl) hO (fun _ z => nomatch z)) (fun z => n (List.mem_singleton.mp z).symm) (fun z => ?_) (fun z => ?_) fun a ha z => ?_
  · rw [List.mem_singleton] at z
    rw [z, hO] at ed; cases ed
  · rw [List.mem_singleton] at z
    have e := h.lst.1
    rw [z, hO] at e; cases e
  · rw [List.mem_singleton] at z
    obtain ⟨xs, e⟩ := h.rowL ha
    rw [z, hO] at e; cases e
theorem out_ne {cV cO o v dx dv : Addr} {H : Hp} {wd : Str} {num : V} {v' cr l d : Addr} {lp st dp : V} {D : Nat} (hO : H o = some (.ins cO dx (outF wd num v' cr lp st dp))) (ev : H v = some (.ins cV dv (vf l d D))) : o ≠ v :=
  ne_of hO ev fun z => by
    have := congrArg (fun x : HO => match x with | .ins _ _ fs => fs.length | _ => 0) z
    exact absurd this (by show ¬ (7 = 3); decide)
theorem meS_snoc {c : Ctn} {e : Nat} {ps : List Pr} : ∀ l : List Rw, meS c (l ++ [(e, ps)]) = meS c l + (e + sumS c ps)
  | [] => by show e + sumS c ps + 0 = 0 + (e + sumS c ps); omega
  | (a, b) :: r => by
    show a + sumS c b + meS c (r ++ [(e, ps)]) = a + sumS c b + meS c r + (e + sumS c ps)
    rw [meS_snoc r]
    omega
def sumE : List Rw → Nat
  | [] => 0
  | (e, _) :: r => e + sumE r
theorem sumE_snoc {e : Nat} {ps : List Pr} : ∀ l : List Rw, sumE (l ++ [(e, ps)]) = sumE l + e
  | [] => by show e + 0 = 0 + e; omega
  | (a, b) :: r => by
    show a + sumE (r ++ [(e, ps)]) = a + sumE r + e
    rw [sumE_snoc r]
    omega
theorem meD_snoc {c : Ctn} {e : Nat} {ps : List Pr} : ∀ (l : List Rw) (o : Nat), meD c o (l ++ [(e, ps)]) = max (meD c o l) (o + sumE l + e + maxD c ps)
  | [], o => by
    show max (o + e + maxD c ps) 0 = max 0 (o + 0 + e + maxD c ps)
    omega
  | (a, b) :: r, o => by
    show max (o + a + maxD c b) (meD c (o + a) (r ++ [(e, ps)])) = max (max (o + a + maxD c b) (meD c (o + a) r)) (o + (a + sumE r) + e + maxD c ps)
    rw [meD_snoc r (o + a)]
    omega
theorem sum_cast (l : List Nat) : (l.map fun n => ((n : Nat) : Int)).sum = ((l.sum : Nat) : Int) := by
  induction l with
  | nil => rfl
  | cons a l ih => rw [List.map_cons, List.sum_cons, ih, List.sum_cons, Int.natCast_add]
theorem sumS_vd {c : Ctn} {ps : List Pr} (h : ∀ q ∈ ps, ¬ (VV c q).w = .en) : (((ps.map (VV c)).map fun u => ((u.s : Nat) : Int)).sum) = ((sumS c ps : Nat) : Int) := by
  unfold sumS
  rw [← sum_cast, List.map_map, List.map_map]
  congr 1
  refine List.map_congr_left fun q hq => ?_
  show (((VV c q).s : Nat) : Int) = ((((Vc c q).map (·.s)).getD 0 : Nat) : Int)
  rw [V_fix, (vdL_fi (h q hq)).2.1]
  rfl
theorem foldr_max (l : List Nat) : ∀ m ∈ l, (∀ y ∈ l, y ≤ m) → l.foldr max 0 = m := by
  have ub : ∀ (l : List Nat) (b : Nat), (∀ y ∈ l, y ≤ b) → l.foldr max 0 ≤ b := by
    intro l
    induction l with
    | nil => intro b _; exact Nat.zero_le _
    | cons a l ih => intro b h; exact Nat.max_le.mpr ⟨h a (List.mem_cons_self ..), ih b fun y hy => h y (List.mem_cons_of_mem _ hy)⟩
  have lb : ∀ (l : List Nat) (m : Nat), m ∈ l → m ≤ l.foldr max 0 := by
    intro l
    induction l with
    | nil => intro m h; cases h
    | cons a l ih =>
      intro m h
      rcases List.mem_cons.mp h with rfl | h
      · exact Nat.le_max_left ..
      · exact Nat.le_trans (ih m h) (Nat.le_max_right ..)
  exact fun m hm h => Nat.le_antisymm (ub l m h) (lb l m hm)
theorem maxD_vd {c : Ctn} {ps : List Pr} (h : ∀ q ∈ ps, ¬ (VV c q).w = .en) : maxD c ps = (ps.map fun q => (VV c q).d).foldr max 0 := by
  unfold maxD
  congr 1
  refine List.map_congr_left fun q hq => ?_
  rw [V_fix, (vdL_fi (h q hq)).2.1]
  rfl
/-- what max(.., default=0) of the depths gives -/
theorem maxD_res {K : PySem.W.Frag} {c : Ctn} {ps : List Pr} {H : Hp} {E : Addr} {Q : VK} (h : ∀ q ∈ ps, ¬ (VV c q).w = .en) (e : H E = some (.lst (((ps.map (VV c)).map fun u => ((u.d : Nat) : Int)).map V.int))) (q : Q (.int ((maxD c ps : Nat) : Int)) H) : rMaxD K [.ref E] [.int 0] H Q := by
  refine ⟨E, _, 0, rfl, rfl, SqL.of e, fun e0 => ?_, fun m hm hub => ?_⟩
  · have e1 : ps = [] := by
      cases ps with
      | nil => rfl
      | cons a l => simp at e0
    subst e1
    exact q
  · rw [maxD_vd h] at q
    rw [List.map_map] at hm
    obtain ⟨p, hp, rfl⟩ := List.mem_map.mp hm
    rw [foldr_max (ps.map fun q => (VV c q).d) (VV c p).d (List.mem_map.mpr ⟨p, hp, rfl⟩) fun y hy => ?_] at q
    · exact q
    · obtain ⟨p2, hp2, rfl⟩ := List.mem_map.mp hy
      have z := hub (((VV c p2).d : Nat) : Int) (by rw [List.map_map]; exact List.mem_map.mpr ⟨p2, hp2, rfl⟩)
      have z2 : (((VV c p2).d : Nat) : Int) ≤ (((VV c p).d : Nat) : Int) := z
      omega
theorem fin_w {c : Ctn} {q : Pr} (h : ∃ v, Vc c q = some v) : ¬ (VV c q).w = .en := fun z => by
  obtain ⟨v, e⟩ := h
  rw [V_fix, (vdL_en z).2] at e
  cases e
abbrev N_Outcome_measure : List Str := ["self", "outer", "enters", "pairs", "found", "pair", "word", "steps", "depth", "place"]
theorem sc_Outcome_measure : FnScope N_Outcome_measure ["self"] (defScope s_Outcome_measure) := ⟨rfl, rfl, rfl, by decide +kernel, rfl, by decide +kernel, by decide +kernel⟩
def spMeasure (cV cO : Addr) : Sp := fun vs H Q _ => ∃ (o v d l cr dx : Addr) (as : List Addr) (c : Ctn) (kn : List Pr) (D : Nat) (rows : List Rw) (wd : Str) (num lp st dp : V), vs = [.ref o] ∧ H o = some (.ins cO dx (outF wd num v cr lp st dp)) ∧ VerS H cV v d l as c kn D ∧ VerM c kn [] D ∧ Lim c ∧ CrsAt H rows cr ∧
  (∀ e ps, (e, ps) ∈ rows → ∀ q ∈ ps, q ∈ kn) ∧ AllFin c rows ∧ (∀ e ps, (e, ps) ∈ rows → ps.length ≤ 4) ∧
  ∀ H', Kp [o, v, d] H H' → H' o = some (.ins cO dx (outF wd num v cr lp (.int (meS c rows)) (.int (meD c 0 rows)))) → VerS H' cV v d l as c kn D → Q .non H'
section
variable {P : Program} {w : World} {K : PySem.W.Frag} {mg : Str → Option Value} {base : Heap} {cV cO cH : Addr}
theorem ok_Outcome_measure (T : Txt K mg cV cO cH) : Mt0 P w K mg base 5 cO "measure" ["self"] (spMeasure cV cO) := by
  have h_of_pair := ok_Verdicts_of_pair (P := P) (w := w) (base := base) T
  refine T.d_Outcome_measure.ok sc_Outcome_measure (fun vs H Q E h => ?_) (fun _ _ _ _ _ _ us hl => match us, hl with | [_], _ => rfl) (fun f cdv A outer s H vs Q E hr h => ?_)
  · obtain ⟨_, _, _, _, _, _, _, _, _, _, _, _, _, _, _, _, rfl, _⟩ := h
    rfl
  · have hu := hu_of hr
    obtain ⟨o, v, d, l, cr, dx, as, c, kn, D, rows, wd, num, lp, st, dp, rfl, hO, hV, hM, hL, hC, hk, hf, h4, q⟩ := h
    refine ⟨_, (pss_cons (ps_asg2 pe_int (pg_fld (pv 0)) (pg_fld (pv 0)))
    (pss_cons (ps_set (i := 1) sc_Outcome_measure.nd rfl (by first | exact Or.inl rfl | exact Or.inr rfl) pe_int)
    (pss_one (ps_for PassesOwn.never rfl (pi_list (pe_fld (pv 0) rfl)) (pg_tup rfl (pgs_cons (pg_name (i := 2) sc_Outcome_measure.nd rfl (by first | exact Or.inl rfl | exact Or.inr rfl)) (pgs_cons (pg_name (i := 3) sc_Outcome_measure.nd rfl (by first | exact Or.inl rfl | exact Or.inr rfl)) pgs_nil)))
      (pss_cons (ps_aug (i := 1) sc_Outcome_measure.nd rfl (by first | exact Or.inl rfl | exact Or.inr rfl) (pv 2) ip_add)
      (pss_cons (ps_setLc (i := 4) (own := [("pair", 5)]) rfl sc_Outcome_measure.nd rfl rfl (sw_true rfl rfl rfl (by decide +kernel)) (pi_list (pv 3)) (blkOk_by (own := [("pair", 5)]) (N := N_Outcome_measure) (sc := defScope s_Outcome_measure) (by decide +kernel)) (by intro _ _ _ _ _; exact (pg_name (i := 5) sc_Outcome_measure.nd rfl (by first | exact Or.inl rfl | exact Or.inr rfl))) (by intro _ _ _ _ _; exact pts_nil) (by intro _ _ _ _ _; exact (pe_mtd (pe_fldK (K := K) rfl (pv 0)) T.clV h_of_pair hr (by decide) (pa_cons (pv 5) pa_nil))))
      (pss_cons (ps_fldaug (pv 0) (pe_op op_add (pv 2) (pe_bf (cr_sum rfl) T.f_sum (pa_cons (pe_lc (own := [("word", 6), ("steps", 7), ("depth", 8), ("place", 9)]) rfl sc_Outcome_measure.nd (pi_list (pv 4)) (blkOk_by (own := [("word", 6), ("steps", 7), ("depth", 8), ("place", 9)]) (N := N_Outcome_measure) (sc := defScope s_Outcome_measure) (by decide +kernel)) (by intro _ _ _ _ _; exact (pg_tupK (K := K) (n := 4) rfl rfl (pgs_cons (pg_name (i := 6) sc_Outcome_measure.nd rfl (by first | exact Or.inl rfl | exact Or.inr rfl)) (pgs_cons (pg_name (i := 7) sc_Outcome_measure.nd rfl (by first | exact Or.inl rfl | exact Or.inr rfl)) (pgs_cons (pg_name (i := 8) sc_Outcome_measure.nd rfl (by first | exact Or.inl rfl | exact Or.inr rfl)) (pgs_cons (pg_name (i := 9) sc_Outcome_measure.nd rfl (by first | exact Or.inl rfl | exact Or.inr rfl)) pgs_nil)))))) (by intro _ _ _ _ _; exact pts_nil) (by intro _ _ _ _ _; exact (pv 7))) pa_nil))) in_add)
      (pss_one (ps_fld (pv 0) (pe_bf (call_max2 rfl) T.f_max (pa_cons (pe_fld (pv 0) rfl) (pa_cons (pe_op op_add (pv 1) (pe_maxD T.f_max (pa_cons (pe_lc (own := [("word", 6), ("steps", 7), ("depth", 8), ("place", 9)]) rfl sc_Outcome_measure.nd (pi_list (pv 4)) (blkOk_by (own := [("word", 6), ("steps", 7), ("depth", 8), ("place", 9)]) (N := N_Outcome_measure) (sc := defScope s_Outcome_measure) (by decide +kernel)) (by intro _ _ _ _ _; exact (pg_tupK (K := K) (n := 4) rfl rfl (pgs_cons (pg_name (i := 6) sc_Outcome_measure.nd rfl (by first | exact Or.inl rfl | exact Or.inr rfl)) (pgs_cons (pg_name (i := 7) sc_Outcome_measure.nd rfl (by first | exact Or.inl rfl | exact Or.inr rfl)) (pgs_cons (pg_name (i := 8) sc_Outcome_measure.nd rfl (by first | exact Or.inl rfl | exact Or.inr rfl)) (pgs_cons (pg_name (i := 9) sc_Outcome_measure.nd rfl (by first | exact Or.inl rfl | exact Or.inr rfl)) pgs_nil)))))) (by intro _ _ _ _ _; exact pts_nil) (by intro _ _ _ _ _; exact (pv 8))) pa_nil) (pk_cons pe_int pk_nil))) pa_nil))) rfl))))))))), ?_⟩
    obtain ⟨dv, ev⟩ := hV.ins
    obtain ⟨kvs, ed, _⟩ := hV.dct
    have nov := out_ne hO ev
    walk_at "go"
    refine ⟨_, _, _, _, rfl, hO, T.clO, T.nO_steps, of_len, ?_⟩
    rw [of_pst]
    walk_at "go"
    refine ⟨_, _, _, _, rfl, upd_same, T.clO, T.nO_depth, of_len, ?_⟩
    rw [of_pdp]
    walk_at "go"
    obtain ⟨xs, ec, pc⟩ := hC
    have nlO : ∀ b ys, H b = some (.lst ys) → ¬ b ∈ [o, v, d] := fun b ys e z => by
      rcases List.mem_cons.mp z with z | z
      · rw [z, hO] at e; cases e
      · exact hV.nl b ys e z
    have k0 : Kp [o, v, d] H (upd (upd H o (.ins cO dx (outF wd num v cr lp (.int 0) dp))) o (.ins cO dx (outF wd num v cr lp (.int 0) (.int 0)))) := (Kp.wr (List.mem_cons_self ..) hO (fun _ z => nomatch z)).wr' (List.mem_cons_self ..) upd_same (fun _ z => nomatch z)
    have V0 : VerS (upd (upd H o (.ins cO dx (outF wd num v cr lp (.int 0) dp))) o (.ins cO dx (outF wd num v cr lp (.int 0) (.int 0)))) cV v d l as c kn D := (hV.updO hO nov).updO upd_same nov
    have hO0 : (upd (upd H o (.ins cO dx (outF wd num v cr lp (.int 0) dp))) o (.ins cO dx (outF wd num v cr lp (.int 0) (.int 0)))) o = some (.ins cO dx (outF wd num v cr lp (.int 0) (.int 0))) := upd_same
    generalize (upd (upd H o (.ins cO dx (outF wd num v cr lp (.int 0) dp))) o (.ins cO dx (outF wd num v cr lp (.int 0) (.int 0)))) = H0 at k0 V0 hO0
    refine ⟨_, _, _, _, _, rfl, hO0, T.clO, T.nO_course, of_crs _ _ _ _ _ _ _, cr, rfl, ⟨_, SqL.of (k0.k _ _ (nlO _ _ ec) ec)⟩, ?_⟩
    refine ForW.it (walk_list (xs := xs)) (fun i σ H' => ∃ z2 z3 z4 z5 z6 z7 z8 z9, σ = [some (.ref o), some (.int ((sumE (rows.take i) : Nat) : Int)), z2, z3, z4, z5, z6, z7, z8, z9] ∧ Kp [o, v, d] H H' ∧
      H' o = some (.ins cO dx (outF wd num v cr lp (.int ((meS c (rows.take i) : Nat) : Int)) (.int ((meD c 0 (rows.take i) : Nat) : Int)))) ∧ VerS H' cV v d l as c kn D) ⟨_, _, _, _, _, _, _, _, rfl, k0, by rw [List.take_zero]; exact hO0, V0⟩ (fun i σ H' _ z => ?_) ?_ ?_
    · obtain ⟨_, _, _, _, _, _, _, _, _, z, _⟩ := z
      exact SqL.of (z.k _ _ (nlO _ _ ec) ec)
    · rintro i x σ H1 H2 hi ⟨z2, z3, z4, z5, z6, z7, z8, z9, rfl, k1, hO1, V1⟩ ⟨rfl, hx⟩
      obtain ⟨⟨e, ps⟩, er, t, lpp, rfl, et, prs⟩ := pgetR pc hx
      have mr := List.mem_of_getElem? er
      have ts4 := h4 e ps mr
      have finw : ∀ u ∈ ps.map (VV c), ¬ u.w = .en := fun u hu => by
        obtain ⟨q1, hq1, rfl⟩ := List.mem_map.mp hu
        exact fin_w (hf e ps mr q1 hq1)
      have finq : ∀ q ∈ ps, ¬ (VV c q).w = .en := fun q1 hq1 => fin_w (hf e ps mr q1 hq1)
      have l4 : ps.length < sizeLine := Nat.lt_of_le_of_lt ts4 (by decide)
      have prs1 : PrsAt H2 ps lpp := by
        obtain ⟨ts, e1, _⟩ := id prs
        exact prs.kp k1 (nlO _ _ e1)
      obtain ⟨ts1, el1, _⟩ := id prs1
      walk_at "go"
      refine ⟨t, _, rfl, SqT.of (k1.t _ _ et), rfl, ?_⟩
      walk_at "go"
      refine ⟨⟨_, SqL.of el1⟩, fun E1 hE1 => ?_⟩
      refine lc_of hO1 (of_ver _ _ _ _ _ _ _) T.clO T.nO_verdicts nov V1 hM hL prs1 (hk e ps mr) l4 hE1 rfl (by decide) (by decide) (by show 5 < 10; decide) fun H3 xs3 k3 V3 e3 u3 => ?_
      have nod : o ≠ d := ne_of hO ed (fun z => nomatch z)
      have hO3 := k3.k _ _ (by simp [nov, nod]) hO1
      walk_at "go"
      refine ⟨_, _, _, _, _, rfl, hO3, T.clO, T.nO_steps, of_st _ _ _ _ _ _ _, ?_⟩
      walk_at "go"
      refine ⟨⟨_, SqL.of e3⟩, fun E2 hE2 => ?_⟩
      refine lc_part (·.s) e3 u3 finw (by rw [List.length_map]; exact l4) hE2 (by decide) (by show 7 < 10; decide) (.inl ⟨rfl, rfl, by decide, by decide⟩) fun H4 k4 e4 => ?_
      walk_at "go"
      refine ⟨E2, _, rfl, SqL.of e4, ?_⟩
      rw [sumS_vd finq]
      walk_at "go"
      have hO4 := k4.at0 hO3
      refine ⟨dx, _, hO4, of_len, ?_⟩
      rw [of_pst]
      walk_at "go"
      refine ⟨_, _, _, _, _, rfl, upd_same, T.clO, T.nO_depth, of_dp _ _ _ _ _ _ _, ?_⟩
      walk_at "go"
      have nE1 : E1 ≠ o := fun z => by rw [z, hO1] at hE1; cases hE1
      have k5 : Kp [o] H4 (upd H4 o (.ins cO dx (outF wd num v cr lp (.int (((meS c (rows.take i) : Nat) : Int) + (((e : Nat) : Int) + ((sumS c ps : Nat) : Int)))) (.int ((meD c 0 (rows.take i) : Nat) : Int))))) := Kp.wr (List.mem_singleton.mpr rfl) hO4 (fun _ z => nomatch z)
      have e5 := (k5.k _ _ (fun z => nE1 (List.mem_singleton.mp z)) (k4.at0 e3))
      refine ⟨⟨_, SqL.of e5⟩, fun E3 hE3 => ?_⟩
      refine lc_part (·.d) e5 ((u3.kp k4).kp k5) finw (by rw [List.length_map]; exact l4) hE3 (by decide) (by show 8 < 10; decide) (.inr ⟨rfl, rfl, by decide⟩) fun H6 k6 e6 => ?_
      walk_at "go"
      refine maxD_res finq e6 ?_
      walk_at "go"
      refine ⟨_, _, rfl, ?_⟩
      walk_at "go"
      have hO6 := k6.at0 (upd_same (H := H4) (a := o) (o := .ins cO dx (outF wd num v cr lp (.int (((meS c (rows.take i) : Nat) : Int) + (((e : Nat) : Int) + ((sumS c ps : Nat) : Int)))) (.int ((meD c 0 (rows.take i) : Nat) : Int)))))
      refine ⟨_, _, _, _, rfl, hO6, T.clO, T.nO_depth, of_len, ?_⟩
      rw [of_pdp]
      have K6 : Kp [o, v, d] H H6 := ((k1.trans (k3.mono fun b hb => List.mem_cons_of_mem _ hb)).trans k4.of0).trans ((k5.mono fun b hb => List.mem_singleton.mp hb ▸ List.mem_cons_self ..).trans k6.of0)
      refine ⟨_, _, _, _, _, _, _, _, by rw [take_snoc er, sumE_snoc]; rfl, K6.wr' (List.mem_cons_self ..) hO6 (fun _ z => nomatch z), ?_, (((V3.kp0 k4).updO hO4 nov).kp0 k6).updO hO6 nov⟩
      rw [upd_same, take_snoc er, meS_snoc, meD_snoc]
      have g1 : ((meS c (rows.take i) : Nat) : Int) + (((e : Nat) : Int) + ((sumS c ps : Nat) : Int)) = ((meS c (rows.take i) + (e + sumS c ps) : Nat) : Int) := by omega
      have g2 : (if ((sumE (rows.take i) : Nat) : Int) + ((e : Nat) : Int) + ((maxD c ps : Nat) : Int) > ((meD c 0 (rows.take i) : Nat) : Int) then ((sumE (rows.take i) : Nat) : Int) + ((e : Nat) : Int) + ((maxD c ps : Nat) : Int) else ((meD c 0 (rows.take i) : Nat) : Int)) = ((max (meD c 0 (rows.take i)) (0 + sumE (rows.take i) + e + maxD c ps) : Nat) : Int) := by
        rw [← max_nat]
        rw [show (((0 + sumE (rows.take i) + e + maxD c ps : Nat) : Nat) : Int) = ((sumE (rows.take i) : Nat) : Int) + ((e : Nat) : Int) + ((maxD c ps : Nat) : Int) by omega]
      rw [g1, g2]
    · rintro σ H1 ⟨z2, z3, z4, z5, z6, z7, z8, z9, rfl, k1, hO1, V1⟩
      rw [← plen pc, List.take_length] at hO1
      exact q H1 k1 hO1 V1
end
end Rk
set_option Elab.async false
set_option linter.all false
set_option maxRecDepth 100000
set_option maxHeartbeats 4000000
/-! binding -/
namespace Rk
open PySem PySem.Spec PyProof.Rows L2
local macro_rules | `(tactic| walk_at "go") => `(tactic| ((try dsimp only); repeat (first
  | with_reducible apply i_seq
  | ((with_reducible apply i_var); exact rfl)
  | with_reducible apply i_c
  | with_reducible apply i_cons
  | with_reducible apply i_nil
  | with_reducible apply i_call
  | with_reducible apply i_cb
  | with_reducible apply i_meth
  | with_reducible apply i_fld
  | with_reducible apply i_op
  | with_reducible apply i_rI0
  | with_reducible apply i_eqI
  | with_reducible apply i_neI
  | with_reducible apply i_eqS
  | with_reducible apply i_neS
  | with_reducible apply i_if
  | with_reducible apply i_test
  | with_reducible apply i_b
  | with_reducible apply i_bl
  | with_reducible apply i_int
  | with_reducible apply i_and
  | with_reducible apply i_or
  | with_reducible apply i_not
  | with_reducible apply i_andV
  | with_reducible apply i_orV
  | with_reducible apply i_notV
  | with_reducible apply i_ifE
  | with_reducible apply i_itt
  | with_reducible apply i_itf
  | with_reducible apply i_nt
  | with_reducible apply i_nf
  | with_reducible apply i_asg
  | with_reducible apply i_name
  | with_reducible apply i_ret
  | with_reducible apply i_retN
  | with_reducible apply i_drop
  | with_reducible apply i_next
  | with_reducible apply i_break
  | with_reducible apply i_un
  | with_reducible apply i_rU
  | with_reducible apply i_tup
  | with_reducible apply i_lst
  | with_reducible apply i_par
  | with_reducible apply i_chain
  | with_reducible apply i_gcons
  | with_reducible apply i_gnil
  | with_reducible apply i_prop
  | with_reducible apply i_make
  | ((with_reducible apply i_aug); exact rfl)
  | with_reducible apply i_ipI
  | with_reducible apply i_sl
  | with_reducible apply i_noPart
  | with_reducible apply i_part
  | with_reducible apply i_bm
  | with_reducible apply i_bm0
  | with_reducible apply i_lc
  | with_reducible apply i_for
  | with_reducible apply i_iStr
  | with_reducible apply i_iList
  | with_reducible apply i_iTup
  | with_reducible apply i_rng1
  | with_reducible apply i_rng2
  | with_reducible apply i_yes
  | with_reducible apply i_refE
  | with_reducible apply i_strE
  | with_reducible apply i_sfld
  | with_reducible apply i_dput
  | with_reducible apply i_dget
  | with_reducible apply i_din
  | with_reducible apply i_dnotin
  | with_reducible apply i_dnew
  | with_reducible apply i_augS
  | with_reducible apply i_gsub
  | with_reducible apply i_asg2
  | with_reducible apply i_disp1
  | with_reducible apply i_ar
  | with_reducible apply i_sfldaug
  | with_reducible apply i_gfld
  | with_reducible apply i_ckw
  | with_reducible apply i_rAdd)))
section
variable {K : PySem.W.Frag} {f : Addr} {fd : FuncData}
theorem out_b0 (F : FunD K "__init__" "Outcome.__init__" (defArgs s_Outcome_init) (defBody s_Outcome_init) (defScope s_Outcome_init) [] [("number", .non), ("loop", .non)] f fd) :
    ∃ ds, Vals [.non, .non] ds ∧ Binds K fd ["self", "word", "verdicts", "course", "number", "loop"] ds :=
  F.binds0 4 (by simp) rfl fun D doc pm an cdv ct us ks h1 h2 => match us, h1, ks, h2 with
    | [_, _, _, _], _, [_, _], _ => ⟨_, _, _, _, _, _, rfl, rfl, _, _, _, _, _, _, rfl, rfl, rfl⟩
theorem out_b1 (F : FunD K "__init__" "Outcome.__init__" (defArgs s_Outcome_init) (defBody s_Outcome_init) (defScope s_Outcome_init) [] [("number", .non), ("loop", .non)] f fd) :
    ∃ mv : List Value, KBn K fd ["self", "word", "verdicts", "course", "number", "loop"] 4 ["loop"] (fun us ws => us ++ (mv ++ ws)) (fun vs zs => vs ++ ([V.non] ++ zs)) :=
  F.kbinds0 4 ["loop"] [("number", .non)] (fun us mv ws => us ++ (mv ++ ws)) (by simp) (by simp) (fun h1 h2 h3 => h1.append (h2.append h3)) fun D doc pm an cdv ct us mv ws h1 h2 h3 => match us, h1, mv, h2, ws, h3 with
    | [_, _, _, _], _, [_], _, [_], _ => ⟨_, _, _, _, _, _, rfl, rfl, rfl⟩
end
end Rk
set_option Elab.async false
set_option linter.all false
set_option maxRecDepth 100000
set_option maxHeartbeats 1000000
/-! outcomes made -/
namespace Rk
open PySem PySem.Spec PyProof.Rows L2
local macro_rules | `(tactic| walk_at "go") => `(tactic| ((try dsimp only); repeat (first
  | with_reducible apply i_seq
  | ((with_reducible apply i_var); exact rfl)
  | with_reducible apply i_c
  | with_reducible apply i_cons
  | with_reducible apply i_nil
  | with_reducible apply i_call
  | with_reducible apply i_cb
  | with_reducible apply i_meth
  | with_reducible apply i_fld
  | with_reducible apply i_op
  | with_reducible apply i_rI0
  | with_reducible apply i_eqI
  | with_reducible apply i_neI
  | with_reducible apply i_eqS
  | with_reducible apply i_neS
  | with_reducible apply i_if
  | with_reducible apply i_test
  | with_reducible apply i_b
  | with_reducible apply i_bl
  | with_reducible apply i_int
  | with_reducible apply i_and
  | with_reducible apply i_or
  | with_reducible apply i_not
  | with_reducible apply i_andV
  | with_reducible apply i_orV
  | with_reducible apply i_notV
  | with_reducible apply i_ifE
  | with_reducible apply i_itt
  | with_reducible apply i_itf
  | with_reducible apply i_nt
  | with_reducible apply i_nf
  | with_reducible apply i_asg
  | with_reducible apply i_name
  | with_reducible apply i_ret
  | with_reducible apply i_retN
  | with_reducible apply i_drop
  | with_reducible apply i_next
  | with_reducible apply i_break
  | with_reducible apply i_un
  | with_reducible apply i_rU
  | with_reducible apply i_tup
  | with_reducible apply i_lst
  | with_reducible apply i_par
  | with_reducible apply i_chain
  | with_reducible apply i_gcons
  | with_reducible apply i_gnil
  | with_reducible apply i_prop
  | with_reducible apply i_make
  | ((with_reducible apply i_aug); exact rfl)
  | with_reducible apply i_ipI
  | with_reducible apply i_sl
  | with_reducible apply i_noPart
  | with_reducible apply i_part
  | with_reducible apply i_bm
  | with_reducible apply i_bm0
  | with_reducible apply i_lc
  | with_reducible apply i_for
  | with_reducible apply i_iStr
  | with_reducible apply i_iList
  | with_reducible apply i_iTup
  | with_reducible apply i_rng1
  | with_reducible apply i_rng2
  | with_reducible apply i_yes
  | with_reducible apply i_refE
  | with_reducible apply i_strE
  | with_reducible apply i_sfld
  | with_reducible apply i_dput
  | with_reducible apply i_dget
  | with_reducible apply i_din
  | with_reducible apply i_dnotin
  | with_reducible apply i_dnew
  | with_reducible apply i_augS
  | with_reducible apply i_gsub
  | with_reducible apply i_asg2
  | with_reducible apply i_disp1
  | with_reducible apply i_ar
  | with_reducible apply i_sfldaug
  | with_reducible apply i_gfld
  | with_reducible apply i_ckw
  | with_reducible apply i_rAdd)))
def lpV : Option Nat → V
  | none => .non
  | some n => .int (n : Nat)
/-- what is known of a course -/
structure CrsOk (c : Ctn) (kn : List Pr) (rows : List Rw) (loop : Option Nat) : Prop where
  hk : ∀ e ps, (e, ps) ∈ rows → ∀ q ∈ ps, q ∈ kn
  h4 : ∀ e ps, (e, ps) ∈ rows → ps.length ≤ 4
  rl : rows.length ≤ 1000
  lp : ∀ n, loop = some n → n < rows.length ∧ (∀ e ps, (e, ps) ∈ rows → e = 1) ∧ ∀ e ps, (e, ps) ∈ rows.drop n → ∀ q ∈ ps, ∃ v, Vc c q = some v
structure OutAt (cV cO : Addr) (H : Hp) (o v d l : Addr) (as : List Addr) (c : Ctn) (kn : List Pr) (D : Nat) (rows : List Rw) (wd : Str) (loop : Option Nat) : Prop where
  ex : ∃ (dx cr : Addr) (st dp : V), H o = some (.ins cO dx (outF wd .non v cr (lpV loop) st dp)) ∧ CrsAt H rows cr ∧ ((wd = sEnd ∧ st = .non ∧ dp = .non) ∨ (¬ wd = sEnd ∧ AllFin c rows ∧ loop = none ∧ st = .int (meS c rows : Nat) ∧ dp = .int (meD c 0 rows : Nat)))
  hV : VerS H cV v d l as c kn D
  hM : VerM c kn [] D
  hL : Lim c
  ok : CrsOk c kn rows loop
abbrev N_Outcome_init : List Str := ["self", "word", "verdicts", "course", "number", "loop"]
theorem sc_Outcome_init : FnScope N_Outcome_init ["self", "word", "verdicts", "course", "number", "loop"] (defScope s_Outcome_init) := ⟨rfl, rfl, rfl, by decide +kernel, rfl, by decide +kernel, by decide +kernel⟩
abbrev N_Outcome_ends : List Str := ["self"]
theorem sc_Outcome_ends : FnScope N_Outcome_ends ["self"] (defScope s_Outcome_ends) := ⟨rfl, rfl, rfl, by decide +kernel, rfl, by decide +kernel, by decide +kernel⟩
def spOInit (cV cO : Addr) : Sp := fun vs H Q _ => ∃ (o v d l cr dx : Addr) (as : List Addr) (c : Ctn) (kn : List Pr) (D : Nat) (rows : List Rw) (wd : Str) (loop : Option Nat), vs = [.ref o, .str wd, .ref v, .ref cr, .non, lpV loop] ∧ H o = some (.ins cO dx []) ∧ VerS H cV v d l as c kn D ∧ VerM c kn [] D ∧ Lim c ∧ CrsAt H rows cr ∧
  CrsOk c kn rows loop ∧ (¬ wd = sEnd → AllFin c rows ∧ loop = none) ∧ ∀ H', Kp [o, v, d] H H' → OutAt cV cO H' o v d l as c kn D rows wd loop → Q .non H'
def spEnds (cV cO : Addr) : Sp := fun vs H Q _ => ∃ (o v d l : Addr) (as : List Addr) (c : Ctn) (kn : List Pr) (D : Nat) (rows : List Rw) (wd : Str) (loop : Option Nat), vs = [.ref o] ∧ OutAt cV cO H o v d l as c kn D rows wd loop ∧ Q (.bl (!decide (wd = sEnd))) H
/-- the making of an outcome -/
def MkO (P : Program) (w : World) (K : PySem.W.Frag) (mg : Str → Option Value) (base : Heap) (k : Nat) (cO : Addr) (sp : Sp) : Prop := ∃ (f : Addr) (fd : FuncData), Mk K cO f ∧ FunD K "__init__" "Outcome.__init__" (defArgs s_Outcome_init) (defBody s_Outcome_init) (defScope s_Outcome_init) [] [("number", .non), ("loop", .non)] f fd ∧
  FnOk P w K mg base CX0 k f fd ["self", "word", "verdicts", "course", "number", "loop"] sp
section
variable {X : Cx} {k j : Nat} {cO : Addr} {sp : Sp} {e : Expr} {es : List Expr} {kws : List Keyword} {t tk : TA} {p pos : Pos}
theorem pe_newO (h : MkO X.prog X.w X.K X.mg X.base k cO sp) (hm : X.mg "Outcome" = some (.ref cO)) (hr : Room j X.A) (hkj : k + 1 ≤ j) (hg : Gl X "Outcome") (ha : PA X (e :: es) t)
    (he : starEach (e :: es) X.env = (false, eval e X.env) :: starEach es X.env := by rfl) (hpl : (backTo pos (starEach es X.env)).any (·.1) = false := by rfl) : PE X (.Call (.Name "Outcome" p) (e :: es) [] pos) (tMake cO sp [.non, .non] E0 t) := by
  obtain ⟨f, fd, M, F, G⟩ := h
  obtain ⟨ds, hd, hb⟩ := out_b0 F
  exact pe_make M G (hr.mono hkj) hg hm hb hd pass0 ha (by decide) he hpl
theorem pe_newOK (h : MkO X.prog X.w X.K X.mg X.base k cO sp) (hm : X.mg "Outcome" = some (.ref cO)) (hr : Room j X.A) (hkj : k + 1 ≤ j) (hg : Gl X "Outcome") (ha : PA X (e :: es) t) (hk : PK X kws tk)
    (hall : (backToKw pos (keywordEach kws X.env)).all (·.1.isSome) = true := by rfl) (hks : (backToKw pos (keywordEach kws X.env)).filterMap (·.1) = [Str.ofString "loop"] := by rfl)
    (he : starEach (e :: es) X.env = (false, eval e X.env) :: starEach es X.env := by rfl) (hpl : ((backTo pos (starEach (e :: es) X.env)).any (·.1) || (backToKw pos (keywordEach kws X.env)).any (·.1.isNone)) = false := by rfl) :
    PE X (.Call (.Name "Outcome" p) (e :: es) kws pos) (tMakeK cO 3 1 sp (fun vs zs => vs ++ ([V.non] ++ zs)) E0 t tk) := by
  obtain ⟨f, fd, M, F, G⟩ := h
  obtain ⟨mv, hb⟩ := out_b1 F
  exact pe_makeK (n := 3) M G (hr.mono hkj) hg hm hb pass0 ha hk hall hks (by decide) he hpl
end
section
variable {P : Program} {w : World} {K : PySem.W.Frag} {mg : Str → Option Value} {base : Heap} {cV cO cH : Addr}
theorem ok_Outcome_ends (T : Txt K mg cV cO cH) : Pr0 P w K mg base 1 cO "ends" (spEnds cV cO) := by
  refine T.d_Outcome_ends.ok sc_Outcome_ends (fun vs H Q E h => ?_) (fun _ _ _ _ _ _ us hl => match us, hl with | [_], _ => rfl) (fun f cdv A outer s H vs Q E hr h => ?_)
  · obtain ⟨_, _, _, _, _, _, _, _, _, _, _, rfl, _⟩ := h
    rfl
  · obtain ⟨o, v, d, l, as, c, kn, D, rows, wd, loop, rfl, hO, q⟩ := h
    obtain ⟨dx, cr, st, dp, hO, _⟩ := hO.ex
    refine ⟨_, (pss_one (ps_ret (pe_cmpR op_ne (pe_fld (pv 0) rfl) (pe_gs T.g_ENDLESS) (nomark _)))), ?_⟩
    walk_at "go"
    refine ⟨_, _, _, _, _, rfl, hO, T.clO, T.nO_word, of_word _ _ _ _ _ _ _, ?_⟩
    walk_at "go"
    exact q
theorem ok_Outcome_init (T : Txt K mg cV cO cH) : MkO P w K mg base 6 cO (spOInit cV cO) := by
  have h_measure := ok_Outcome_measure (P := P) (w := w) (base := base) T
  obtain ⟨f0, fd0, M0, F0⟩ := T.d_Outcome_init
  refine ⟨f0, fd0, M0, F0, F0.ok (CX := CX0) sc_Outcome_init (fun vs H Q E h => ?_) (fun cdv A outer s H vs Q E hr h => ?_)⟩
  · obtain ⟨_, _, _, _, _, _, _, _, _, _, _, _, _, rfl, _⟩ := h
    rfl
  · obtain ⟨o, v, d, l, cr, dx, as, c, kn, D, rows, wd, loop, rfl, hO, hV, hM, hL, hC, ok, hf, q⟩ := h
    obtain ⟨dv, ev⟩ := hV.ins
    have nov : o ≠ v := ne_of hO ev fun z => by
      have := congrArg (fun x : HO => match x with | .ins _ _ fs => fs.length | _ => 0) z
      exact absurd this (by show ¬ (0 = 3); decide)
    refine ⟨_, PSs.nox (pss_cons (ps_fld (pv 0) (pv 1) rfl)
    (pss_cons (ps_fld (pv 0) (pv 4) rfl)
    (pss_cons (ps_fld (pv 0) (pv 2) rfl)
    (pss_cons (ps_fld (pv 0) (pv 3) rfl)
    (pss_cons (ps_fld (pv 0) (pv 5) rfl)
    (pss_cons (ps_asg2 pe_non (pg_fld (pv 0)) (pg_fld (pv 0)))
    (pss_one (ps_if (pt_cmpR op_ne (pv 1) (pe_gs T.g_ENDLESS) (nomark _))
      (pss_one (ps_expr (pe_mtd0 (pv 0) T.clO h_measure hr (by decide))))
      pss_nil)))))))), ?_⟩
    walk_at "go"
    refine ⟨_, _, _, _, rfl, hO, T.clO, T.nO_word, by show 0 < 1000; decide, ?_⟩
    walk_at "go"
    refine ⟨_, _, _, _, rfl, upd_same, T.clO, T.nO_number, by show 1 < 1000; decide, ?_⟩
    rw [upd_upd]
    walk_at "go"
    refine ⟨_, _, _, _, rfl, upd_same, T.clO, T.nO_verdicts, by show 2 < 1000; decide, ?_⟩
    rw [upd_upd]
    walk_at "go"
    refine ⟨_, _, _, _, rfl, upd_same, T.clO, T.nO_course, by show 3 < 1000; decide, ?_⟩
    rw [upd_upd]
    walk_at "go"
    refine ⟨_, _, _, _, rfl, upd_same, T.clO, T.nO_loop, by show 4 < 1000; decide, ?_⟩
    rw [upd_upd]
    walk_at "go"
    refine ⟨_, _, _, _, rfl, upd_same, T.clO, T.nO_steps, by show 5 < 1000; decide, ?_⟩
    rw [upd_upd]
    walk_at "go"
    refine ⟨_, _, _, _, rfl, upd_same, T.clO, T.nO_depth, by show 6 < 1000; decide, ?_⟩
    rw [upd_upd]
    have e1 : putF "depth" .non (putF "steps" .non (putF "loop" (lpV loop) (putF "course" (.ref cr) (putF "verdicts" (.ref v) (putF "number" .non (putF "word" (.str wd) [])))))) = outF wd .non v cr (lpV loop) .non .non := rfl
    rw [e1]
    walk_at "go"
    have k1 : Kp [o, v, d] H (upd H o (.ins cO dx (outF wd .non v cr (lpV loop) .non .non))) := Kp.wr (List.mem_cons_self ..) hO (fun _ z => nomatch z)
    have V1 : VerS (upd H o (.ins cO dx (outF wd .non v cr (lpV loop) .non .non))) cV v d l as c kn D := hV.updO hO nov
    have nlO : ∀ b ys, H b = some (.lst ys) → ¬ b ∈ [o, v, d] := fun b ys e z => by
      rcases List.mem_cons.mp z with z | z
      · rw [z, hO] at e; cases e
      · exact hV.nl b ys e z
    have C1 := hC.kp k1 nlO
    by_cases hw : wd = sEnd
    · refine iteF (by subst hw; decide +kernel) ?_
      walk_at "go"
      exact q _ k1 ⟨⟨dx, cr, _, _, upd_same, C1, .inl ⟨hw, rfl, rfl⟩⟩, V1, hM, hL, ok⟩
    · obtain ⟨hf, hlp⟩ := hf hw
      refine iteT (by rw [Bool.not_eq_true', decide_eq_false_iff_not]; exact hw) ?_
      walk_at "go"
      refine ⟨_, _, _, rfl, upd_same, rfl, ?_⟩
      walk_at "go"
      refine ⟨o, v, d, l, cr, dx, as, c, kn, D, rows, wd, .non, lpV loop, .non, .non, rfl, upd_same, V1, hM, hL, C1, ok.hk, hf, ok.h4, fun H' k2 hO2 V2 => ?_⟩
      have nl2 : ∀ b ys, (upd H o (.ins cO dx (outF wd .non v cr (lpV loop) .non .non))) b = some (.lst ys) → ¬ b ∈ [o, v, d] := fun b ys e z => by
        rcases List.mem_cons.mp z with z | z
        · rw [z, upd_same] at e; cases e
        · exact V1.nl b ys e z
      exact q H' (k1.trans k2) ⟨⟨dx, cr, _, _, hO2, C1.kp k2 nl2, .inr ⟨hw, hf, hlp, rfl, rfl⟩⟩, V2, hM, hL, ok⟩
end
end Rk
set_option Elab.async false
set_option linter.all false
set_option maxRecDepth 100000
set_option maxHeartbeats 1000000
/-! rounds -/
namespace Rk
open PySem PySem.Spec PyProof.Rows L2
local macro_rules | `(tactic| walk_at "go") => `(tactic| ((try dsimp only); repeat (first
  | with_reducible apply i_seq
  | ((with_reducible apply i_var); exact rfl)
  | with_reducible apply i_c
  | with_reducible apply i_cons
  | with_reducible apply i_nil
  | with_reducible apply i_call
  | with_reducible apply i_cb
  | with_reducible apply i_meth
  | with_reducible apply i_fld
  | with_reducible apply i_op
  | with_reducible apply i_rI0
  | with_reducible apply i_eqI
  | with_reducible apply i_neI
  | with_reducible apply i_eqS
  | with_reducible apply i_neS
  | with_reducible apply i_if
  | with_reducible apply i_test
  | with_reducible apply i_b
  | with_reducible apply i_bl
  | with_reducible apply i_int
  | with_reducible apply i_and
  | with_reducible apply i_or
  | with_reducible apply i_not
  | with_reducible apply i_andV
  | with_reducible apply i_orV
  | with_reducible apply i_notV
  | with_reducible apply i_ifE
  | with_reducible apply i_itt
  | with_reducible apply i_itf
  | with_reducible apply i_nt
  | with_reducible apply i_nf
  | with_reducible apply i_asg
  | with_reducible apply i_name
  | with_reducible apply i_ret
  | with_reducible apply i_retN
  | with_reducible apply i_drop
  | with_reducible apply i_next
  | with_reducible apply i_break
  | with_reducible apply i_un
  | with_reducible apply i_rU
  | with_reducible apply i_tup
  | with_reducible apply i_lst
  | with_reducible apply i_par
  | with_reducible apply i_chain
  | with_reducible apply i_gcons
  | with_reducible apply i_gnil
  | with_reducible apply i_prop
  | with_reducible apply i_make
  | ((with_reducible apply i_aug); exact rfl)
  | with_reducible apply i_ipI
  | with_reducible apply i_sl
  | with_reducible apply i_noPart
  | with_reducible apply i_part
  | with_reducible apply i_bm
  | with_reducible apply i_bm0
  | with_reducible apply i_lc
  | with_reducible apply i_for
  | with_reducible apply i_iStr
  | with_reducible apply i_iList
  | with_reducible apply i_iTup
  | with_reducible apply i_rng1
  | with_reducible apply i_rng2
  | with_reducible apply i_yes
  | with_reducible apply i_refE
  | with_reducible apply i_strE
  | with_reducible apply i_sfld
  | with_reducible apply i_dput
  | with_reducible apply i_dget
  | with_reducible apply i_din
  | with_reducible apply i_dnotin
  | with_reducible apply i_dnew
  | with_reducible apply i_augS
  | with_reducible apply i_gsub
  | with_reducible apply i_asg2
  | with_reducible apply i_disp1
  | with_reducible apply i_ar
  | with_reducible apply i_sfldaug
  | with_reducible apply i_gfld
  | with_reducible apply i_ckw
  | with_reducible apply i_rAdd)))
/-! ### comprehensions of two clauses -/
def InW (J1 : L2.It) (g1 : TG) (tt1 : TT) (te : TE) (vs1 : List Nat) (σ2 : L2.St) (H4 : Hp) (D : Addr) (Nx : Hp → Prop) : Prop := ∃ W1 : Nat → Nat → Hp → Prop, (∃ m, W1 0 m H4) ∧ ∀ j k H, W1 j k H →
  (J1.stop j H ∧ Nx H) ∨ (J1.go j H ∧ ∃ Nx1 : Hp → Prop, (∀ H', Nx1 H' → ∃ k', k' < k ∧ W1 (j + 1) k' H') ∧ ∀ x H', J1.yld j H x H' → g1 x (wipe σ2 vs1) H' fun σ3 H5 => wipe σ3 vs1 = wipe σ2 vs1 ∧ tt1 σ3 H5 fun b H6 =>
    if b = true then te σ3 H6 fun y H7 => ∃ acc, H7 D = some (.lst acc) ∧ acc.length < sizeLine ∧ Nx1 (upd H7 D (.lst (acc ++ [y]))) else Nx1 H6)
def LcW2 (J : L2.It) (g : TG) (tt : TT) (wi1 : TI) (g1 : TG) (tt1 : TT) (te : TE) (vs vs1 : List Nat) (σ : L2.St) (H1 : Hp) (D : Addr) (Qd : Hp → Prop) : Prop := ∃ W : Nat → Nat → Hp → Prop, (∃ m, W 0 m (upd H1 D (.lst []))) ∧ ∀ i m H, W i m H →
  (J.stop i H ∧ Qd H) ∨ (J.go i H ∧ ∃ Nx : Hp → Prop, (∀ H', Nx H' → ∃ m', m' < m ∧ W (i + 1) m' H') ∧ ∀ x H', J.yld i H x H' → g x (wipe σ vs) H' fun σ2 H2 => wipe σ2 vs = wipe σ vs ∧ tt σ2 H2 fun b H3 =>
    if b = true then wi1 σ2 H3 fun J1 H4 => InW J1 g1 tt1 te vs1 σ2 H4 D Nx else Nx H3)
theorem i_lcw2 {wi wi1 : TI} {g g1 : TG} {tt tt1 : TT} {te : TE} {vs vs1 : List Nat} {σ : L2.St} {H : Hp} {Q : VK} (h : wi σ H fun J H1 => ∀ D, H1 D = none → LcW2 J g tt wi1 g1 tt1 te vs vs1 σ H1 D (Q (.ref D))) : tLc2 wi g tt wi1 g1 tt1 te vs vs1 σ H Q := h
theorem InW.it {J1 : L2.It} {n : Nat} {G : Hp → Prop} {Y : Nat → Hp → V → Hp → Prop} {g1 : TG} {tt1 : TT} {te : TE} {vs1 : List Nat} {σ2 : L2.St} {H4 : Hp} {D : Addr} {Nx : Hp → Prop} (w : Walk J1 n G Y) (Pv : Nat → Hp → Prop) (h0 : Pv 0 H4) (hG : ∀ i H, i ≤ n → Pv i H → G H)
    (hs : ∀ i x H H', i < n → Pv i H → Y i H x H' → g1 x (wipe σ2 vs1) H' fun σ3 H5 => wipe σ3 vs1 = wipe σ2 vs1 ∧ tt1 σ3 H5 fun b H6 =>
      if b = true then te σ3 H6 fun y H7 => ∃ acc, H7 D = some (.lst acc) ∧ acc.length < sizeLine ∧ Pv (i + 1) (upd H7 D (.lst (acc ++ [y]))) else Pv (i + 1) H6) (hd : ∀ H, Pv n H → Nx H) : InW J1 g1 tt1 te vs1 σ2 H4 D Nx := by
  refine ⟨fun i m H => m = n - i ∧ i ≤ n ∧ Pv i H, ⟨n, by simp, Nat.zero_le _, h0⟩, ?_⟩
  rintro i m H ⟨rfl, hi, p⟩
  have q := hG i H hi p
  by_cases hlt : i < n
  · exact .inr ⟨w.goes i H hlt q, Pv (i + 1), fun H' p' => ⟨n - (i + 1), by omega, rfl, hlt, p'⟩, fun x H' y => hs i x H H' hlt p (w.yields i H x H' hlt q y)⟩
  · have e : i = n := by omega
    subst e
    exact .inl ⟨w.stops H q, hd H p⟩
theorem LcW2.it {J : L2.It} {n : Nat} {G : Hp → Prop} {Y : Nat → Hp → V → Hp → Prop} {wi1 : TI} {g g1 : TG} {tt tt1 : TT} {te : TE} {vs vs1 : List Nat} {σ : L2.St} {H1 : Hp} {D : Addr} {Qd : Hp → Prop} (w : Walk J n G Y) (Pv : Nat → Hp → Prop) (h0 : Pv 0 (upd H1 D (.lst []))) (hG : ∀ i H, i ≤ n → Pv i H → G H)
    (hs : ∀ i x H H', i < n → Pv i H → Y i H x H' → g x (wipe σ vs) H' fun σ2 H2 => wipe σ2 vs = wipe σ vs ∧ tt σ2 H2 fun b H3 =>
      if b = true then wi1 σ2 H3 fun J1 H4 => InW J1 g1 tt1 te vs1 σ2 H4 D (Pv (i + 1)) else Pv (i + 1) H3) (hd : ∀ H, Pv n H → Qd H) : LcW2 J g tt wi1 g1 tt1 te vs vs1 σ H1 D Qd := by
  refine ⟨fun i m H => m = n - i ∧ i ≤ n ∧ Pv i H, ⟨n, by simp, Nat.zero_le _, h0⟩, ?_⟩
  rintro i m H ⟨rfl, hi, p⟩
  have q := hG i H hi p
  by_cases hlt : i < n
  · exact .inr ⟨w.goes i H hlt q, Pv (i + 1), fun H' p' => ⟨n - (i + 1), by omega, rfl, hlt, p'⟩, fun x H' y => hs i x H H' hlt p (w.yields i H x H' hlt q y)⟩
  · have e : i = n := by omega
    subst e
    exact .inl ⟨w.stops H q, hd H p⟩
/-! ### sums over rows -/
def allP (rows : List Rw) : List Pr := rows.flatMap (·.2)
theorem allP_snoc (l : List Rw) (e : Nat) (ps : List Pr) : allP (l ++ [(e, ps)]) = allP l ++ ps := by simp [allP]
theorem sumS_app {c : Ctn} (a b : List Pr) : sumS c (a ++ b) = sumS c a + sumS c b := by
  unfold sumS
  rw [List.map_append, List.sum_append]
theorem meS_all {c : Ctn} : ∀ rows : List Rw, (∀ e ps, (e, ps) ∈ rows → e = 1) → meS c rows = rows.length + sumS c (allP rows)
  | [], _ => rfl
  | (e, ps) :: r, h => by
    have ih := meS_all (c := c) r fun e ps hm => h e ps (List.mem_cons_of_mem _ hm)
    have e1 := h e ps (List.mem_cons_self ..)
    show e + sumS c ps + meS c r = r.length + 1 + sumS c (ps ++ allP r)
    rw [ih, sumS_app, e1]
    omega
theorem maxD_mem {c : Ctn} {q : Pr} {v : Fv} (h : Vc c q = some v) : ∀ {ps : List Pr}, q ∈ ps → v.d ≤ maxD c ps
  | p :: r, hm => by
    unfold maxD
    rw [List.map_cons, List.foldr_cons]
    rcases List.mem_cons.mp hm with rfl | hm
    · rw [h]
      exact Nat.le_max_left ..
    · exact Nat.le_trans (maxD_mem h hm) (Nat.le_max_right ..)
theorem allP_len : ∀ rows : List Rw, (∀ e ps, (e, ps) ∈ rows → ps.length ≤ 4) → (allP rows).length ≤ rows.length * 4
  | [], _ => Nat.le_refl _
  | (e, ps) :: r, h => by
    have ih := allP_len r fun e ps hm => h e ps (List.mem_cons_of_mem _ hm)
    have e1 := h e ps (List.mem_cons_self ..)
    show (ps ++ allP r).length ≤ (r.length + 1) * 4
    rw [List.length_append]
    omega
theorem sumS_le {c : Ctn} {B : Nat} : ∀ ps : List Pr, (∀ q ∈ ps, ∀ v, Vc c q = some v → v.s ≤ B) → sumS c ps ≤ ps.length * B
  | [], _ => Nat.zero_le _
  | q :: r, h => by
    have ih := sumS_le (c := c) r fun q hq => h q (List.mem_cons_of_mem _ hq)
    have e1 : ((Vc c q).map (·.s)).getD 0 ≤ B := by
      cases e : Vc c q with
      | none => exact Nat.zero_le _
      | some v => exact h q (List.mem_cons_self ..) v e
    have e2 : sumS c (q :: r) = ((Vc c q).map (·.s)).getD 0 + sumS c r := rfl
    rw [e2, List.length_cons, Nat.add_mul, Nat.one_mul]
    omega
theorem cutV_drop (xs : List V) (k : Nat) : cutV xs (some (k : Int)) none = xs.drop k := by
  unfold cutV
  rw [HT.sIx_none, HT.sIx_nat]
  by_cases h : k ≤ xs.length
  · rw [Nat.min_eq_left h, List.take_of_length_le (by rw [List.length_drop]; exact Nat.le_refl _)]
  · rw [Nat.min_eq_right (by omega), List.drop_of_length_le (Nat.le_refl _), List.drop_of_length_le (by omega), List.take_nil]
theorem pdrop {α β : Type} {F : α → β → Prop} {l : List α} {k : List β} (h : Paired F l k) : ∀ n, Paired F (l.drop n) (k.drop n) := by
  induction h with
  | nil => intro n; rw [List.drop_nil, List.drop_nil]; exact .nil
  | cons f t ih =>
    intro n
    cases n with
    | zero => exact .cons f t
    | succ n => exact ih n
abbrev N_Outcome_go_round : List Str := ["self", "steps", "room", "rows", "found", "deepest", "times", "cost", "enters", "pairs", "pair", "word", "depth", "place"]
theorem sc_Outcome_go_round : FnScope N_Outcome_go_round ["self", "steps", "room"] (defScope s_Outcome_go_round) := ⟨rfl, rfl, rfl, by decide +kernel, rfl, by decide +kernel, by decide +kernel⟩
def spRound (cV cO : Addr) : Sp := fun vs H Q _ => ∃ (o v d l : Addr) (as : List Addr) (c : Ctn) (kn : List Pr) (D : Nat) (rows : List Rw) (wd : Str) (n st room : Nat), vs = [.ref o, .int st, .int room] ∧ OutAt cV cO H o v d l as c kn D rows wd (some n) ∧ room ≤ 10 ^ 30 ∧
  ∀ H' t, Kp [v, d] H H' → VerS H' cV v d l as c kn D → H' t = some (.tup [.int ((st + (room - maxD c (allP (rows.drop n))) / (rows.drop n).length * meS c (rows.drop n) : Nat) : Int), .int ((room - (room - maxD c (allP (rows.drop n))) / (rows.drop n).length * (rows.drop n).length : Nat) : Int)]) → Q (.ref t) H'
section
variable {P : Program} {w : World} {K : PySem.W.Frag} {mg : Str → Option Value} {base : Heap} {cV cO cH : Addr}
theorem ok_Outcome_go_round (T : Txt K mg cV cO cH) : Mt0 P w K mg base 5 cO "go_round" ["self", "steps", "room"] (spRound cV cO) := by
  have h_of_pair := ok_Verdicts_of_pair (P := P) (w := w) (base := base) T
  refine T.d_Outcome_go_round.ok sc_Outcome_go_round (fun vs H Q E h => ?_) (fun _ _ _ _ _ _ us hl => match us, hl with | [_, _, _], _ => rfl) (fun f cdv A outer s H vs Q E hr h => ?_)
  · obtain ⟨_, _, _, _, _, _, _, _, _, _, _, _, _, rfl, _⟩ := h
    rfl
  · have hu := hu_of hr
    obtain ⟨o, v, d, l, as, c, kn, D, rows, wd, n, st, room, rfl, hOA, hroom, q⟩ := h
    obtain ⟨dx, cr, st0, dp0, hO, ⟨xs, ec, pc⟩, _⟩ := hOA.ex
    have hV := hOA.hV
    have hM := hOA.hM
    have hL := hOA.hL
    have ok := hOA.ok
    obtain ⟨hn, h1, hfin⟩ := ok.lp n rfl
    obtain ⟨dv, ev⟩ := hV.ins
    obtain ⟨kvs, ed, _⟩ := hV.dct
    have nov := out_ne hO ev
    have nod : o ≠ d := ne_of hO ed (fun z => nomatch z)
    refine ⟨_, (pss_cons (ps_set (i := 3) sc_Outcome_go_round.nd rfl (by first | exact Or.inl rfl | exact Or.inr rfl) (pe_slice sl_list (pe_fld (pv 0) rfl) (po_some (pe_fld (pv 0) rfl)) po_none))
    (pss_cons (ps_setLc2 (i := 4) (vs1 := [10]) (own := [("enters", 8), ("pairs", 9), ("pair", 10)]) rfl sc_Outcome_go_round.nd rfl rfl (sw_true rfl rfl rfl (by decide +kernel)) (pi_list (pv 3)) (blkOk_by (own := [("enters", 8), ("pairs", 9), ("pair", 10)]) (N := N_Outcome_go_round) (sc := defScope s_Outcome_go_round) (by decide +kernel)) (by decide) (by intro _ _ _ _ _; exact (pg_tupK (K := K) (n := 2) rfl rfl (pgs_cons (pg_name (i := 8) sc_Outcome_go_round.nd rfl (by first | exact Or.inl rfl | exact Or.inr rfl)) (pgs_cons (pg_name (i := 9) sc_Outcome_go_round.nd rfl (by first | exact Or.inl rfl | exact Or.inr rfl)) pgs_nil)))) (by intro _ _ _ _ _; exact pts_nil) (by intro _ _ _ _ _; exact (pi_listK (K := K) rfl (pv 9))) (by intro _ _ _ _ _; exact (pg_name (i := 10) sc_Outcome_go_round.nd rfl (by first | exact Or.inl rfl | exact Or.inr rfl))) (by intro _ _ _ _ _; exact pts_nil) (by intro _ _ _ _ _; exact (pe_mtd (pe_fldK (K := K) rfl (pv 0)) T.clV h_of_pair hr (by decide) (pa_cons (pv 10) pa_nil))))
    (pss_cons (ps_set (i := 5) sc_Outcome_go_round.nd rfl (by first | exact Or.inl rfl | exact Or.inr rfl) (pe_maxD T.f_max (pa_cons (pe_lc (own := [("word", 11), ("cost", 7), ("depth", 12), ("place", 13)]) rfl sc_Outcome_go_round.nd (pi_list (pv 4)) (blkOk_by (own := [("word", 11), ("cost", 7), ("depth", 12), ("place", 13)]) (N := N_Outcome_go_round) (sc := defScope s_Outcome_go_round) (by decide +kernel)) (by intro _ _ _ _ _; exact (pg_tupK (K := K) (n := 4) rfl rfl (pgs_cons (pg_name (i := 11) sc_Outcome_go_round.nd rfl (by first | exact Or.inl rfl | exact Or.inr rfl)) (pgs_cons (pg_name (i := 7) sc_Outcome_go_round.nd rfl (by first | exact Or.inl rfl | exact Or.inr rfl)) (pgs_cons (pg_name (i := 12) sc_Outcome_go_round.nd rfl (by first | exact Or.inl rfl | exact Or.inr rfl)) (pgs_cons (pg_name (i := 13) sc_Outcome_go_round.nd rfl (by first | exact Or.inl rfl | exact Or.inr rfl)) pgs_nil)))))) (by intro _ _ _ _ _; exact pts_nil) (by intro _ _ _ _ _; exact (pv 12))) pa_nil) (pk_cons pe_int pk_nil)))
    (pss_cons (ps_set (i := 6) sc_Outcome_go_round.nd rfl (by first | exact Or.inl rfl | exact Or.inr rfl) (pe_op op_fdiv (pe_bf (call_max2 rfl) T.f_max (pa_cons pe_int (pa_cons (pe_op op_sub (pv 2) (pv 5)) pa_nil))) (pe_bf call_len_seq T.f_len (pa_cons (pv 3) pa_nil))))
    (pss_cons (ps_set (i := 7) sc_Outcome_go_round.nd rfl (by first | exact Or.inl rfl | exact Or.inr rfl) (pe_op op_add (pe_bf call_len_seq T.f_len (pa_cons (pv 3) pa_nil)) (pe_bf (cr_sum rfl) T.f_sum (pa_cons (pe_lc (own := [("word", 11), ("cost", 7), ("depth", 12), ("place", 13)]) rfl sc_Outcome_go_round.nd (pi_list (pv 4)) (blkOk_by (own := [("word", 11), ("cost", 7), ("depth", 12), ("place", 13)]) (N := N_Outcome_go_round) (sc := defScope s_Outcome_go_round) (by decide +kernel)) (by intro _ _ _ _ _; exact (pg_tupK (K := K) (n := 4) rfl rfl (pgs_cons (pg_name (i := 11) sc_Outcome_go_round.nd rfl (by first | exact Or.inl rfl | exact Or.inr rfl)) (pgs_cons (pg_name (i := 7) sc_Outcome_go_round.nd rfl (by first | exact Or.inl rfl | exact Or.inr rfl)) (pgs_cons (pg_name (i := 12) sc_Outcome_go_round.nd rfl (by first | exact Or.inl rfl | exact Or.inr rfl)) (pgs_cons (pg_name (i := 13) sc_Outcome_go_round.nd rfl (by first | exact Or.inl rfl | exact Or.inr rfl)) pgs_nil)))))) (by intro _ _ _ _ _; exact pts_nil) (by intro _ _ _ _ _; exact (pv 7))) pa_nil))))
    (pss_one (ps_ret (pe_tup (pa_cons (pe_op op_add (pv 1) (pe_op op_mulW (pv 6) (pv 7))) (pa_cons (pe_op op_sub (pv 2) (pe_op op_mulW (pv 6) (pe_bf call_len_seq T.f_len (pa_cons (pv 3) pa_nil)))) pa_nil)))))))))), ?_⟩
    walk_at "go"
    refine ⟨_, _, _, _, _, rfl, hO, T.clO, T.nO_course, of_crs _ _ _ _ _ _ _, ?_⟩
    walk_at "go"
    refine ⟨_, _, _, _, _, rfl, hO, T.clO, T.nO_loop, of_lp _ _ _ _ _ _ _, ?_⟩
    walk_at "go"
    refine ⟨_, rfl, ?_⟩
    walk_at "go"
    refine ⟨cr, _, rfl, SqL.of ec, fun R hR => ?_⟩
    rw [cutV_drop]
    have mem : ∀ e ps, (e, ps) ∈ rows.drop n → (e, ps) ∈ rows := fun e ps h => List.mem_of_mem_drop h
    have hk := fun e ps h => ok.hk e ps (mem e ps h)
    have h4 := fun e ps h => ok.h4 e ps (mem e ps h)
    have h1' := fun e ps h => h1 e ps (mem e ps h)
    have hpos : 0 < (rows.drop n).length := by rw [List.length_drop]; omega
    have hle : (rows.drop n).length ≤ 1000 := by rw [List.length_drop]; have := ok.rl; omega
    have pd := pdrop pc n
    generalize rows.drop n = rs at mem hk h4 h1' hpos hle pd hfin q
    generalize xs.drop n = ys0 at pd
    have kR : Kp [] H (upd H R (.lst ys0)) := Kp.new hR
    have eR : (upd H R (.lst ys0)) R = some (.lst ys0) := upd_same
    have pd1 : Paired (RowC (upd H R (.lst ys0))) rs ys0 := pmap pd fun _ _ z => z.kp kR fun _ _ _ z => nomatch z
    have V1 := hV.kp0 kR
    have hO1 := kR.at0 hO
    generalize upd H R (.lst ys0) = H1 at kR eR pd1 V1 hO1
    have lpd := plen pd1
    have al := allP_len rs h4
    walk_at "go"
    refine i_lcw2 ?_
    walk_at "go"
    refine ⟨⟨_, SqL.of eR⟩, fun E hE => ?_⟩
    have tk : ∀ i, ∀ e ps, (e, ps) ∈ rs.take i → (e, ps) ∈ rs := fun i e ps h => List.mem_of_mem_take h
    have xv : ∃ u, H1 v = some u := let ⟨_, e⟩ := V1.ins; ⟨_, e⟩
    have xd : ∃ u, H1 d = some u := let ⟨_, e, _⟩ := V1.dct; ⟨_, e⟩
    have xl : ∃ u, H1 l = some u := ⟨_, V1.lst.1⟩
    have xa : ∀ a ∈ as, ∃ u, H1 a = some u := fun a ha => (V1.rowL ha).elim fun xs e => ⟨_, e⟩
    refine LcW2.it (walk_list (xs := ys0)) (fun i H' => Kp [v, d] H1 H' ∧ VerS H' cV v d l as c kn D ∧ ∃ ys, H' E = some (.lst ys) ∧ VdsAt H' ((allP (rs.take i)).map (VV c)) ys) ⟨(Kp.new hE).of0, V1.kp0 (Kp.new hE), [], upd_same, .nil⟩ (fun i H' _ z => SqL.of (z.1.k _ _ (V1.nl _ _ eR) eR)) ?_ ?_
    · rintro i x H2 H3 hi ⟨k2, V2, ys, e2, p2⟩ ⟨rfl, hx⟩
      obtain ⟨⟨e, ps⟩, er, t, lpp, rfl, et, prs⟩ := pgetR pd1 hx
      have mr := List.mem_of_getElem? er
      obtain ⟨ts, el, pts⟩ := id prs
      have lts := plen pts
      have el3 := k2.k _ _ (V1.nl _ _ el) el
      refine ⟨t, _, rfl, SqT.of (k2.t _ _ et), rfl, i_gcons (i_name (i_gcons (i_name (i_gnil ⟨rfl, i_yes (i_itt (i_iList (i_var rfl ⟨lpp, rfl, ⟨_, SqL.of el3⟩, ?_⟩)))⟩))))⟩
      have pre : (allP (rs.take i)).length ≤ 4000 := by
        have := allP_len (rs.take i) fun e ps h => h4 e ps (tk i e ps h)
        rw [List.length_take] at this
        omega
      refine InW.it (walk_list (xs := ts.map V.ref)) (fun j H' => Kp [v, d] H1 H' ∧ VerS H' cV v d l as c kn D ∧ ∃ ys, H' E = some (.lst ys) ∧ VdsAt H' ((allP (rs.take i) ++ ps.take j).map (VV c)) ys) ⟨k2, V2, ys, e2, by rw [List.take_zero, List.append_nil]; exact p2⟩ (fun j H' _ z => SqL.of (z.1.k _ _ (V1.nl _ _ el) el)) ?_ ?_
      · rintro j x H4 H5 hj ⟨k4, V4, ys4, e4, p4⟩ ⟨rfl, hx⟩
        rw [List.getElem?_map] at hx
        obtain ⟨tq, etq, rfl⟩ := Option.map_eq_some_iff.mp hx
        obtain ⟨q1, eq1, hq1⟩ := pgetR pts etq
        have hO4 := k4.k _ _ (by simp [nov, nod]) hO1
        obtain ⟨dv4, ev4⟩ := V4.ins
        obtain ⟨kv4, ed4, _⟩ := V4.dct
        have nEv : E ≠ v := fun z => by rw [z, ev4] at e4; cases e4
        have nEd : E ≠ d := fun z => by rw [z, ed4] at e4; cases e4
        refine i_name ⟨wipe_one (by decide), i_yes (i_itt (of_turn hO4 (of_ver _ _ _ _ _ _ _) T.clO T.nO_verdicts rfl rfl V4 hM hL (PrAt.kp hq1 k4) (hk e ps mr q1 (List.mem_of_getElem? eq1)) fun H6 t6 k6 V6 e6 => ?_))⟩
        have e7 := k6.k _ _ (by simp [nEv, nEd]) e4
        have k7 : Kp [E] H6 (upd H6 E (.lst (ys4 ++ [.ref t6]))) := Kp.wr (List.mem_singleton.mpr rfl) e7 (fun _ z => nomatch z)
        have l4 := h4 e ps mr
        have lx : ys4.length < sizeLine := by
          rw [← plen p4, List.length_map, List.length_append, List.length_take]
          exact Nat.lt_of_le_of_lt (show _ ≤ 4004 by omega) (by decide)
        refine ⟨ys4, e7, lx, (k4.trans k6).via k7 fun b hb => .inr (List.mem_singleton.mp hb ▸ hE), V6.new1 k7 hE xv xd xl xa, _, upd_same, ?_⟩
        rw [take_snoc eq1, ← List.append_assoc, List.map_append]
        exact psnoc ((VdsAt.kp p4 k6).kp k7) ⟨t6, rfl, k7.t _ _ e6⟩
      · rintro H4 ⟨k4, V4, ys4, e4, p4⟩
        rw [List.length_map, ← lts, List.take_length] at p4
        refine ⟨k4, V4, ys4, e4, ?_⟩
        rw [take_snoc er, allP_snoc]
        exact p4
    · rintro H2 ⟨k2, V2, ys, e2, p2⟩
      rw [← lpd, List.take_length] at p2
      have finq : ∀ q ∈ allP rs, ¬ (VV c q).w = .en := fun q1 hq1 => by
        obtain ⟨⟨e, ps⟩, hr, hq⟩ := List.mem_flatMap.mp hq1
        exact fin_w (hfin e ps hr q1 hq)
      have finw : ∀ u ∈ (allP rs).map (VV c), ¬ u.w = .en := fun u hu => by
        obtain ⟨q1, hq1, rfl⟩ := List.mem_map.mp hu
        exact finq q1 hq1
      have lal : ((allP rs).map (VV c)).length < sizeLine := by
        rw [List.length_map]
        exact Nat.lt_of_le_of_lt (show _ ≤ 4000 by omega) (by decide)
      walk_at "go"
      refine ⟨⟨_, SqL.of e2⟩, fun E1 hE1 => ?_⟩
      refine lc_part (·.d) e2 p2 finw lal hE1 (by decide) (by show 12 < 14; decide) (.inr ⟨rfl, rfl, by decide⟩) fun H3 k3 e3 => ?_
      walk_at "go"
      refine maxD_res finq e3 ?_
      walk_at "go"
      refine ⟨_, _, rfl, ?_⟩
      have em : (if ((room : Nat) : Int) - ((maxD c (allP rs) : Nat) : Int) > 0 then ((room : Nat) : Int) - ((maxD c (allP rs) : Nat) : Int) else 0) = ((room - maxD c (allP rs) : Nat) : Int) := by
        by_cases z : room > maxD c (allP rs)
        · rw [if_pos (by omega)]; omega
        · rw [if_neg (by omega)]; omega
      rw [em]
      generalize hdl : room - maxD c (allP rs) = dl at q
      have hdl2 : dl ≤ 10 ^ 30 := by omega
      walk_at "go"
      have eR3 : H3 R = some (.lst ys0) := k3.at0 (k2.k _ _ (V1.nl _ _ eR) eR)
      refine ⟨R, _, rfl, .inl (SqL.of eR3), ?_⟩
      rw [← lpd]
      refine i_rI (C := CDiv) ⟨by omega, by omega⟩ ?_
      have ed : ((dl : Nat) : Int) / ((rs.length : Nat) : Int) = ((dl / rs.length : Nat) : Int) := rfl
      rw [ed]
      have hj : dl / rs.length ≤ 10 ^ 30 := Nat.le_trans (Nat.div_le_self _ _) hdl2
      have hjl : dl / rs.length * rs.length ≤ room := Nat.le_trans (Nat.div_mul_le_self _ _) (by omega)
      generalize dl / rs.length = jj at q hj hjl
      walk_at "go"
      refine ⟨R, _, rfl, .inl (SqL.of eR3), ?_⟩
      rw [← lpd]
      walk_at "go"
      have e2' := k3.at0 e2
      refine ⟨⟨_, SqL.of e2'⟩, fun E2 hE2 => ?_⟩
      refine lc_part (·.s) e2' (p2.kp k3) finw lal hE2 (by decide) (by show 7 < 14; decide) (.inl ⟨rfl, rfl, by decide, by decide⟩) fun H4 k4 e4 => ?_
      walk_at "go"
      refine ⟨E2, _, rfl, SqL.of e4, ?_⟩
      rw [sumS_vd finq]
      have hme : meS c rs = rs.length + sumS c (allP rs) := meS_all rs h1'
      have hsb : sumS c (allP rs) ≤ 4000 * bigB := Nat.le_trans (sumS_le (B := bigB) (allP rs) fun q1 hq1 v hv => by
        obtain ⟨⟨e, ps⟩, hr, hq⟩ := List.mem_flatMap.mp hq1
        exact (hM.sB hL (hk e ps hr q1 hq) hv).1) (Nat.mul_le_mul_right _ (by omega))
      have hbig := bigB_lt
      walk_at "go"
      have ec1 : ((rs.length : Nat) : Int) + ((sumS c (allP rs) : Nat) : Int) = ((meS c rs : Nat) : Int) := by rw [hme]; rfl
      rw [ec1]
      refine i_rI (wide_mul (a := 100) (b := 1400) (by have : 10 ^ 30 < 2 ^ 100 := by decide
                                                       omega) (by have : 1000 + 4000 * bigB < 2 ^ 1400 := by decide +kernel
                                                                  omega) (by decide) (by decide) (by decide)) ?_
      walk_at "go"
      refine ⟨R, _, rfl, .inl (SqL.of (k4.at0 eR3)), ?_⟩
      rw [← lpd]
      walk_at "go"
      refine i_rI (wide_mul (a := 100) (b := 100) (by have : 10 ^ 30 < 2 ^ 100 := by decide
                                                      omega) (by have : 1000 < 2 ^ 100 := by decide
                                                                 omega) (by decide) (by decide) (by decide)) ?_
      walk_at "go"
      refine ⟨by show 2 ≤ sizeLine; decide, fun b hb => ?_⟩
      have k5 : Kp [] H4 (upd H4 b (.tup [.int (((st : Nat) : Int) + ((jj : Nat) : Int) * ((meS c rs : Nat) : Int)), .int (((room : Nat) : Int) - ((jj : Nat) : Int) * ((rs.length : Nat) : Int))])) := Kp.new hb
      refine q _ b ((((kR.of0.trans k2).trans k3.of0).trans k4.of0).trans k5.of0) (((V2.kp0 k3).kp0 k4).kp0 k5) ?_
      have g1 : ((st : Nat) : Int) + ((jj : Nat) : Int) * ((meS c rs : Nat) : Int) = ((st + jj * meS c rs : Nat) : Int) := by rw [Int.natCast_add, Int.natCast_mul]
      have g2 : ((room : Nat) : Int) - ((jj : Nat) : Int) * ((rs.length : Nat) : Int) = ((room - jj * rs.length : Nat) : Int) := by rw [← Int.natCast_mul]; omega
      rw [upd_same, g1, g2]
end
end Rk
set_option Elab.async false
set_option linter.all false
set_option maxRecDepth 100000
set_option maxHeartbeats 1000000
/-! at a limit -/
namespace Rk
open PySem PySem.Spec PyProof.Rows L2
local macro_rules | `(tactic| walk_at "go") => `(tactic| ((try dsimp only); repeat (first
  | with_reducible apply i_seq
  | ((with_reducible apply i_var); exact rfl)
  | with_reducible apply i_c
  | with_reducible apply i_cons
  | with_reducible apply i_nil
  | with_reducible apply i_call
  | with_reducible apply i_cb
  | with_reducible apply i_meth
  | with_reducible apply i_fld
  | with_reducible apply i_op
  | with_reducible apply i_rI0
  | with_reducible apply i_eqI
  | with_reducible apply i_neI
  | with_reducible apply i_eqS
  | with_reducible apply i_neS
  | with_reducible apply i_if
  | with_reducible apply i_test
  | with_reducible apply i_b
  | with_reducible apply i_bl
  | with_reducible apply i_int
  | with_reducible apply i_and
  | with_reducible apply i_or
  | with_reducible apply i_not
  | with_reducible apply i_andV
  | with_reducible apply i_orV
  | with_reducible apply i_notV
  | with_reducible apply i_ifE
  | with_reducible apply i_itt
  | with_reducible apply i_itf
  | with_reducible apply i_nt
  | with_reducible apply i_nf
  | with_reducible apply i_asg
  | with_reducible apply i_name
  | with_reducible apply i_ret
  | with_reducible apply i_retN
  | with_reducible apply i_drop
  | with_reducible apply i_next
  | with_reducible apply i_break
  | with_reducible apply i_un
  | with_reducible apply i_rU
  | with_reducible apply i_tup
  | with_reducible apply i_lst
  | with_reducible apply i_par
  | with_reducible apply i_chain
  | with_reducible apply i_gcons
  | with_reducible apply i_gnil
  | with_reducible apply i_prop
  | with_reducible apply i_make
  | ((with_reducible apply i_aug); exact rfl)
  | with_reducible apply i_ipI
  | with_reducible apply i_sl
  | with_reducible apply i_noPart
  | with_reducible apply i_part
  | with_reducible apply i_bm
  | with_reducible apply i_bm0
  | with_reducible apply i_lc
  | with_reducible apply i_for
  | with_reducible apply i_iStr
  | with_reducible apply i_iList
  | with_reducible apply i_iTup
  | with_reducible apply i_rng1
  | with_reducible apply i_rng2
  | with_reducible apply i_yes
  | with_reducible apply i_refE
  | with_reducible apply i_strE
  | with_reducible apply i_sfld
  | with_reducible apply i_dput
  | with_reducible apply i_dget
  | with_reducible apply i_din
  | with_reducible apply i_dnotin
  | with_reducible apply i_dnew
  | with_reducible apply i_augS
  | with_reducible apply i_gsub
  | with_reducible apply i_asg2
  | with_reducible apply i_disp1
  | with_reducible apply i_ar
  | with_reducible apply i_sfldaug
  | with_reducible apply i_gfld
  | with_reducible apply i_ckw
  | with_reducible apply i_rAdd
  | with_reducible apply i_par3)))
abbrev N_Outcome_at : List Str := ["self", "limit", "room", "steps", "spot", "enters", "pairs", "pair", "word", "cost", "depth", "place"]
theorem sc_Outcome_at : FnScope N_Outcome_at ["self", "limit"] (defScope s_Outcome_at) := ⟨rfl, rfl, rfl, by decide +kernel, rfl, by decide +kernel, by decide +kernel⟩
def spAt (cV cO : Addr) : Sp := fun vs H Q _ => ∃ (o v d l : Addr) (as : List Addr) (c : Ctn) (kn : List Pr) (D : Nat) (rows : List Rw) (wd : Str) (loop : Option Nat) (L : Nat), vs = [.ref o, .int L] ∧ OutAt cV cO H o v d l as c kn D rows wd loop ∧ 1 ≤ L ∧ L ≤ 10 ^ 30 ∧
  ∀ H' t wd' s', Kp [v, d] H H' → VerS H' cV v d l as c kn D → H' t = some (.tup [.str wd', .int ((s' : Nat) : Int)]) → At c wd rows loop 0 L (wd', s') → Q (.ref t) H'
/-- what is left to be told of a limit -/
def Left (c : Ctn) (wd : Str) (rows : List Rw) (loop : Option Nat) (L spot room st : Nat) : Prop := ∀ x : Str × Nat, At c wd rows loop spot room x → At c wd rows loop 0 L (x.1, st + x.2)
theorem Left.round {c : Ctn} {kn : List Pr} {wd : Str} {rows : List Rw} {L n room st : Nat} (h : Left c wd rows (some n) L n room st) (ok : CrsOk c kn rows (some n)) :
    Left c wd rows (some n) L n (room - (room - maxD c (allP (rows.drop n))) / (rows.drop n).length * (rows.drop n).length) (st + (room - maxD c (allP (rows.drop n))) / (rows.drop n).length * meS c (rows.drop n)) := by
  obtain ⟨hn, h1, hf⟩ := ok.lp n rfl
  intro x hx
  by_cases hr : maxD c (allP (rows.drop n)) ≤ room
  · have z := At.rounds (D := maxD c (allP (rows.drop n))) hn h1 (fun e ps hm q hq => by
      obtain ⟨v, hv⟩ := hf e ps hm q hq
      exact ⟨v, hv, maxD_mem hv (List.mem_flatMap.mpr ⟨(e, ps), hm, hq⟩)⟩) ((room - maxD c (allP (rows.drop n))) / (rows.drop n).length) room (by
      have := Nat.div_mul_le_self (room - maxD c (allP (rows.drop n))) (rows.drop n).length
      omega) hx
    have y := h _ z
    rw [show st + ((room - maxD c (allP (rows.drop n))) / (rows.drop n).length * meS c (rows.drop n)) + x.2 = st + ((room - maxD c (allP (rows.drop n))) / (rows.drop n).length * meS c (rows.drop n) + x.2) by omega]
    exact y
  · have e0 : room - maxD c (allP (rows.drop n)) = 0 := by omega
    simp only [e0, Nat.zero_div, Nat.zero_mul, Nat.sub_zero, Nat.add_zero] at hx ⊢
    exact h x hx
theorem OutAt.kp {cV cO o v d l : Addr} {as : List Addr} {c : Ctn} {kn : List Pr} {D : Nat} {rows : List Rw} {wd : Str} {loop : Option Nat} {H H' : Hp} (h : OutAt cV cO H o v d l as c kn D rows wd loop) (k : Kp [v, d] H H') (V' : VerS H' cV v d l as c kn D) : OutAt cV cO H' o v d l as c kn D rows wd loop := by
  obtain ⟨dx, cr, st, dp, hO, hC, hw⟩ := h.ex
  obtain ⟨dv, ev⟩ := h.hV.ins
  obtain ⟨kvs, ed, _⟩ := h.hV.dct
  have nov := out_ne hO ev
  have nod : o ≠ d := ne_of hO ed (fun z => nomatch z)
  exact ⟨⟨dx, cr, st, dp, k.k _ _ (by simp [nov, nod]) hO, hC.kp k h.hV.nl, hw⟩, V', h.hM, h.hL, h.ok⟩
theorem at_mu {a b e len spot sp2 : Nat} (h1 : e ≤ b) (h2 : b ≤ a) (h3 : spot < len) (h : (1 ≤ e) ∨ sp2 = spot + 1) : (b - e) * (len + 1) + (len - sp2) < a * (len + 1) + (len - spot) := by
  rcases h with h | h
  · have z : (b - e) * (len + 1) + (len + 1) ≤ a * (len + 1) := by
      rw [← Nat.succ_mul]
      exact Nat.mul_le_mul_right _ (by omega)
    omega
  · have z : (b - e) * (len + 1) ≤ a * (len + 1) := Nat.mul_le_mul_right _ (by omega)
    omega
section
variable {P : Program} {w : World} {K : PySem.W.Frag} {mg : Str → Option Value} {base : Heap} {cV cO cH : Addr}
theorem ok_Outcome_at (T : Txt K mg cV cO cH) : Mt0 P w K mg base 7 cO "at" ["self", "limit"] (spAt cV cO) := by
  have h_is_within := ok_is_within (P := P) (w := w) (base := base) T
  have h_go_round := ok_Outcome_go_round (P := P) (w := w) (base := base) T
  have h_of_pair := ok_Verdicts_of_pair (P := P) (w := w) (base := base) T
  have h_steps_until_deep := ok_steps_until_deep (P := P) (w := w) (base := base) T
  refine T.d_Outcome_at.ok sc_Outcome_at (fun vs H Q E h => ?_) (fun _ _ _ _ _ _ us hl => match us, hl with | [_, _], _ => rfl) (fun f cdv A outer s H vs Q E hr h => ?_)
  · obtain ⟨_, _, _, _, _, _, _, _, _, _, _, _, rfl, _⟩ := h
    rfl
  · have hu := hu_of hr
    obtain ⟨o, v, d, l, as, c, kn, D, rows, wd, loop, L, rfl, hOA, hL1, hL2, q⟩ := h
    obtain ⟨dx, cr, st0, dp0, hO, ⟨xs, ec, pc⟩, hw⟩ := hOA.ex
    have hV := hOA.hV
    have hM := hOA.hM
    have hL := hOA.hL
    have ok := hOA.ok
    obtain ⟨dv, ev⟩ := hV.ins
    obtain ⟨kvs, ed, _⟩ := hV.dct
    have nov := out_ne hO ev
    have nod : o ≠ d := ne_of hO ed (fun z => nomatch z)
    have lxs := plen pc
    refine ⟨_, (pss_cons (ps_if (pt_not (pt_val (pe_fn h_is_within hr (by decide) rfl (pa_cons (pv 1) (pa_cons pe_int (pa_cons (pe_gi T.g_MOST_LIMIT) pa_nil))))))
      (pss_one (ps_never))
      pss_nil)
    (pss_cons (ps_if (PW.pt (pw_and (pt_cmpR op_ne (pe_fld (pv 0) rfl) (pe_gs T.g_ENDLESS) (nomark _)) (pw_and1 (pt_cmpR op_le (pe_fld (pv 0) rfl) (pv 1) (nomark _)))))
      (pss_one (ps_ret (pe_tup (pa_cons (pe_fld (pv 0) rfl) (pa_cons (pe_fld (pv 0) rfl) pa_nil)))))
      pss_nil)
    (pss_cons (ps_par3 (i := 2) (j := 3) (l := 4) rfl sc_Outcome_at.nd rfl rfl rfl (by decide) (by decide) (by decide) rfl rfl rfl (pa_cons (pv 1) (pa_cons pe_int (pa_cons pe_int pa_nil))) (by rfl))
    (pss_cons (ps_while PassesOwn.never (pt_cmpR op_lt (pv 4) (pe_bf call_len_seq T.f_len (pa_cons (pe_fld (pv 0) rfl) pa_nil)) (nomark _))
      (pss_cons (ps_if (pt_cmpR op_eq (pv 4) (pe_fld (pv 0) rfl) (nomark _))
        (pss_one (ps_asg (pe_mtd (pv 0) T.clO h_go_round hr (by decide) (pa_cons (pv 3) (pa_cons (pv 2) pa_nil))) (pg_tup rfl (pgs_cons (pg_name (i := 3) sc_Outcome_at.nd rfl (by first | exact Or.inl rfl | exact Or.inr rfl)) (pgs_cons (pg_name (i := 2) sc_Outcome_at.nd rfl (by first | exact Or.inl rfl | exact Or.inr rfl)) pgs_nil)))))
        pss_nil)
      (pss_cons (ps_asg (pe_ix ix_list (pe_fld (pv 0) rfl) (pv 4) (fun _ _ => rfl)) (pg_tup rfl (pgs_cons (pg_name (i := 5) sc_Outcome_at.nd rfl (by first | exact Or.inl rfl | exact Or.inr rfl)) (pgs_cons (pg_name (i := 6) sc_Outcome_at.nd rfl (by first | exact Or.inl rfl | exact Or.inr rfl)) pgs_nil))))
      (pss_cons (ps_if (pt_cmpR op_gt (pv 5) (pv 2) (nomark _))
        (pss_one (ps_ret (pe_tup (pa_cons (pe_gs T.g_TOO_DEEP) (pa_cons (pv 3) pa_nil)))))
        pss_nil)
      (pss_cons (ps_par (i := 3) (j := 2) rfl sc_Outcome_at.nd rfl rfl (by decide) rfl rfl (pa_cons (pe_op op_add (pv 3) (pv 5)) (pa_cons (pe_op op_sub (pv 2) (pv 5)) pa_nil)) (by rfl))
      (pss_cons (ps_for PassesOwn.never rfl (pi_list (pv 6)) (pg_name (i := 7) sc_Outcome_at.nd rfl (by first | exact Or.inl rfl | exact Or.inr rfl))
        (pss_cons (ps_asg (pe_mtd (pe_fld (pv 0) rfl) T.clV h_of_pair hr (by decide) (pa_cons (pv 7) pa_nil)) (pg_tup rfl (pgs_cons (pg_name (i := 8) sc_Outcome_at.nd rfl (by first | exact Or.inl rfl | exact Or.inr rfl)) (pgs_cons (pg_name (i := 9) sc_Outcome_at.nd rfl (by first | exact Or.inl rfl | exact Or.inr rfl)) (pgs_cons (pg_name (i := 10) sc_Outcome_at.nd rfl (by first | exact Or.inl rfl | exact Or.inr rfl)) (pgs_cons (pg_name (i := 11) sc_Outcome_at.nd rfl (by first | exact Or.inl rfl | exact Or.inr rfl)) pgs_nil))))))
        (pss_cons (ps_if (PW.pt (pw_or (pt_cmpR op_eq (pv 8) (pe_gs T.g_ENDLESS) (nomark _)) (pw_or1 (pt_cmpR op_gt (pv 10) (pv 2) (nomark _)))))
          (pss_one (ps_ret (pe_tup (pa_cons (pe_gs T.g_TOO_DEEP) (pa_cons (pe_op op_add (pv 3) (pe_fn h_steps_until_deep hr (by decide) rfl (pa_cons (pe_fld (pv 0) rfl) (pa_cons (pv 7) (pa_cons (pv 2) pa_nil))))) pa_nil)))))
          pss_nil)
        (pss_one (ps_aug (i := 3) sc_Outcome_at.nd rfl (by first | exact Or.inl rfl | exact Or.inr rfl) (pv 9) ip_add)))))
      (pss_cons (ps_aug (i := 4) sc_Outcome_at.nd rfl (by first | exact Or.inl rfl | exact Or.inr rfl) pe_int ip_add)
      (pss_one (ps_if (PW.pt (pw_and (pt_cmpR op_eq (pv 4) (pe_bf call_len_seq T.f_len (pa_cons (pe_fld (pv 0) rfl) pa_nil)) (nomark _)) (pw_and1 (pt_cmpR op_notN (pe_fld (pv 0) rfl) pe_non (nomark _)))))
        (pss_one (ps_set (i := 4) sc_Outcome_at.nd rfl (by first | exact Or.inl rfl | exact Or.inr rfl) (pe_fld (pv 0) rfl)))
        pss_nil)))))))))
    (pss_one (ps_ret (pe_tup (pa_cons (pe_fld (pv 0) rfl) (pa_cons (pv 3) pa_nil))))))))), ?_⟩
    refine i_cut (fun σ' H' => H' = H ∧ σ' = [some (.ref o), some (.int (L : Nat)), none, none, none, none, none, none, none, none, none, none]) ?_ ?_
    · rintro σ' H' ⟨rfl, rfl⟩
      refine i_cut (fun σ' H1 => H1 = H' ∧ σ' = [some (.ref o), some (.int (L : Nat)), none, none, none, none, none, none, none, none, none, none]) ?_ ?_
      · rintro σ' H1 ⟨rfl, rfl⟩
        walk_at "go"
        refine ⟨_, _, _, rfl, ?_⟩
        walk_at "go"
        refine i_while (fun m σ H' => ∃ room st spot z5 z6 z7 z8 z9 z10 z11, m = room * (rows.length + 1) + (rows.length - spot) ∧ σ = [some (.ref o), some (.int (L : Nat)), some (.int (room : Nat)), some (.int (st : Nat)), some (.int (spot : Nat)), z5, z6, z7, z8, z9, z10, z11] ∧ Kp [v, d] H1 H' ∧ VerS H' cV v d l as c kn D ∧
          room ≤ L ∧ Left c wd rows loop L spot room st) _ ⟨L, 0, 0, _, _, _, _, _, _, _, rfl, rfl, Kp.refl _ _, hV, Nat.le_refl _, fun x hx => by rw [Nat.zero_add]; exact hx⟩ ?_
        rintro m σ H2 ⟨room, st, spot, z5, z6, z7, z8, z9, z10, z11, rfl, rfl, k2, V2, hr2, left⟩
        have hO2 := k2.k _ _ (by simp [nov, nod]) hO
        have ec2 := k2.k _ _ (hV.nl _ _ ec) ec
        walk_at "go"
        refine ⟨_, _, _, _, _, rfl, hO2, T.clO, T.nO_course, of_crs _ _ _ _ _ _ _, ?_⟩
        walk_at "go"
        refine ⟨_, _, rfl, .inl (SqL.of ec2), ?_⟩
        rw [← lxs]
        walk_at "go"
        by_cases hsp : spot < rows.length
        · refine iteT (decide_eq_true (by omega)) (WhB.go ?_)
          refine i_cut (fun σ' H' => ∃ room1 st1 z5 z6 z7 z8 z9 z10 z11, σ' = [some (.ref o), some (.int (L : Nat)), some (.int (room1 : Nat)), some (.int (st1 : Nat)), some (.int (spot : Nat)), z5, z6, z7, z8, z9, z10, z11] ∧ Kp [v, d] H1 H' ∧ VerS H' cV v d l as c kn D ∧
            room1 ≤ room ∧ Left c wd rows loop L spot room1 st1) ?_ ?_
          · rintro σ' H3 ⟨room1, st1, y5, y6, y7, y8, y9, y10, y11, rfl, k3, V3, hr3, left3⟩
            have hO3 := k3.k _ _ (by simp [nov, nod]) hO
            have ec3 := k3.k _ _ (hV.nl _ _ ec) ec
            have er : rows[spot]? = some rows[spot] := List.getElem?_eq_getElem hsp
            obtain ⟨x, ex, t, lpp, rfl, et, prs⟩ := pgetL pc er
            have mr := List.mem_of_getElem? er
            revert er et prs mr
            generalize rows[spot] = r
            obtain ⟨e, ps⟩ := r
            intro er et prs mr
            obtain ⟨ts, el, pts⟩ := id prs
            have lts := plen pts
            walk_at "go"
            refine ⟨_, _, _, _, _, rfl, hO3, T.clO, T.nO_course, of_crs _ _ _ _ _ _ _, ?_⟩
            walk_at "go"
            refine i_ixL ec3 (atI_nat ex) ?_
            refine ⟨t, _, rfl, SqT.of (k3.t _ _ et), rfl, ?_⟩
            walk_at "go"
            by_cases he : room1 < e
            · refine iteT (decide_eq_true (by omega)) ?_
              walk_at "go"
              refine ⟨by show 2 ≤ sizeLine; decide, fun b hb => ?_⟩
              exact q _ b tooDeep st1 (k3.trans (Kp.new hb).of0) (V3.kp0 (Kp.new hb)) upd_same (left3 (tooDeep, 0) (.deep er he))
            · refine iteF (decide_eq_false (by omega)) ?_
              walk_at "go"
              refine ⟨_, _, rfl, ?_⟩
              have ee : ((room1 : Nat) : Int) - ((e : Nat) : Int) = ((room1 - e : Nat) : Int) := by omega
              have es : ((st1 : Nat) : Int) + ((e : Nat) : Int) = ((st1 + e : Nat) : Int) := rfl
              rw [ee, es]
              have el3 := k3.k _ _ (hV.nl _ _ el) el
              walk_at "go"
              refine ⟨⟨_, SqL.of el3⟩, ?_⟩
              refine ForW.it (walk_list (xs := ts.map V.ref)) (fun i σ H' => ∃ si y7 y8 y9 y10 y11, σ = [some (.ref o), some (.int (L : Nat)), some (.int ((room1 - e : Nat) : Int)), some (.int (si : Nat)), some (.int (spot : Nat)), some (.int (e : Nat)), some (.ref lpp), y7, y8, y9, y10, y11] ∧ Kp [v, d] H1 H' ∧ VerS H' cV v d l as c kn D ∧
                st1 + e + (brk (Vc c) (room1 - e) ps).1 = si + (brk (Vc c) (room1 - e) (ps.drop i)).1 ∧ (brk (Vc c) (room1 - e) ps).2 = (brk (Vc c) (room1 - e) (ps.drop i)).2)
                ⟨st1 + e, _, _, _, _, _, rfl, k3, V3, rfl, rfl⟩ (fun i σ H' _ z => ?_) ?_ ?_
              · obtain ⟨_, _, _, _, _, _, _, z, _⟩ := z
                exact SqL.of (z.k _ _ (hV.nl _ _ el) el)
              · rintro i x σ H4 H5 hi ⟨si, x7, x8, x9, x10, x11, rfl, k4, V4, b1, b2⟩ ⟨rfl, hx⟩
                rw [List.getElem?_map] at hx
                obtain ⟨tq, etq, rfl⟩ := Option.map_eq_some_iff.mp hx
                obtain ⟨q1, eq1, hq1⟩ := pgetR pts etq
                have iq : q1 ∈ kn := ok.hk e ps mr q1 (List.mem_of_getElem? eq1)
                have ed1 := drop_at eq1
                have hq4 := PrAt.kp hq1 k4
                have hO4 := k4.k _ _ (by simp [nov, nod]) hO
                obtain ⟨dx4, ev4⟩ := V4.ins
                walk_at "go"
                refine ⟨_, _, _, _, _, rfl, hO4, T.clO, T.nO_verdicts, of_ver _ _ _ _ _ _ _, ?_⟩
                refine ⟨_, _, _, rfl, ev4, rfl, ?_⟩
                walk_at "go"
                refine ⟨v, d, l, tq, as, c, kn, D, q1, rfl, V4, hM, hL, hq4, hM.rg q1 iq, fun H6 t6 kn' D' k6 V6 _ _ _ same e6 => ?_⟩
                obtain ⟨rfl, rfl⟩ := same iq
                have K6 := k4.trans k6
                have hO6 := K6.k _ _ (by simp [nov, nod]) hO
                have fin : ∀ a, (brk (Vc c) (room1 - e) ps) = (a, some q1) → st1 + e + a = si → ∀ H7, Kp [v, d] H6 H7 → VerS H7 cV v d l as c kn' D' → ∀ p, H7 p = none → Q (.ref p) (upd H7 p (.tup [.str tooDeep, .int (((si : Nat) : Int) + ((Rk.T c (room1 - e) q1 : Nat) : Int))])) := by
                  intro a ha hsi H7 k7 V7 p hp
                  refine q _ p tooDeep (st1 + (e + a + Rk.T c (room1 - e) q1)) ((K6.trans k7).trans (Kp.new hp).of0) (V7.kp0 (Kp.new hp)) ?_ (left3 _ (.stop er (by omega) ha))
                  rw [upd_same]
                  have ei : ((si : Nat) : Int) + ((Rk.T c (room1 - e) q1 : Nat) : Int) = ((st1 + (e + a + Rk.T c (room1 - e) q1) : Nat) : Int) := by omega
                  rw [← ei]
                walk_at "go"
                by_cases hw : (VV c q1).w = .en
                · obtain ⟨g4, g5⟩ := vdL_en hw
                  have vn : Vc c q1 = none := by rw [V_fix, g5]
                  have bn : brk (Vc c) (room1 - e) (ps.drop i) = (0, some q1) := by rw [ed1]; exact brk_en vn
                  rw [bn] at b1 b2
                  rw [g4] at e6
                  refine ⟨t6, _, rfl, SqT.of e6, rfl, ?_⟩
                  walk_at "go"
                  refine iteT (by decide +kernel) ?_
                  walk_at "go"
                  refine ⟨_, _, _, _, _, rfl, hO6, T.clO, T.nO_verdicts, of_ver _ _ _ _ _ _ _, ?_⟩
                  walk_at "go"
                  refine ⟨v, d, l, tq, as, c, kn', D', q1, room1 - e, rfl, V6, hM, hL, hq4.kp k6, iq, by omega, fun H7 k7 V7 => ?_⟩
                  walk_at "go"
                  exact ⟨by show 2 ≤ sizeLine; decide, fun p hp => fin _ (Prod.ext rfl b2) b1 H7 k7 V7 p hp⟩
                · obtain ⟨g4, g5, g6, g7⟩ := vdL_fi hw
                  have vn : Vc c q1 = some ⟨decide ((VV c q1).w = .un), (VV c q1).s, (VV c q1).d⟩ := by rw [V_fix, g5]
                  rw [g4] at e6
                  refine ⟨t6, _, rfl, SqT.of e6, rfl, ?_⟩
                  walk_at "go"
                  refine iteF g6 ?_
                  walk_at "go"
                  by_cases hd : room1 - e < (VV c q1).d
                  · have bn : brk (Vc c) (room1 - e) (ps.drop i) = (0, some q1) := by rw [ed1]; exact brk_hi vn hd
                    rw [bn] at b1 b2
                    refine iteT (decide_eq_true (by omega)) ?_
                    walk_at "go"
                    refine ⟨_, _, _, _, _, rfl, hO6, T.clO, T.nO_verdicts, of_ver _ _ _ _ _ _ _, ?_⟩
                    walk_at "go"
                    refine ⟨v, d, l, tq, as, c, kn', D', q1, room1 - e, rfl, V6, hM, hL, hq4.kp k6, iq, by omega, fun H7 k7 V7 => ?_⟩
                    walk_at "go"
                    exact ⟨by show 2 ≤ sizeLine; decide, fun p hp => fin _ (Prod.ext rfl b2) b1 H7 k7 V7 p hp⟩
                  · have bn : brk (Vc c) (room1 - e) (ps.drop i) = ((VV c q1).s + (brk (Vc c) (room1 - e) (ps.drop (i + 1))).1, (brk (Vc c) (room1 - e) (ps.drop (i + 1))).2) := by
                      rw [ed1]
                      exact brk_lo vn hd
                    rw [bn] at b1 b2
                    refine iteF (decide_eq_false (by omega)) ?_
                    walk_at "go"
                    exact ⟨si + (VV c q1).s, _, _, _, _, _, rfl, K6, V6, by rw [b1]; simp only; omega, b2⟩
              · rintro σ H4 ⟨si, x7, x8, x9, x10, x11, rfl, k4, V4, b1, b2⟩
                have hd : ps.drop (ts.map V.ref).length = [] := List.drop_eq_nil_of_le (by rw [List.length_map, lts]; exact Nat.le_refl _)
                rw [hd] at b1 b2
                have e1 : st1 + e + (brk (Vc c) (room1 - e) ps).1 = si := b1
                have e2 : (brk (Vc c) (room1 - e) ps).2 = none := b2
                have left4 : Left c wd rows loop L (if spot + 1 = rows.length ∧ loop.isSome = true then loop.getD 0 else spot + 1) (room1 - e) si := by
                  intro x hx
                  have z := left3 _ (.go er (by omega) (Prod.ext rfl e2) hx)
                  rw [show st1 + (e + (brk (Vc c) (room1 - e) ps).1 + x.2) = si + x.2 by omega] at z
                  exact z
                have hO4 := k4.k _ _ (by simp [nov, nod]) hO
                have ec4 := k4.k _ _ (hV.nl _ _ ec) ec
                walk_at "go"
                have esp : ((spot : Nat) : Int) + 1 = ((spot + 1 : Nat) : Int) := rfl
                rw [esp]
                refine ⟨_, _, _, _, _, rfl, hO4, T.clO, T.nO_course, of_crs _ _ _ _ _ _ _, ?_⟩
                walk_at "go"
                refine ⟨_, _, rfl, .inl (SqL.of ec4), ?_⟩
                rw [← lxs]
                walk_at "go"
                by_cases hend : spot + 1 = rows.length
                · refine iteT (decide_eq_true (by omega)) ?_
                  walk_at "go"
                  refine ⟨_, _, _, _, _, rfl, hO4, T.clO, T.nO_loop, of_lp _ _ _ _ _ _ _, ?_⟩
                  walk_at "go"
                  cases loop with
                  | none =>
                    refine iteF (by decide) ?_
                    walk_at "go"
                    rw [if_neg (by simp)] at left4
                    exact ⟨_, at_mu (by omega) hr3 hsp (.inr rfl), room1 - e, si, spot + 1, _, _, _, _, _, _, _, rfl, rfl, k4, V4, by omega, left4⟩
                  | some n =>
                    have e1' : e = 1 := (ok.lp n rfl).2.1 e ps mr
                    refine iteT (by show (!decide (V.int ((n : Nat) : Int) = V.non)) = true; rw [decide_eq_false (fun z => nomatch z)]; rfl) ?_
                    walk_at "go"
                    refine ⟨_, _, _, _, _, rfl, hO4, T.clO, T.nO_loop, of_lp _ _ _ _ _ _ _, ?_⟩
                    walk_at "go"
                    rw [if_pos ⟨hend, rfl⟩] at left4
                    exact ⟨_, at_mu (sp2 := n) (by omega) hr3 hsp (.inl (by omega)), room1 - e, si, n, _, _, _, _, _, _, _, rfl, rfl, k4, V4, by omega, left4⟩
                · refine iteF (decide_eq_false (by omega)) ?_
                  walk_at "go"
                  rw [if_neg (fun z => hend z.1)] at left4
                  exact ⟨_, at_mu (by omega) hr3 hsp (.inr rfl), room1 - e, si, spot + 1, _, _, _, _, _, _, _, rfl, rfl, k4, V4, by omega, left4⟩
          · intro NX hNX
            walk_at "go"
            refine ⟨_, _, _, _, _, rfl, hO2, T.clO, T.nO_loop, of_lp _ _ _ _ _ _ _, ?_⟩
            cases loop with
            | none =>
              refine ⟨rfl, ?_⟩
              walk_at "go"
              refine iteF (decide_eq_false (fun z => nomatch z)) ?_
              walk_at "go"
              exact hNX _ _ ⟨room, st, z5, z6, z7, z8, z9, z10, z11, rfl, k2, V2, Nat.le_refl _, left⟩
            | some n =>
              refine i_eqI ?_
              walk_at "go"
              by_cases hn : spot = n
              · subst hn
                refine iteT (decide_eq_true rfl) ?_
                walk_at "go"
                refine ⟨_, _, _, rfl, hO2, rfl, ?_⟩
                walk_at "go"
                refine ⟨o, v, d, l, as, c, kn, D, rows, wd, spot, st, room, rfl, hOA.kp k2 V2, by omega, fun H3 t k3 V3 e3 => ?_⟩
                walk_at "go"
                refine ⟨t, _, rfl, SqT.of e3, rfl, ?_⟩
                walk_at "go"
                exact hNX _ _ ⟨_, _, z5, z6, z7, z8, z9, z10, z11, rfl, k2.trans k3, V3, Nat.sub_le _ _, left.round ok⟩
              · refine iteF (decide_eq_false (by omega)) ?_
                walk_at "go"
                exact hNX _ _ ⟨room, st, z5, z6, z7, z8, z9, z10, z11, rfl, k2, V2, Nat.le_refl _, left⟩
        · refine iteF (decide_eq_false (by omega)) ?_
          walk_at "go"
          refine ⟨_, _, _, _, _, rfl, hO2, T.clO, T.nO_word, of_word _ _ _ _ _ _ _, ?_⟩
          walk_at "go"
          refine ⟨by show 2 ≤ sizeLine; decide, fun b hb => ?_⟩
          refine q _ b wd st (k2.trans (Kp.new hb).of0) (V2.kp0 (Kp.new hb)) upd_same ?_
          exact left (wd, 0) (.done (by omega))
      · intro NX hNX
        walk_at "go"
        refine ⟨_, _, _, _, _, rfl, hO, T.clO, T.nO_word, of_word _ _ _ _ _ _ _, ?_⟩
        walk_at "go"
        rcases hw with ⟨w1, w2, w3⟩ | ⟨w1, w2, w3, w4, w5⟩
        · refine iteF (by subst w1; decide +kernel) ?_
          walk_at "go"
          exact hNX _ _ ⟨rfl, rfl⟩
        · subst w4 w5
          refine iteT (by rw [Bool.not_eq_true', decide_eq_false_iff_not]; exact w1) ?_
          walk_at "go"
          refine ⟨_, _, _, _, _, rfl, hO, T.clO, T.nO_depth, of_dp _ _ _ _ _ _ _, ?_⟩
          walk_at "go"
          refine iteB (fun e => ?_) (fun e => ?_)
          · have hle : meD c 0 rows ≤ L := by have := of_decide_eq_true e; omega
            walk_at "go"
            refine ⟨_, _, _, _, _, rfl, hO, T.clO, T.nO_word, of_word _ _ _ _ _ _ _, ?_⟩
            walk_at "go"
            refine ⟨_, _, _, _, _, rfl, hO, T.clO, T.nO_steps, of_st _ _ _ _ _ _ _, ?_⟩
            walk_at "go"
            refine ⟨by show 2 ≤ sizeLine; decide, fun b hb => ?_⟩
            refine q _ b wd (meS c rows) (Kp.new hb).of0 (hV.kp0 (Kp.new hb)) upd_same ?_
            subst w3
            exact At.fits w2 rows 0 0 L rfl (by omega)
          · walk_at "go"
            exact hNX _ _ ⟨rfl, rfl⟩
    · intro NX hNX
      walk_at "go"
      refine ⟨_, _, _, rfl, ?_⟩
      walk_at "go"
      refine iteF (by rw [decide_eq_true (show (1 : Int) ≤ ((L : Nat) : Int) ∧ ((L : Nat) : Int) ≤ 10 ^ 30 by omega)]; rfl) ?_
      walk_at "go"
      exact hNX _ _ ⟨rfl, rfl⟩
end
end Rk
set_option Elab.async false
set_option linter.all false
set_option maxRecDepth 100000
set_option maxHeartbeats 1000000
/-! heaps -/
namespace Rk
open PySem PySem.Spec PyProof.Rows L2
local macro_rules | `(tactic| walk_at "go") => `(tactic| ((try dsimp only); repeat (first
  | with_reducible apply i_seq
  | ((with_reducible apply i_var); exact rfl)
  | with_reducible apply i_c
  | with_reducible apply i_cons
  | with_reducible apply i_nil
  | with_reducible apply i_call
  | with_reducible apply i_cb
  | with_reducible apply i_meth
  | with_reducible apply i_fld
  | with_reducible apply i_op
  | with_reducible apply i_rI0
  | with_reducible apply i_eqI
  | with_reducible apply i_neI
  | with_reducible apply i_eqS
  | with_reducible apply i_neS
  | with_reducible apply i_if
  | with_reducible apply i_test
  | with_reducible apply i_b
  | with_reducible apply i_bl
  | with_reducible apply i_int
  | with_reducible apply i_and
  | with_reducible apply i_or
  | with_reducible apply i_not
  | with_reducible apply i_andV
  | with_reducible apply i_orV
  | with_reducible apply i_notV
  | with_reducible apply i_ifE
  | with_reducible apply i_itt
  | with_reducible apply i_itf
  | with_reducible apply i_nt
  | with_reducible apply i_nf
  | with_reducible apply i_asg
  | with_reducible apply i_name
  | with_reducible apply i_ret
  | with_reducible apply i_retN
  | with_reducible apply i_drop
  | with_reducible apply i_next
  | with_reducible apply i_break
  | with_reducible apply i_un
  | with_reducible apply i_rU
  | with_reducible apply i_tup
  | with_reducible apply i_lst
  | with_reducible apply i_par
  | with_reducible apply i_chain
  | with_reducible apply i_gcons
  | with_reducible apply i_gnil
  | with_reducible apply i_prop
  | with_reducible apply i_make
  | ((with_reducible apply i_aug); exact rfl)
  | with_reducible apply i_ipI
  | with_reducible apply i_sl
  | with_reducible apply i_noPart
  | with_reducible apply i_part
  | with_reducible apply i_bm
  | with_reducible apply i_bm0
  | with_reducible apply i_lc
  | with_reducible apply i_for
  | with_reducible apply i_iStr
  | with_reducible apply i_iList
  | with_reducible apply i_iTup
  | with_reducible apply i_rng1
  | with_reducible apply i_rng2
  | with_reducible apply i_yes
  | with_reducible apply i_refE
  | with_reducible apply i_strE
  | with_reducible apply i_sfld
  | with_reducible apply i_dput
  | with_reducible apply i_dget
  | with_reducible apply i_din
  | with_reducible apply i_dnotin
  | with_reducible apply i_dnew
  | with_reducible apply i_augS
  | with_reducible apply i_gsub
  | with_reducible apply i_asg2
  | with_reducible apply i_disp1
  | with_reducible apply i_ar
  | with_reducible apply i_sfldaug
  | with_reducible apply i_gfld
  | with_reducible apply i_ckw
  | with_reducible apply i_rAdd
  | with_reducible apply i_par3)))
def hpF (l : Addr) : List (Str × V) := [("lists", .ref l)]
theorem hp_lists (l : Addr) : (hpF l).lookup ("lists" : Str) = some (.ref l) := rfl
/-- a Heap at h: its lists at l, the rows at as -/
structure HpS (H : Hp) (cH h l : Addr) (as : List Addr) (c : Ctn) : Prop where
  ins : ∃ dx, H h = some (.ins cH dx (hpF l))
  lst : LstsAt H l as c
  nd : as.Nodup
  nl : ¬ l ∈ as
theorem HpS.kp {S : List Addr} {H H' : Hp} {cH h l : Addr} {as : List Addr} {c : Ctn} (x : HpS H cH h l as c) (k : Kp S H H') (n1 : ¬ h ∈ S) (n2 : ¬ l ∈ S) (n3 : ∀ a ∈ as, ¬ a ∈ S) : HpS H' cH h l as c := by
  obtain ⟨⟨dx, e⟩, h2, h3, h4⟩ := x
  exact ⟨⟨dx, k.k _ _ n1 e⟩, h2.kp k n2 n3, h3, h4⟩
theorem HpS.kp0 {H H' : Hp} {cH h l : Addr} {as : List Addr} {c : Ctn} (x : HpS H cH h l as c) (k : Kp [] H H') : HpS H' cH h l as c := x.kp k (fun z => nomatch z) (fun z => nomatch z) fun _ _ z => nomatch z
def total (c : Ctn) : Nat := (c.map (·.length)).sum
theorem total_snoc (c : Ctn) (r : List It) : total (c ++ [r]) = total c + r.length := by
  unfold total
  rw [List.map_append, List.sum_append]
  simp
/-- [list(one) for one in rows] -/
theorem lc_copy {K : PySem.W.Frag} {J : L2.It} {G : Hp → Prop} {c : Ctn} {as0 : List Addr} {σ : L2.St} {H : Hp} {E : Addr} {Qd : Hp → Prop} {j : Nat} {vs : List Nat} (w : Walk J (as0.map V.ref).length G (YAt (as0.map V.ref))) (hG : ∀ H', Kp [E] H H' → G H') (hp : Paired (RowAt H) c as0) (hl : c.length < sizeLine) (hE : H E = none)
    (hj : j ∈ vs) (jl : j < σ.length) (q : ∀ H' as2, Kp [] H H' → H' E = some (.lst (as2.map V.ref)) → Paired (RowAt H') c as2 → as2.Nodup → (∀ a ∈ as2, H a = none ∧ a ≠ E) → Qd H') :
    LcW J (gName j) tYes (tCB (rListK K) (tCons (tVar j) tNil)) vs σ H E Qd := by
  have lc := plen hp
  refine LcW.it w (fun i H' => Kp [E] H H' ∧ ∃ as2, H' E = some (.lst (as2.map V.ref)) ∧ Paired (RowAt H') (c.take i) as2 ∧ as2.Nodup ∧ ∀ a ∈ as2, H a = none ∧ a ≠ E) ⟨Kp.new hE, [], upd_same, .nil, List.nodup_nil, fun _ z => nomatch z⟩ (fun i H' _ z => hG H' z.1) ?_ ?_
  · rintro i x H1 H2 hi ⟨k1, as2, e1, p1, nd1, fr1⟩ ⟨rfl, hx⟩
    rw [List.getElem?_map] at hx
    obtain ⟨a, ea, rfl⟩ := Option.map_eq_some_iff.mp hx
    obtain ⟨r, er, vs1, e2, p2⟩ := pgetR hp ea
    have e3 := k1.k _ _ (nin e2 hE) e2
    refine i_name ⟨wipe_one hj, i_yes (i_itt (i_cb (i_cons (i_var (List.getElem?_set_self (by rw [wipe_length]; exact jl)) (i_nil ?_)))))⟩
    refine ⟨a, vs1, rfl, .inl (SqL.of e3), fun b hb => ?_⟩
    have k2 : Kp [E] H2 (upd H2 b (.lst vs1)) := Kp.new hb
    have e4 := (upd_ne (o := .lst vs1) (ne_of_none e1 hb)).trans e1
    have k3 : Kp [E] (upd H2 b (.lst vs1)) (upd (upd H2 b (.lst vs1)) E (.lst (as2.map V.ref ++ [.ref b]))) := Kp.wr (List.mem_singleton.mpr rfl) e4 (fun _ z => nomatch z)
    have nbE : b ≠ E := (ne_of_none e1 hb).symm
    have lx : (as2.map V.ref).length < sizeLine := by
      rw [List.length_map, ← plen p1, List.length_take]
      omega
    refine ⟨_, e4, lx, (k1.trans k2).trans k3, as2 ++ [b], by rw [upd_same, List.map_append]; rfl, ?_, ?_, ?_⟩
    · rw [take_snoc er]
      refine psnoc (pmapm p1 fun r a ha z => (z.kp (Kp.new (S := []) hb) (fun y => nomatch y)).kp k3 fun y => (fr1 a ha).2 (List.mem_singleton.mp y)) ⟨vs1, (upd_ne nbE).trans upd_same, pmap p2 fun _ _ z => ((z.kp k1).kp k2).kp k3⟩
    · refine List.nodup_append.mpr ⟨nd1, by simp, fun x hx y hy e => ?_⟩
      rw [List.mem_singleton] at hy
      subst hy
      obtain ⟨r', hr'⟩ := pmem p1 hx
      obtain ⟨_, _, e5, _⟩ := hr'
      rw [e, hb] at e5
      cases e5
    · intro x hx
      rcases List.mem_append.mp hx with hx | hx
      · exact fr1 x hx
      · rw [List.mem_singleton] at hx
        subst hx
        exact ⟨k1.free (fun z => nbE (List.mem_singleton.mp z)) hb, nbE⟩
  · rintro H1 ⟨k1, as2, e1, p1, nd1, fr1⟩
    rw [List.length_map, ← lc, List.take_length] at p1
    exact q H1 as2 (k1.drop hE) e1 p1 nd1 fr1
abbrev N_Heap_len : List Str := ["self", "one", "item"]
theorem sc_Heap_len : FnScope N_Heap_len ["self"] (defScope s_Heap_len) := ⟨rfl, rfl, rfl, by decide +kernel, rfl, by decide +kernel, by decide +kernel⟩
abbrev N_Heap_has : List Str := ["self", "number"]
theorem sc_Heap_has : FnScope N_Heap_has ["self", "number"] (defScope s_Heap_has) := ⟨rfl, rfl, rfl, by decide +kernel, rfl, by decide +kernel, by decide +kernel⟩
abbrev N_Heap_size : List Str := ["self"]
theorem sc_Heap_size : FnScope N_Heap_size ["self"] (defScope s_Heap_size) := ⟨rfl, rfl, rfl, by decide +kernel, rfl, by decide +kernel, by decide +kernel⟩
abbrev N_Heap_need_box : List Str := ["self", "number"]
theorem sc_Heap_need_box : FnScope N_Heap_need_box ["self", "number"] (defScope s_Heap_need_box) := ⟨rfl, rfl, rfl, by decide +kernel, rfl, by decide +kernel, by decide +kernel⟩
abbrev N_Heap_need_item : List Str := ["self", "item", "more"]
theorem sc_Heap_need_item : FnScope N_Heap_need_item ["self", "item", "more"] (defScope s_Heap_need_item) := ⟨rfl, rfl, rfl, by decide +kernel, rfl, by decide +kernel, by decide +kernel⟩
abbrev N_Heap_need_room : List Str := ["self", "boxes", "items"]
theorem sc_Heap_need_room : FnScope N_Heap_need_room ["self", "boxes", "items"] (defScope s_Heap_need_room) := ⟨rfl, rfl, rfl, by decide +kernel, rfl, by decide +kernel, by decide +kernel⟩
abbrev N_Heap_contents : List Str := ["self", "one"]
theorem sc_Heap_contents : FnScope N_Heap_contents ["self"] (defScope s_Heap_contents) := ⟨rfl, rfl, rfl, by decide +kernel, rfl, by decide +kernel, by decide +kernel⟩
def spHLen (cH : Addr) : Sp := fun vs H Q _ => ∃ (h l : Addr) (as : List Addr) (c : Ctn), vs = [.ref h] ∧ HpS H cH h l as c ∧ total c ≤ 1000 ∧ ∀ H', Kp [] H H' → Q (.int ((total c : Nat) : Int)) H'
def spHas (cH : Addr) : Sp := fun vs H Q _ => ∃ (h l : Addr) (as : List Addr) (c : Ctn) (n : Nat), vs = [.ref h, .int (n : Nat)] ∧ HpS H cH h l as c ∧ n < c.length ∧ Q (.bl true) H
def spSize (cH : Addr) : Sp := fun vs H Q _ => ∃ (h l : Addr) (as : List Addr) (c : Ctn), vs = [.ref h] ∧ HpS H cH h l as c ∧ Q (.int ((c.length : Nat) : Int)) H
def spNeedBox (cH : Addr) : Sp := fun vs H Q _ => ∃ (h l : Addr) (as : List Addr) (c : Ctn) (n : Nat), vs = [.ref h, .int (n : Nat)] ∧ HpS H cH h l as c ∧ n < c.length ∧ Q .non H
def spNeedItem (cH : Addr) : Sp := fun vs H Q _ => ∃ (h l : Addr) (as : List Addr) (c : Ctn) (it : It) (v : V) (m : Nat), vs = [.ref h, v, .int (m : Nat)] ∧ HpS H cH h l as c ∧ ItV H it v ∧ ItOk (c.length + m) it ∧ ∀ H', Kp [] H H' → Q .non H'
def spNeedRoom (cH : Addr) : Sp := fun vs H Q _ => ∃ (h l : Addr) (as : List Addr) (c : Ctn) (b i : Nat), vs = [.ref h, .int (b : Nat), .int (i : Nat)] ∧ HpS H cH h l as c ∧ c.length + b ≤ 60 ∧ total c + i ≤ 300 ∧ ∀ H', Kp [] H H' → Q .non H'
def spContents (cH : Addr) : Sp := fun vs H Q _ => ∃ (h l : Addr) (as : List Addr) (c : Ctn), vs = [.ref h] ∧ HpS H cH h l as c ∧ c.length ≤ 1000 ∧ ∀ H' l2 as2, Kp [] H H' → LstsAt H' l2 as2 c → (∀ b ∈ l2 :: as2, H b = none) → Q (.ref l2) H'
section
variable {P : Program} {w : World} {K : PySem.W.Frag} {mg : Str → Option Value} {base : Heap} {cV cO cH : Addr}
theorem ok_Heap_len (T : Txt K mg cV cO cH) : Mt0 P w K mg base 1 cH "__len__" ["self"] (spHLen cH) := by
  refine T.d_Heap_len.ok sc_Heap_len (fun vs H Q E h => ?_) (fun _ _ _ _ _ _ us hl => match us, hl with | [_], _ => rfl) (fun f cdv A outer s H vs Q E hr h => ?_)
  · obtain ⟨_, _, _, _, rfl, _⟩ := h
    rfl
  · obtain ⟨h, l, as, c, rfl, hS, ht, q⟩ := h
    obtain ⟨dx, e⟩ := hS.ins
    refine ⟨_, (pss_one (ps_ret (pe_bf call_len_seq T.f_len (pa_cons (pe_lc2 (vs1 := [2]) (own := [("one", 1), ("item", 2)]) rfl sc_Heap_len.nd (pi_list (pe_fld (pv 0) rfl)) (blkOk_by (own := [("one", 1), ("item", 2)]) (N := N_Heap_len) (sc := defScope s_Heap_len) (by decide +kernel)) (by decide) (by intro _ _ _ _ _; exact (pg_name (i := 1) sc_Heap_len.nd rfl (by first | exact Or.inl rfl | exact Or.inr rfl))) (by intro _ _ _ _ _; exact pts_nil) (by intro _ _ _ _ _; exact (pi_listK (K := K) rfl (pv 1))) (by intro _ _ _ _ _; exact (pg_name (i := 2) sc_Heap_len.nd rfl (by first | exact Or.inl rfl | exact Or.inr rfl))) (by intro _ _ _ _ _; exact pts_nil) (by intro _ _ _ _ _; exact (pv 2))) pa_nil)))), ?_⟩
    walk_at "go"
    refine i_lcw2 ?_
    walk_at "go"
    refine ⟨_, _, _, _, _, rfl, e, T.clH, T.nH_lists, hp_lists _, l, rfl, ⟨_, SqL.of hS.lst.1⟩, fun E hE => ?_⟩
    have la := plen hS.lst.2
    refine LcW2.it (walk_list (xs := as.map V.ref)) (fun i H' => Kp [E] H H' ∧ ∃ ys : List V, H' E = some (.lst ys) ∧ ys.length = total (c.take i)) ⟨Kp.new hE, [], upd_same, rfl⟩ (fun i H' _ z => z.1.sqL (nin hS.lst.1 hE) (SqL.of hS.lst.1)) ?_ ?_
    · rintro i x H1 H2 hi ⟨k1, ys, e1, l1⟩ ⟨rfl, hx⟩
      rw [List.getElem?_map] at hx
      obtain ⟨a, ea, rfl⟩ := Option.map_eq_some_iff.mp hx
      obtain ⟨r, er, vs1, e2, p2⟩ := pgetR hS.lst.2 ea
      have lr := plen p2
      have e3 := k1.k _ _ (nin e2 hE) e2
      have tot : total (c.take i) + r.length ≤ total c := by
        have z : c = c.take i ++ r :: c.drop (i + 1) := by rw [← drop_at er, List.take_append_drop]
        have y : total c = total (c.take i) + (r.length + total (c.drop (i + 1))) := by
          conv => lhs; rw [z]
          unfold total
          rw [List.map_append, List.sum_append, List.map_cons, List.sum_cons]
        omega
      refine i_name ⟨wipe_one (by decide), i_yes (i_itt (i_iList (i_var rfl ⟨a, rfl, ⟨_, SqL.of e3⟩, ?_⟩)))⟩
      refine InW.it (walk_list (xs := vs1)) (fun j H' => Kp [E] H H' ∧ ∃ ys : List V, H' E = some (.lst ys) ∧ ys.length = total (c.take i) + j) ⟨k1, ys, e1, l1⟩ (fun j H' _ z => z.1.sqL (nin e2 hE) (SqL.of e2)) ?_ ?_
      · rintro j x H3 H4 hj ⟨k3, ys3, e4, l4⟩ ⟨rfl, hx⟩
        refine i_name ⟨wipe_one (by decide), i_yes (i_itt (i_var rfl ?_))⟩
        exact ⟨ys3, e4, Nat.lt_of_le_of_lt (show ys3.length ≤ 1000 by omega) (by decide), k3.wr' (List.mem_singleton.mpr rfl) e4 (fun _ z => nomatch z), _, upd_same, by rw [List.length_append, List.length_singleton]; omega⟩
      · rintro H3 ⟨k3, ys3, e4, l4⟩
        refine ⟨k3, ys3, e4, ?_⟩
        rw [take_snoc er, total_snoc]
        omega
    · rintro H1 ⟨k1, ys, e1, l1⟩
      rw [List.length_map, ← la, List.take_length] at l1
      walk_at "go"
      refine ⟨E, ys, rfl, .inl (SqL.of e1), ?_⟩
      rw [l1]
      exact q H1 (k1.drop hE)
theorem ok_Heap_has (T : Txt K mg cV cO cH) : Mt0 P w K mg base 3 cH "__contains__" ["self", "number"] (spHas cH) := by
  have h_is_within := ok_is_within (P := P) (w := w) (base := base) T
  refine T.d_Heap_has.ok sc_Heap_has (fun vs H Q E h => ?_) (fun _ _ _ _ _ _ us hl => match us, hl with | [_, _], _ => rfl) (fun f cdv A outer s H vs Q E hr h => ?_)
  · obtain ⟨_, _, _, _, _, rfl, _⟩ := h
    rfl
  · obtain ⟨h, l, as, c, n, rfl, hS, hn, q⟩ := h
    obtain ⟨dx, e⟩ := hS.ins
    have la := plen hS.lst.2
    refine ⟨_, (pss_one (ps_ret (pe_fn h_is_within hr (by decide) rfl (pa_cons (pv 1) (pa_cons pe_int (pa_cons (pe_op op_sub (pe_bf call_len_seq T.f_len (pa_cons (pe_fld (pv 0) rfl) pa_nil)) pe_int) pa_nil)))))), ?_⟩
    walk_at "go"
    refine ⟨_, _, _, _, _, rfl, e, T.clH, T.nH_lists, hp_lists _, ?_⟩
    refine ⟨l, _, rfl, .inl (SqL.of hS.lst.1), ?_⟩
    walk_at "go"
    refine ⟨_, _, _, rfl, ?_⟩
    rw [decide_eq_true (by rw [List.length_map]; omega)]
    exact q
theorem ok_Heap_size (T : Txt K mg cV cO cH) : Pr0 P w K mg base 1 cH "size" (spSize cH) := by
  refine T.d_Heap_size.ok sc_Heap_size (fun vs H Q E h => ?_) (fun _ _ _ _ _ _ us hl => match us, hl with | [_], _ => rfl) (fun f cdv A outer s H vs Q E hr h => ?_)
  · obtain ⟨_, _, _, _, rfl, _⟩ := h
    rfl
  · obtain ⟨h, l, as, c, rfl, hS, q⟩ := h
    obtain ⟨dx, e⟩ := hS.ins
    have la := plen hS.lst.2
    refine ⟨_, (pss_one (ps_ret (pe_bf call_len_seq T.f_len (pa_cons (pe_fld (pv 0) rfl) pa_nil)))), ?_⟩
    walk_at "go"
    refine ⟨_, _, _, _, _, rfl, e, T.clH, T.nH_lists, hp_lists _, ?_⟩
    refine ⟨l, _, rfl, .inl (SqL.of hS.lst.1), ?_⟩
    rw [List.length_map, ← la]
    exact q
theorem ok_Heap_need_box (T : Txt K mg cV cO cH) : Mt0 P w K mg base 4 cH "need_box" ["self", "number"] (spNeedBox cH) := by
  have h_has := ok_Heap_has (P := P) (w := w) (base := base) T
  refine T.d_Heap_need_box.ok sc_Heap_need_box (fun vs H Q E h => ?_) (fun _ _ _ _ _ _ us hl => match us, hl with | [_, _], _ => rfl) (fun f cdv A outer s H vs Q E hr h => ?_)
  · obtain ⟨_, _, _, _, _, rfl, _⟩ := h
    rfl
  · obtain ⟨h, l, as, c, n, rfl, hS, hn, q⟩ := h
    obtain ⟨dx, e⟩ := hS.ins
    refine ⟨_, (pss_one (ps_if (pt_cmpR (op_ownNotIn h_has (hr.mono (by decide))) (pv 1) (pv 0) (by rfl))
      (pss_one (ps_never))
      pss_nil)), ?_⟩
    walk_at "go"
    refine ⟨_, _, _, rfl, e, ?_⟩
    refine ⟨h, l, as, c, n, rfl, hS, hn, true, rfl, ?_⟩
    walk_at "go"
    exact q
theorem ok_Heap_need_item (T : Txt K mg cV cO cH) : Mt0 P w K mg base 5 cH "need_item" ["self", "item", "more"] (spNeedItem cH) := by
  have h_is_item := ok_is_item (P := P) (w := w) (base := base) T
  refine T.d_Heap_need_item.ok sc_Heap_need_item (fun vs H Q E h => ?_) (fun _ _ _ _ _ _ us hl => match us, hl with | [_, _, _], _ => rfl) (fun f cdv A outer s H vs Q E hr h => ?_)
  · obtain ⟨_, _, _, _, _, _, _, rfl, _⟩ := h
    rfl
  · obtain ⟨h, l, as, c, it, v, m, rfl, hS, hi, oi, q⟩ := h
    obtain ⟨dx, e⟩ := hS.ins
    have la := plen hS.lst.2
    refine ⟨_, (pss_one (ps_if (pt_not (pt_val (pe_fn h_is_item hr (by decide) rfl (pa_cons (pv 1) (pa_cons (pe_op op_add (pe_bf call_len_seq T.f_len (pa_cons (pe_fld (pv 0) rfl) pa_nil)) (pv 2)) pa_nil)))))
      (pss_one (ps_never))
      pss_nil)), ?_⟩
    walk_at "go"
    refine ⟨_, _, _, _, _, rfl, e, T.clH, T.nH_lists, hp_lists _, ?_⟩
    refine ⟨l, _, rfl, .inl (SqL.of hS.lst.1), ?_⟩
    rw [List.length_map, ← la]
    walk_at "go"
    refine ⟨c.length + m, it, v, rfl, hi, oi, fun H' k => ?_⟩
    walk_at "go"
    exact q H' k
theorem ok_Heap_need_room (T : Txt K mg cV cO cH) : Mt0 P w K mg base 3 cH "need_room" ["self", "boxes", "items"] (spNeedRoom cH) := by
  have h_len := ok_Heap_len (P := P) (w := w) (base := base) T
  refine T.d_Heap_need_room.ok sc_Heap_need_room (fun vs H Q E h => ?_) (fun _ _ _ _ _ _ us hl => match us, hl with | [_, _, _], _ => rfl) (fun f cdv A outer s H vs Q E hr h => ?_)
  · obtain ⟨_, _, _, _, _, _, rfl, _⟩ := h
    rfl
  · obtain ⟨h, l, as, c, b, i, rfl, hS, hb, hi, q⟩ := h
    obtain ⟨dx, e⟩ := hS.ins
    have la := plen hS.lst.2
    obtain ⟨u1, mB⟩ := T.mB
    obtain ⟨u2, mI⟩ := T.mI
    refine ⟨_, (pss_cons (ps_if (pt_cmpR op_gt (pe_op op_add (pe_bf call_len_seq T.f_len (pa_cons (pe_fld (pv 0) rfl) pa_nil)) (pv 1)) (ClX.pe_cval (pe_gr T.gH)) (nomark _))
      (pss_one (ps_never))
      pss_nil)
    (pss_one (ps_if (pt_cmpR op_gt (pe_op op_add (pe_bf (call_ownLen h_len (hr.mono (by decide))) T.f_len (pa_cons (pv 0) pa_nil)) (pv 2)) (ClX.pe_cval (pe_gr T.gH)) (nomark _))
      (pss_one (ps_never))
      pss_nil))), ?_⟩
    walk_at "go"
    refine ⟨_, _, _, _, _, rfl, e, T.clH, T.nH_lists, hp_lists _, ?_⟩
    refine ⟨l, _, rfl, .inl (SqL.of hS.lst.1), ?_⟩
    rw [List.length_map, ← la]
    walk_at "go"
    refine ⟨cH, _, _, _, rfl, T.rdH, mB, ?_⟩
    walk_at "go"
    refine iteF (decide_eq_false (by omega)) ?_
    walk_at "go"
    refine ⟨h, dx, _, rfl, e, ?_⟩
    refine ⟨h, l, as, c, rfl, hS, by omega, fun H' k => ⟨total c, rfl, by omega, ?_⟩⟩
    walk_at "go"
    refine ⟨cH, _, _, _, rfl, T.rdH, mI, ?_⟩
    walk_at "go"
    refine iteF (decide_eq_false (by omega)) ?_
    walk_at "go"
    exact q H' k
theorem ok_Heap_contents (T : Txt K mg cV cO cH) : Mt0 P w K mg base 1 cH "contents" ["self"] (spContents cH) := by
  refine T.d_Heap_contents.ok sc_Heap_contents (fun vs H Q E h => ?_) (fun _ _ _ _ _ _ us hl => match us, hl with | [_], _ => rfl) (fun f cdv A outer s H vs Q E hr h => ?_)
  · obtain ⟨_, _, _, _, rfl, _⟩ := h
    rfl
  · obtain ⟨h, l, as, c, rfl, hS, hc, q⟩ := h
    obtain ⟨dx, e⟩ := hS.ins
    refine ⟨_, (pss_one (ps_ret (pe_lc (own := [("one", 1)]) rfl sc_Heap_contents.nd (pi_list (pe_fld (pv 0) rfl)) (blkOk_by (own := [("one", 1)]) (N := N_Heap_contents) (sc := defScope s_Heap_contents) (by decide +kernel)) (by intro _ _ _ _ _; exact (pg_name (i := 1) sc_Heap_contents.nd rfl (by first | exact Or.inl rfl | exact Or.inr rfl))) (by intro _ _ _ _ _; exact pts_nil) (by intro _ _ _ _ _; exact (pe_bt (call_list_ofK (K := K) rfl) T.f_list (pa_cons (pv 1) pa_nil)))))), ?_⟩
    walk_at "go"
    refine ⟨_, _, _, _, _, rfl, e, T.clH, T.nH_lists, hp_lists _, l, rfl, ⟨_, SqL.of hS.lst.1⟩, fun E hE => ?_⟩
    refine lc_copy walk_list (fun H' k => k.sqL (nin hS.lst.1 hE) (SqL.of hS.lst.1)) hS.lst.2 (Nat.lt_of_le_of_lt hc (by decide)) hE (by decide) (by show 1 < 2; decide) fun H' as2 k e2 p2 _ f2 => ?_
    exact q H' E as2 k ⟨e2, p2⟩ fun b hb => (List.mem_cons.mp hb).elim (fun z => by rw [z]; exact hE) fun z => (f2 b z).1
end
end Rk
set_option Elab.async false
set_option linter.all false
set_option maxRecDepth 100000
set_option maxHeartbeats 1000000
/-! heaps made -/
namespace Rk
open PySem PySem.Spec PyProof.Rows L2
local macro_rules | `(tactic| walk_at "go") => `(tactic| ((try dsimp only); repeat (first
  | with_reducible apply i_seq
  | ((with_reducible apply i_var); exact rfl)
  | with_reducible apply i_c
  | with_reducible apply i_cons
  | with_reducible apply i_nil
  | with_reducible apply i_call
  | with_reducible apply i_cb
  | with_reducible apply i_meth
  | with_reducible apply i_fld
  | with_reducible apply i_op
  | with_reducible apply i_rI0
  | with_reducible apply i_eqI
  | with_reducible apply i_neI
  | with_reducible apply i_eqS
  | with_reducible apply i_neS
  | with_reducible apply i_if
  | with_reducible apply i_test
  | with_reducible apply i_b
  | with_reducible apply i_bl
  | with_reducible apply i_int
  | with_reducible apply i_and
  | with_reducible apply i_or
  | with_reducible apply i_not
  | with_reducible apply i_andV
  | with_reducible apply i_orV
  | with_reducible apply i_notV
  | with_reducible apply i_ifE
  | with_reducible apply i_itt
  | with_reducible apply i_itf
  | with_reducible apply i_nt
  | with_reducible apply i_nf
  | with_reducible apply i_asg
  | with_reducible apply i_name
  | with_reducible apply i_ret
  | with_reducible apply i_retN
  | with_reducible apply i_drop
  | with_reducible apply i_next
  | with_reducible apply i_break
  | with_reducible apply i_un
  | with_reducible apply i_rU
  | with_reducible apply i_tup
  | with_reducible apply i_lst
  | with_reducible apply i_par
  | with_reducible apply i_chain
  | with_reducible apply i_gcons
  | with_reducible apply i_gnil
  | with_reducible apply i_prop
  | with_reducible apply i_make
  | ((with_reducible apply i_aug); exact rfl)
  | with_reducible apply i_ipI
  | with_reducible apply i_sl
  | with_reducible apply i_noPart
  | with_reducible apply i_part
  | with_reducible apply i_bm
  | with_reducible apply i_bm0
  | with_reducible apply i_lc
  | with_reducible apply i_for
  | with_reducible apply i_iStr
  | with_reducible apply i_iList
  | with_reducible apply i_iTup
  | with_reducible apply i_rng1
  | with_reducible apply i_rng2
  | with_reducible apply i_yes
  | with_reducible apply i_refE
  | with_reducible apply i_strE
  | with_reducible apply i_sfld
  | with_reducible apply i_dput
  | with_reducible apply i_dget
  | with_reducible apply i_din
  | with_reducible apply i_dnotin
  | with_reducible apply i_dnew
  | with_reducible apply i_augS
  | with_reducible apply i_gsub
  | with_reducible apply i_asg2
  | with_reducible apply i_disp1
  | with_reducible apply i_ar
  | with_reducible apply i_sfldaug
  | with_reducible apply i_gfld
  | with_reducible apply i_ckw
  | with_reducible apply i_rAdd
  | with_reducible apply i_par3)))
abbrev N_Heap_init : List Str := ["self", "contents", "one", "item"]
theorem sc_Heap_init : FnScope N_Heap_init ["self", "contents"] (defScope s_Heap_init) := ⟨rfl, rfl, rfl, by decide +kernel, rfl, by decide +kernel, by decide +kernel⟩
abbrev N_Heap_of : List Str := ["cls", "contents"]
theorem sc_Heap_of : FnScope N_Heap_of ["cls", "contents"] (defScope s_Heap_of) := ⟨rfl, rfl, rfl, by decide +kernel, rfl, by decide +kernel, by decide +kernel⟩
abbrev N_Heap_need_place : List Str := ["self", "box", "place", "more"]
theorem sc_Heap_need_place : FnScope N_Heap_need_place ["self", "box", "place", "more"] (defScope s_Heap_need_place) := ⟨rfl, rfl, rfl, by decide +kernel, rfl, by decide +kernel, by decide +kernel⟩
abbrev N_Heap_new : List Str := ["self", "items", "item"]
theorem sc_Heap_new : FnScope N_Heap_new ["self", "items"] (defScope s_Heap_new) := ⟨rfl, rfl, rfl, by decide +kernel, rfl, by decide +kernel, by decide +kernel⟩
abbrev N_Heap_add_at : List Str := ["self", "box", "place", "item"]
theorem sc_Heap_add_at : FnScope N_Heap_add_at ["self", "box", "place", "item"] (defScope s_Heap_add_at) := ⟨rfl, rfl, rfl, by decide +kernel, rfl, by decide +kernel, by decide +kernel⟩
abbrev N_Heap_add_last : List Str := ["self", "box", "item"]
theorem sc_Heap_add_last : FnScope N_Heap_add_last ["self", "box", "item"] (defScope s_Heap_add_last) := ⟨rfl, rfl, rfl, by decide +kernel, rfl, by decide +kernel, by decide +kernel⟩
def spHInit (cH : Addr) : Sp := fun vs H Q _ => ∃ (h p dx : Addr) (as0 : List Addr) (c : Ctn), vs = [.ref h, .ref p] ∧ H p = some (.tup (as0.map V.ref)) ∧ H h = some (.ins cH dx []) ∧ Paired (RowAt H) c as0 ∧ (∀ r ∈ c, ∀ it ∈ r, ItOk c.length it) ∧ c.length ≤ 60 ∧ total c ≤ 300 ∧
  ∀ H' l as, Kp [h] H H' → HpS H' cH h l as c → H l = none → (∀ a ∈ as, H a = none) → Q .non H'
def spNewI (cH : Addr) : Sp := fun vs H Q _ => ∃ (h l p : Addr) (as : List Addr) (c : Ctn), vs = [.ref h, .ref p] ∧ H p = some (.tup []) ∧ HpS H cH h l as c ∧ c.length + 1 ≤ 60 ∧ total c ≤ 300 ∧
  ∀ H' a, Kp [l] H H' → HpS H' cH h l (as ++ [a]) (c ++ [[]]) → H a = none → Q (.int ((c.length : Nat) : Int)) H'
def spNew (cH : Addr) : Sp := fun vs H Q _ => ∃ (h l : Addr) (as : List Addr) (c : Ctn), vs = [.ref h] ∧ HpS H cH h l as c ∧ c.length + 1 ≤ 60 ∧ total c ≤ 300 ∧
  ∀ H' a, Kp [l] H H' → HpS H' cH h l (as ++ [a]) (c ++ [[]]) → H a = none → Q (.int ((c.length : Nat) : Int)) H'
def spNeedPlace (cH : Addr) : Sp := fun vs H Q _ => ∃ (h l : Addr) (as : List Addr) (c : Ctn) (b k m : Nat), vs = [.ref h, .int (b : Nat), .int (k : Nat), .int (m : Nat)] ∧ HpS H cH h l as c ∧ b < c.length ∧ k + 1 ≤ (rw c b).length + m ∧ Q .non H
def spAddAt (cH : Addr) : Sp := fun vs H Q _ => ∃ (h l : Addr) (as : List Addr) (c : Ctn) (b : Nat) (it : It) (v : V), vs = [.ref h, .int (b : Nat), .int (((rw c b).length : Nat) : Int), v] ∧ HpS H cH h l as c ∧ b < c.length ∧ ItV H it v ∧ ItOk c.length it ∧ c.length ≤ 60 ∧ total c + 1 ≤ 300 ∧
  ∀ H', Kp as H H' → HpS H' cH h l as (c.set b (rw c b ++ [it])) → Q .non H'
def spAddLast (cH : Addr) : Sp := fun vs H Q _ => ∃ (h l : Addr) (as : List Addr) (c : Ctn) (b : Nat) (it : It) (v : V), vs = [.ref h, .int (b : Nat), v] ∧ HpS H cH h l as c ∧ b < c.length ∧ ItV H it v ∧ ItOk c.length it ∧ c.length ≤ 60 ∧ total c + 1 ≤ 300 ∧
  ∀ H', Kp as H H' → HpS H' cH h l as (c.set b (rw c b ++ [it])) → Q .non H'
def spOf (cH : Addr) : Sp := fun vs H Q _ => ∃ (p : Addr) (as0 : List Addr) (c : Ctn), vs = [.ref cH, .ref p] ∧ H p = some (.lst (as0.map V.ref)) ∧ Paired (RowAt H) c as0 ∧ (∀ r ∈ c, ∀ it ∈ r, ItOk c.length it) ∧ c.length ≤ 60 ∧ total c ≤ 300 ∧
  ∀ H' h l as, Kp [] H H' → HpS H' cH h l as c → H h = none → H l = none → (∀ a ∈ as, H a = none) → Q (.ref h) H'
section
variable (P : Program) (w : World) (K : PySem.W.Frag) (mg : Str → Option Value) (base : Heap)
/-- a method by a positional promise -/
def MtR0 (k : Nat) (C : Addr) (m : Str) (sp : Sp) : Prop := ∃ f : Addr, Meth K C m f ∧ FnR P w K mg base CX0 k f sp
def MkR0 (k : Nat) (C : Addr) (sp : Sp) : Prop := ∃ f : Addr, Mk K C f ∧ FnR P w K mg base CX0 k f sp
def CmR0 (k : Nat) (C : Addr) (m : Str) (sp : Sp) : Prop := ∃ p f : Addr, ClX.CMet K C (.type "type") m p f ∧ FnR P w K mg base CX0 k f sp
end
section
variable {X : Cx} {k j : Nat} {C : Addr} {m : Str} {sp : Sp} {o e : Expr} {es : List Expr} {ta : TE} {t : TA} {pos apos : Pos}
theorem pe_new {pl : Sem Bool} (h : MtR0 X.prog X.w X.K X.mg X.base k C m sp) (hr : Room j X.A) (hkj : k ≤ j) (c : Cls X.K C) (he : PE X o ta)
    (ht : eval (.Call (.Attribute o m apos) [] [] pos) X.env = (do
      let ov ← eval o X.env
      standAt apos.atName
      let (f, first) ← holding [ov] (getMethod ov m pl)
      callWith pos f first (backTo pos (starEach [] X.env)) (backToKw pos (keywordEach [] X.env))) := by rfl) :
    PE X (.Call (.Attribute o m apos) [] [] pos) (fun σ H Q => ta σ H fun x H1 => ∃ a dx fs, x = .ref a ∧ H1 a = some (.ins C dx fs) ∧ fs.lookup m = none ∧ sp [.ref a] H1 Q E0) := by
  obtain ⟨f, hm, F⟩ := h
  exact pe_methR0 he c hm F hr hkj ht
theorem pe_of {pl : Sem Bool} (h : CmR0 X.prog X.w X.K X.mg X.base k C m sp) (r : ClX.CRead X.K C (.type "type")) (hr : Room j X.A) (hkj : k ≤ j) (he : PE X o ta) (ha : PA X (e :: es) t)
    (hst : starEach (e :: es) X.env = (false, eval e X.env) :: starEach es X.env := by rfl) (hpl : (backTo pos (starEach es X.env)).any (·.1) = false := by rfl)
    (ht : eval (.Call (.Attribute o m apos) (e :: es) [] pos) X.env = (do
      let ov ← eval o X.env
      standAt apos.atName
      let (f, first) ← holding [ov] (getMethod ov m pl)
      callWith pos f first (backTo pos (starEach (e :: es) X.env)) (backToKw pos (keywordEach [] X.env))) := by rfl) : PE X (.Call (.Attribute o m apos) (e :: es) [] pos) (ClX.tCMeth C sp E0 ta t) := by
  obtain ⟨p, f, c, F⟩ := h
  exact ClX.pe_cmeth he r c F (hr.mono hkj) pass0 ha hst hpl ht
end
theorem rw_set {c : Ctn} {b x : Nat} {r : List It} (hb : b < c.length) : rw (c.set b r) x = if x = b then r else rw c x := by
  unfold rw
  rw [List.getD_eq_getElem?_getD, List.getD_eq_getElem?_getD, List.getElem?_set]
  by_cases h : b = x
  · subst h
    rw [if_pos rfl, if_pos hb, if_pos rfl]
    rfl
  · rw [if_neg h, if_neg (fun z => h z.symm)]
theorem pset {α β : Type} {F : α → β → Prop} {l : List α} {k : List β} (h : Paired F l k) (i : Nat) {a : α} {b : β} (f : F a b) : Paired F (l.set i a) (k.set i b) := by
  induction h generalizing i with
  | nil => exact .nil
  | cons g t ih =>
    cases i with
    | zero => exact .cons f t
    | succ i => exact .cons g (ih i)
section
variable {P : Program} {w : World} {K : PySem.W.Frag} {mg : Str → Option Value} {base : Heap} {cV cO cH : Addr}
theorem ok_Heap_init (T : Txt K mg cV cO cH) : MkR0 P w K mg base 6 cH (fun vs H Q E => ∃ ws rest, vs = ws ++ rest ∧ ws.length = 1 ∧ rest.length ≤ sizeLine ∧ ∀ p, H p = none → spHInit cH (ws ++ [V.ref p]) (upd H p (.tup rest)) Q E) := by
  have h_is_item := ok_is_item (P := P) (w := w) (base := base) T
  have h_need_room := ok_Heap_need_room (P := P) (w := w) (base := base) T
  obtain ⟨f, fd, hm, F⟩ := T.d_Heap_init
  obtain ⟨oc, od, kV, doc, pm, an, cdv, ct, osl, rfl, lk, hcd⟩ := F.ex
  refine ⟨f, hm, StX.fn_star (ps := ["self"]) (pv := "contents") lk hcd sc_Heap_init StX.cxUp_none (StX.bind_star1 (B := fun us => bindArgs (PySem.W.fnOf "__init__" "Heap.__init__" (defArgs s_Heap_init) (defBody s_Heap_init) (defScope s_Heap_init) .none kV doc pm an cdv ct) ⟨us, []⟩) (fun a => rfl) (fun a r rs => rfl)) fun A outer s H vs Q E hr h => ?_⟩
  obtain ⟨h, p, dx, as0, c, rfl, hp, hh, hc, hit, hc60, htot, q⟩ := h
  refine ⟨_, PSs.nox (pss_cons (ps_for PassesOwn.never rfl (pi_tup (pv 1)) (pg_name (i := 2) sc_Heap_init.nd rfl (by first | exact Or.inl rfl | exact Or.inr rfl))
    (pss_cons (ps_if (pt_not (pt_val (pe_bf call_isi T.f_isinstance (pa_cons (pv 2) (pa_cons (pe_ty (T := "list") T.f_list) pa_nil)))))
      (pss_one (ps_never))
      pss_nil)
    (pss_one (ps_for PassesOwn.never rfl (pi_list (pv 2)) (pg_name (i := 3) sc_Heap_init.nd rfl (by first | exact Or.inl rfl | exact Or.inr rfl))
      (pss_one (ps_if (pt_not (pt_val (pe_fn h_is_item hr (by decide) rfl (pa_cons (pv 3) (pa_cons (pe_bf call_len_seq T.f_len (pa_cons (pv 1) pa_nil)) pa_nil)))))
        (pss_one (ps_never))
        pss_nil))))))
  (pss_cons (ps_fld (pv 0) (pe_lc (own := [("one", 2)]) rfl sc_Heap_init.nd (pi_tup (pv 1)) (blkOk_by (own := [("one", 2)]) (N := N_Heap_init) (sc := defScope s_Heap_init) (by decide +kernel)) (by intro _ _ _ _ _; exact (pg_name (i := 2) sc_Heap_init.nd rfl (by first | exact Or.inl rfl | exact Or.inr rfl))) (by intro _ _ _ _ _; exact pts_nil) (by intro _ _ _ _ _; exact (pe_bt (call_list_ofK (K := K) rfl) T.f_list (pa_cons (pv 2) pa_nil)))) rfl)
  (pss_one (ps_expr (pe_mtd (pv 0) T.clH h_need_room hr (by decide) (pa_cons pe_int (pa_cons pe_int pa_nil))))))), ?_⟩
  have lc := plen hc
  walk_at "go"
  refine ⟨⟨_, SqT.of hp⟩, ?_⟩
  refine ForW.it (walk_tup (xs := as0.map V.ref)) (fun i σ H' => ∃ z2 z3, σ = [some (.ref h), some (.ref p), z2, z3] ∧ Kp [] H H') ⟨_, _, rfl, Kp.refl _ _⟩ (fun i σ H' _ z => ?_) ?_ ?_
  · obtain ⟨_, _, _, k⟩ := z
    exact SqT.of (k.t _ _ hp)
  · rintro i x σ H1 H2 hi ⟨z2, z3, rfl, k1⟩ ⟨rfl, hx⟩
    rw [List.getElem?_map] at hx
    obtain ⟨a, ea, rfl⟩ := Option.map_eq_some_iff.mp hx
    obtain ⟨r, er, vs1, e2, p2⟩ := pgetR hc ea
    have lr := plen p2
    have e3 := k1.at0 e2
    walk_at "go"
    refine isi (.lst e3) (b := true) rfl ?_
    walk_at "go"
    refine ⟨⟨_, SqL.of e3⟩, ?_⟩
    refine ForW.it (walk_list (xs := vs1)) (fun j σ H' => ∃ z3, σ = [some (.ref h), some (.ref p), some (.ref a), z3] ∧ Kp [] H H') ⟨_, rfl, k1⟩ (fun j σ H' _ z => ?_) ?_ ?_
    · obtain ⟨_, _, k⟩ := z
      exact SqL.of (k.at0 e2)
    · rintro j x σ H3 H4 hj ⟨z3, rfl, k3⟩ ⟨rfl, hx⟩
      obtain ⟨it, eit, iv⟩ := pgetR p2 hx
      walk_at "go"
      refine ⟨p, _, rfl, .inr (SqT.of (k3.t _ _ hp)), ?_⟩
      rw [List.length_map, ← lc]
      walk_at "go"
      refine ⟨c.length, it, x, rfl, iv.kp k3, hit r (List.mem_of_getElem? er) it (List.mem_of_getElem? eit), fun H5 k5 => ?_⟩
      walk_at "go"
      exact ⟨_, rfl, k3.trans k5⟩
    · rintro σ H3 ⟨z3, rfl, k3⟩
      exact ⟨_, _, rfl, k3⟩
  · rintro σ H1 ⟨z2, z3, rfl, k1⟩
    walk_at "go"
    refine ⟨⟨_, SqT.of (k1.t _ _ hp)⟩, fun E hE => ?_⟩
    refine lc_copy walk_tup (fun H' k => SqT.of (k.t _ _ (k1.t _ _ hp))) (pmap hc fun _ _ z => z.kp k1 fun y => nomatch y) (Nat.lt_of_le_of_lt hc60 (by decide)) hE (by decide) (by show 2 < 4; decide) fun H2 as2 k2 e2 p2 nd2 fr2 => ?_
    have hh2 := k2.at0 (k1.at0 hh)
    walk_at "go"
    refine ⟨_, _, _, _, rfl, hh2, T.clH, T.nH_lists, by show 0 < 1000; decide, ?_⟩
    have ef : putF "lists" (.ref E) [] = hpF E := rfl
    rw [ef]
    have k3 : Kp [h] H2 (upd H2 h (.ins cH dx (hpF E))) := Kp.wr (List.mem_singleton.mpr rfl) hh2 (fun _ z => nomatch z)
    have nE : E ≠ h := fun z => by rw [z, hh2] at e2; cases e2
    have HS : HpS (upd H2 h (.ins cH dx (hpF E))) cH h E as2 c := ⟨⟨dx, upd_same⟩, LstsAt.kp ⟨e2, p2⟩ k3 (fun z => nE (List.mem_singleton.mp z)) (fun a ha z => by
      obtain ⟨r, _, ws, e5, _⟩ := pmem p2 ha
      rw [List.mem_singleton.mp z, hh2] at e5
      cases e5), nd2, fun z => (fr2 E z).2 rfl⟩
    walk_at "go"
    refine ⟨_, _, _, rfl, upd_same, rfl, ?_⟩
    walk_at "go"
    refine ⟨h, E, as2, c, 0, 0, rfl, HS, by omega, by omega, fun H' k4 => ?_⟩
    have n1 : H E = none := k1.free (fun z => nomatch z) hE
    exact q H' E as2 (((k1.trans k2).of0.trans k3).trans k4.of0) (HS.kp0 k4) n1 fun a ha => k1.free (fun z => nomatch z) (fr2 a ha).1
theorem ok_Heap_of (T : Txt K mg cV cO cH) : CmR0 P w K mg base 8 cH "of" (spOf cH) := by
  obtain ⟨f0, M, F⟩ := ok_Heap_init (P := P) (w := w) (base := base) T
  obtain ⟨p, f, fd, hm, G⟩ := T.d_Heap_of
  have OK : FnOk P w K mg base CX0 8 f fd ["cls", "contents"] (spOf cH) := by
    refine G.ok (k := 7) sc_Heap_of (fun vs H Q E h => ?_) (fun cdv A outer s H vs Q E hr h => ?_)
    · obtain ⟨_, _, _, rfl, _⟩ := h
      rfl
    · obtain ⟨p, as0, c, rfl, hp, hc, hit, hc60, htot, q⟩ := h
      refine ⟨_, (pss_one (ps_ret (pe_clsStar (i := 0) M F hr (by decide) rfl (Or.inl rfl) (pv 1)))), ?_⟩
      walk_at "go"
      have lc := plen hc
      refine ⟨rfl, i_var rfl ⟨p, _, rfl, .inr (SqL.of hp), fun z dz hz hdz nz => ⟨[.ref z], as0.map V.ref, rfl, rfl, by rw [List.length_map, ← lc]; exact Nat.le_trans hc60 (by decide), fun p2 hp2 => ?_⟩⟩⟩
      have k1 : Kp [] H (upd (upd (upd H dz (.own z)) z (.ins cH dz [])) p2 (.tup (as0.map V.ref))) := ((Kp.new hdz).new' ((upd_ne nz.symm).trans hz)).new' hp2
      have nzp : z ≠ p2 := (upd_none hp2).1.symm
      refine ⟨z, p2, dz, as0, c, rfl, upd_same, (upd_ne nzp).trans upd_same, pmap hc fun _ _ y => y.kp k1 (fun x => nomatch x), hit, hc60, htot, fun H' l as k4 HS hl ha => ⟨rfl, ?_⟩⟩
      exact q H' z l as (k1.via k4 fun x hx => .inr (List.mem_singleton.mp hx ▸ hz)) HS hz (k1.free (fun x => nomatch x) hl) fun a hx => k1.free (fun x => nomatch x) (ha a hx)
  have B : Binds K fd ["cls", "contents"] [] := G.binds fun _ _ _ _ _ _ us hl => match us, hl with | [_, _], _ => rfl
  have R := OK.raw B .nil
  simp only [List.append_nil] at R
  exact ⟨p, f, hm, R⟩
theorem ok_Heap_need_place (T : Txt K mg cV cO cH) : Mt0 P w K mg base 3 cH "need_place" ["self", "box", "place", "more"] (spNeedPlace cH) := by
  have h_is_within := ok_is_within (P := P) (w := w) (base := base) T
  refine T.d_Heap_need_place.ok sc_Heap_need_place (fun vs H Q E h => ?_) (fun _ _ _ _ _ _ us hl => match us, hl with | [_, _, _, _], _ => rfl) (fun f cdv A outer s H vs Q E hr h => ?_)
  · obtain ⟨_, _, _, _, _, _, _, rfl, _⟩ := h
    rfl
  · obtain ⟨h, l, as, c, b, k, m, rfl, hS, hb, hk, q⟩ := h
    obtain ⟨dx, e⟩ := hS.ins
    obtain ⟨a, ea, vs1, e1, p1⟩ := hS.lst.row hb
    have lr := plen p1
    refine ⟨_, (pss_one (ps_if (pt_not (pt_val (pe_fn h_is_within hr (by decide) rfl (pa_cons (pv 2) (pa_cons pe_int (pa_cons (pe_op op_add (pe_op op_sub (pe_bf call_len_seq T.f_len (pa_cons (pe_ix ix_list (pe_fld (pv 0) rfl) (pv 1) (fun _ _ => rfl)) pa_nil)) pe_int) (pv 3)) pa_nil))))))
      (pss_one (ps_never))
      pss_nil)), ?_⟩
    walk_at "go"
    refine ⟨_, _, _, _, _, rfl, e, T.clH, T.nH_lists, hp_lists _, ?_⟩
    walk_at "go"
    refine i_ixL hS.lst.1 (atI_nat (by rw [List.getElem?_map, ea]; rfl)) ?_
    walk_at "go"
    refine ⟨a, _, rfl, .inl (SqL.of e1), ?_⟩
    rw [← lr]
    walk_at "go"
    refine ⟨_, _, _, rfl, ?_⟩
    rw [decide_eq_true (show (0 : Int) ≤ ((k : Nat) : Int) ∧ ((k : Nat) : Int) ≤ (((rw c b).length : Nat) : Int) - 1 + ((m : Nat) : Int) by omega)]
    walk_at "go"
    exact q
theorem ok_Heap_add_at (T : Txt K mg cV cO cH) : Mt0 P w K mg base 6 cH "add_at" ["self", "box", "place", "item"] (spAddAt cH) := by
  have h_need_box := ok_Heap_need_box (P := P) (w := w) (base := base) T
  have h_need_place := ok_Heap_need_place (P := P) (w := w) (base := base) T
  have h_need_item := ok_Heap_need_item (P := P) (w := w) (base := base) T
  have h_need_room := ok_Heap_need_room (P := P) (w := w) (base := base) T
  refine T.d_Heap_add_at.ok sc_Heap_add_at (fun vs H Q E h => ?_) (fun _ _ _ _ _ _ us hl => match us, hl with | [_, _, _, _], _ => rfl) (fun f cdv A outer s H vs Q E hr h => ?_)
  · obtain ⟨_, _, _, _, _, _, _, rfl, _⟩ := h
    rfl
  · obtain ⟨h, l, as, c, b, it, v, rfl, hS, hb, hi, oi, h60, htot, q⟩ := h
    obtain ⟨dx, e⟩ := hS.ins
    refine ⟨_, (pss_cons (ps_expr (pe_mtd (pv 0) T.clH h_need_box hr (by decide) (pa_cons (pv 1) pa_nil)))
    (pss_cons (ps_expr (pe_mtd (pv 0) T.clH h_need_place hr (by decide) (pa_cons (pv 1) (pa_cons (pv 2) (pa_cons pe_int pa_nil)))))
    (pss_cons (ps_expr (pe_mtd (pv 0) T.clH h_need_item hr (by decide) (pa_cons (pv 3) (pa_cons pe_int pa_nil))))
    (pss_cons (ps_expr (pe_mtd (pv 0) T.clH h_need_room hr (by decide) (pa_cons pe_int (pa_cons pe_int pa_nil))))
    (pss_one (ps_expr (pe_bm PySem.F.plainAttrs_list PySem.F.slot_list_insert PySem.F.type_list_insert mt_insert (pe_ix ix_list (pe_fld (pv 0) rfl) (pv 1) (fun _ _ => rfl)) (pa_cons (pv 2) (pa_cons (pv 3) pa_nil))))))))), ?_⟩
    walk_at "go"
    refine ⟨_, _, _, rfl, e, rfl, ?_⟩
    walk_at "go"
    refine ⟨h, l, as, c, b, rfl, hS, hb, ?_⟩
    walk_at "go"
    refine ⟨_, _, _, rfl, e, rfl, ?_⟩
    walk_at "go"
    refine ⟨h, l, as, c, b, (rw c b).length, 1, rfl, hS, hb, Nat.le_refl _, ?_⟩
    walk_at "go"
    refine ⟨_, _, _, rfl, e, rfl, ?_⟩
    walk_at "go"
    refine ⟨h, l, as, c, it, v, 0, rfl, hS, hi, oi, fun H1 k1 => ?_⟩
    walk_at "go"
    refine ⟨_, _, _, rfl, k1.at0 e, rfl, ?_⟩
    walk_at "go"
    refine ⟨h, l, as, c, 0, 1, rfl, hS.kp0 k1, by omega, htot, fun H2 k2 => ?_⟩
    have S2 := (hS.kp0 k1).kp0 k2
    obtain ⟨dx2, e2⟩ := S2.ins
    obtain ⟨a, ea, vs1, e1, p1⟩ := S2.lst.row hb
    have lr := plen p1
    have r300 : (rw c b).length ≤ 300 := by
      have er : c[b]? = some (rw c b) := by
        unfold rw
        rw [List.getD_eq_getElem?_getD, List.getElem?_eq_getElem hb]
        rfl
      have z : c = c.take b ++ rw c b :: c.drop (b + 1) := by rw [← drop_at er, List.take_append_drop]
      have y : total c = total (c.take b) + ((rw c b).length + total (c.drop (b + 1))) := by
        conv => lhs; rw [z]
        unfold total
        rw [List.map_append, List.sum_append, List.map_cons, List.sum_cons]
      omega
    walk_at "go"
    refine ⟨_, _, _, _, _, rfl, e2, T.clH, T.nH_lists, hp_lists _, ?_⟩
    walk_at "go"
    refine i_ixL S2.lst.1 (atI_nat (by rw [List.getElem?_map, ea]; rfl)) ?_
    refine ⟨ty_list e1, ?_⟩
    walk_at "go"
    refine ⟨a, vs1, _, v, rfl, rfl, e1, ?_, by omega, by omega, ?_⟩
    · rw [← lr]
      exact Nat.lt_of_le_of_lt r300 (by decide)
    have et : vs1.take (((rw c b).length : Nat) : Int).toNat ++ [v] ++ vs1.drop (((rw c b).length : Nat) : Int).toNat = vs1 ++ [v] := by
      rw [Int.toNat_natCast, lr, List.take_length, List.drop_length, List.append_nil]
    rw [et]
    have k3 : Kp [a] H2 (upd H2 a (.lst (vs1 ++ [v]))) := Kp.wr (List.mem_singleton.mpr rfl) e1 (fun _ z => nomatch z)
    have hia : a ∈ as := List.mem_of_getElem? ea
    have nla : l ≠ a := fun z => hS.nl (z ▸ hia)
    refine q _ ((k1.of0.trans k2.of0).trans (k3.mono fun x hx => List.mem_singleton.mp hx ▸ hia)) ⟨⟨dx2, (upd_ne (ne_of e2 e1 (fun z => nomatch z))).trans e2⟩, ⟨(upd_ne nla).trans S2.lst.1, ?_⟩, hS.nd, hS.nl⟩
    -- the rows: all but a stand as they did
    refine paired_of (by rw [List.length_set]; exact plen S2.lst.2) fun i r a' g1 g2 => ?_
    by_cases hib : i = b
    · subst hib
      rw [ea] at g2
      cases g2
      rw [List.getElem?_set_self hb] at g1
      cases g1
      exact ⟨_, upd_same, psnoc (pmap p1 fun _ _ z => z.kp k3) (((hi.kp k1).kp k2).kp k3)⟩
    · rw [List.getElem?_set_ne (fun z => hib z.symm)] at g1
      obtain ⟨a2, g3, g4⟩ := pgetL S2.lst.2 g1
      rw [g2] at g3
      cases g3
      refine g4.kp k3 fun z => hib ?_
      rw [List.mem_singleton] at z
      subst z
      exact (List.getElem?_inj (List.getElem?_eq_some_iff.mp g2).1 hS.nd).mp (g2.trans ea.symm)
theorem ok_Heap_add_last (T : Txt K mg cV cO cH) : Mt0 P w K mg base 7 cH "add_last" ["self", "box", "item"] (spAddLast cH) := by
  have h_need_box := ok_Heap_need_box (P := P) (w := w) (base := base) T
  have h_add_at := ok_Heap_add_at (P := P) (w := w) (base := base) T
  refine T.d_Heap_add_last.ok sc_Heap_add_last (fun vs H Q E h => ?_) (fun _ _ _ _ _ _ us hl => match us, hl with | [_, _, _], _ => rfl) (fun f cdv A outer s H vs Q E hr h => ?_)
  · obtain ⟨_, _, _, _, _, _, _, rfl, _⟩ := h
    rfl
  · obtain ⟨h, l, as, c, b, it, v, rfl, hS, hb, hi, oi, h60, htot, q⟩ := h
    obtain ⟨dx, e⟩ := hS.ins
    obtain ⟨a, ea, vs1, e1, p1⟩ := hS.lst.row hb
    have lr := plen p1
    refine ⟨_, (pss_cons (ps_expr (pe_mtd (pv 0) T.clH h_need_box hr (by decide) (pa_cons (pv 1) pa_nil)))
    (pss_one (ps_expr (pe_mtd (pv 0) T.clH h_add_at hr (by decide) (pa_cons (pv 1) (pa_cons (pe_bf call_len_seq T.f_len (pa_cons (pe_ix ix_list (pe_fld (pv 0) rfl) (pv 1) (fun _ _ => rfl)) pa_nil)) (pa_cons (pv 2) pa_nil))))))), ?_⟩
    walk_at "go"
    refine ⟨_, _, _, rfl, e, rfl, ?_⟩
    walk_at "go"
    refine ⟨h, l, as, c, b, rfl, hS, hb, ?_⟩
    walk_at "go"
    refine ⟨_, _, _, rfl, e, rfl, ?_⟩
    walk_at "go"
    refine ⟨_, _, _, _, _, rfl, e, T.clH, T.nH_lists, hp_lists _, ?_⟩
    walk_at "go"
    refine i_ixL hS.lst.1 (atI_nat (by rw [List.getElem?_map, ea]; rfl)) ?_
    walk_at "go"
    refine ⟨a, _, rfl, .inl (SqL.of e1), ?_⟩
    rw [← lr]
    walk_at "go"
    exact ⟨h, l, as, c, b, it, v, rfl, hS, hb, hi, oi, h60, htot, fun H' k hS' => q H' k hS'⟩
theorem ok_Heap_new (T : Txt K mg cV cO cH) : MtR0 P w K mg base 7 cH "new" (spNew cH) := by
  have h_need_item := ok_Heap_need_item (P := P) (w := w) (base := base) T
  have h_need_room := ok_Heap_need_room (P := P) (w := w) (base := base) T
  obtain ⟨f, fd, hm, F⟩ := T.d_Heap_new
  obtain ⟨oc, od, kV, doc, pm, an, cdv, ct, osl, rfl, lk, hcd⟩ := F.ex
  have R : FnR P w K mg base CX0 7 f (fun vs H Q E => ∃ ws rest, vs = ws ++ rest ∧ ws.length = 1 ∧ rest.length ≤ sizeLine ∧ ∀ p, H p = none → spNewI cH (ws ++ [V.ref p]) (upd H p (.tup rest)) Q E) := by
    refine StX.fn_star (ps := ["self"]) (pv := "items") lk hcd sc_Heap_new StX.cxUp_none (StX.bind_star1 (B := fun us => bindArgs (PySem.W.fnOf "new" "Heap.new" (defArgs s_Heap_new) (defBody s_Heap_new) (defScope s_Heap_new) .none kV doc pm an cdv ct) ⟨us, []⟩) (fun a => rfl) (fun a r rs => rfl)) fun A outer s H vs Q E hr h => ?_
    obtain ⟨h, l, p, as, c, rfl, hp, hS, h60, htot, q⟩ := h
    refine ⟨_, PSs.nox (pss_cons (ps_for PassesOwn.never rfl (pi_tup (pv 1)) (pg_name (i := 2) sc_Heap_new.nd rfl (by first | exact Or.inl rfl | exact Or.inr rfl))
      (pss_one (ps_expr (pe_mtd (pv 0) T.clH h_need_item hr (by decide) (pa_cons (pv 2) (pa_cons pe_int pa_nil))))))
    (pss_cons (ps_expr (pe_mtd (pv 0) T.clH h_need_room hr (by decide) (pa_cons pe_int (pa_cons (pe_bf call_len_seq T.f_len (pa_cons (pv 1) pa_nil)) pa_nil))))
    (pss_cons (ps_expr (pe_bm PySem.F.plainAttrs_list PySem.F.slot_list_append PySem.F.type_list_append mt_append (pe_fld (pv 0) rfl) (pa_cons (pe_bt call_list_of T.f_list (pa_cons (pv 1) pa_nil)) pa_nil)))
    (pss_one (ps_ret (pe_op op_sub (pe_bf call_len_seq T.f_len (pa_cons (pe_fld (pv 0) rfl) pa_nil)) pe_int)))))), ?_⟩
    obtain ⟨dx, e⟩ := hS.ins
    walk_at "go"
    refine ⟨⟨_, SqT.of hp⟩, ?_⟩
    refine ForW.it (walk_tup (xs := [])) (fun i σ H' => H' = H ∧ σ = [some (.ref h), some (.ref p), none]) ⟨rfl, rfl⟩ (fun i σ H' _ z => by rw [z.1]; exact SqT.of hp) (fun i x σ H1 H2 hi => absurd hi (Nat.not_lt_zero _)) ?_
    rintro σ H1 ⟨rfl, rfl⟩
    walk_at "go"
    refine ⟨_, _, _, rfl, e, rfl, ?_⟩
    walk_at "go"
    refine ⟨p, _, rfl, .inr (SqT.of hp), ?_⟩
    walk_at "go"
    refine ⟨h, l, as, c, 1, 0, rfl, hS, h60, by omega, fun H2 k2 => ?_⟩
    have S2 := hS.kp0 k2
    walk_at "go"
    refine ⟨_, _, _, _, _, rfl, k2.at0 e, T.clH, T.nH_lists, hp_lists _, ?_⟩
    refine ⟨ty_list S2.lst.1, ?_⟩
    walk_at "go"
    refine ⟨p, [], rfl, .inr (SqT.of (k2.t _ _ hp)), fun a ha => ?_⟩
    have k3 : Kp [l] H2 (upd H2 a (.lst [])) := Kp.new ha
    have S3 := S2.kp0 (Kp.new (o := .lst []) ha)
    have la := plen hS.lst.2
    walk_at "go"
    refine ⟨l, _, .ref a, rfl, rfl, S3.lst.1, by rw [List.length_map, ← la]; exact Nat.lt_of_le_of_lt (show c.length ≤ 60 by omega) (by decide), ?_⟩
    have k4 : Kp [l] (upd H2 a (.lst [])) (upd (upd H2 a (.lst [])) l (.lst (as.map V.ref ++ [.ref a]))) := Kp.wr (List.mem_singleton.mpr rfl) S3.lst.1 (fun _ z => nomatch z)
    have ala : a ≠ l := (ne_of_none S2.lst.1 ha).symm
    obtain ⟨dx3, e3⟩ := S3.ins
    have nhl : h ≠ l := ne_of e3 S3.lst.1 (fun z => nomatch z)
    walk_at "go"
    refine ⟨_, _, _, _, _, rfl, (upd_ne nhl).trans e3, T.clH, T.nH_lists, hp_lists _, ?_⟩
    walk_at "go"
    refine ⟨l, _, rfl, .inl (SqL.of upd_same), ?_⟩
    rw [List.length_append, List.length_map, ← la]
    walk_at "go"
    have ez : ((c.length + [V.ref a].length : Nat) : Int) - 1 = ((c.length : Nat) : Int) := by
      show ((c.length + 1 : Nat) : Int) - 1 = _
      omega
    rw [ez]
    refine q _ a (k2.of0.trans (k3.trans k4)) ⟨⟨dx3, (upd_ne nhl).trans e3⟩, ⟨?_, ?_⟩, ?_, ?_⟩ (k2.free (fun z => nomatch z) ha)
    · rw [upd_same, List.map_append]
      rfl
    · refine psnoc (pmapm S3.lst.2 fun r x hx z => z.kp k4 fun y => hS.nl (List.mem_singleton.mp y ▸ hx)) ⟨[], (upd_ne ala).trans upd_same, .nil⟩
    · refine List.nodup_append.mpr ⟨hS.nd, by simp, fun x hx y hy e => ?_⟩
      rw [List.mem_singleton] at hy
      subst hy
      obtain ⟨r, _, ws, e5, _⟩ := pmem S2.lst.2 hx
      rw [e, ha] at e5
      cases e5
    · intro z
      rcases List.mem_append.mp z with z | z
      · exact hS.nl z
      · exact ala (List.mem_singleton.mp z).symm
  refine ⟨f, hm, R.imp fun vs H Q E z => ?_⟩
  obtain ⟨h, l, as, c, rfl, hS, h60, htot, q⟩ := z
  refine ⟨[.ref h], [], rfl, rfl, Nat.zero_le _, fun p hp => ⟨h, l, p, as, c, rfl, upd_same, hS.kp0 (Kp.new hp), h60, htot, fun H' a k1 S1 ha => ?_⟩⟩
  exact q H' a ((Kp.new hp).trans k1) S1 ((upd_none ha).2)
end
end Rk
set_option Elab.async false
set_option linter.all false
set_option maxRecDepth 100000
set_option maxHeartbeats 1000000
/-! equality, stands, answer, word of -/
namespace Rk
open PySem PySem.Spec PyProof.Rows L2
local macro_rules | `(tactic| walk_at "go") => `(tactic| ((try dsimp only); repeat (first
  | with_reducible apply i_seq
  | ((with_reducible apply i_var); exact rfl)
  | with_reducible apply i_c
  | with_reducible apply i_cons
  | with_reducible apply i_nil
  | with_reducible apply i_call
  | with_reducible apply i_cb
  | with_reducible apply i_meth
  | with_reducible apply i_fld
  | with_reducible apply i_op
  | with_reducible apply i_rI0
  | with_reducible apply i_eqI
  | with_reducible apply i_neI
  | with_reducible apply i_eqS
  | with_reducible apply i_neS
  | with_reducible apply i_if
  | with_reducible apply i_test
  | with_reducible apply i_b
  | with_reducible apply i_bl
  | with_reducible apply i_int
  | with_reducible apply i_and
  | with_reducible apply i_or
  | with_reducible apply i_not
  | with_reducible apply i_andV
  | with_reducible apply i_orV
  | with_reducible apply i_notV
  | with_reducible apply i_ifE
  | with_reducible apply i_itt
  | with_reducible apply i_itf
  | with_reducible apply i_nt
  | with_reducible apply i_nf
  | with_reducible apply i_asg
  | with_reducible apply i_name
  | with_reducible apply i_ret
  | with_reducible apply i_retN
  | with_reducible apply i_drop
  | with_reducible apply i_next
  | with_reducible apply i_break
  | with_reducible apply i_un
  | with_reducible apply i_rU
  | with_reducible apply i_tup
  | with_reducible apply i_lst
  | with_reducible apply i_par
  | with_reducible apply i_chain
  | with_reducible apply i_gcons
  | with_reducible apply i_gnil
  | with_reducible apply i_prop
  | with_reducible apply i_make
  | ((with_reducible apply i_aug); exact rfl)
  | with_reducible apply i_ipI
  | with_reducible apply i_sl
  | with_reducible apply i_noPart
  | with_reducible apply i_part
  | with_reducible apply i_bm
  | with_reducible apply i_bm0
  | with_reducible apply i_lc
  | with_reducible apply i_for
  | with_reducible apply i_iStr
  | with_reducible apply i_iList
  | with_reducible apply i_iTup
  | with_reducible apply i_rng1
  | with_reducible apply i_rng2
  | with_reducible apply i_yes
  | with_reducible apply i_refE
  | with_reducible apply i_strE
  | with_reducible apply i_sfld
  | with_reducible apply i_dput
  | with_reducible apply i_dget
  | with_reducible apply i_din
  | with_reducible apply i_dnotin
  | with_reducible apply i_dnew
  | with_reducible apply i_augS
  | with_reducible apply i_gsub
  | with_reducible apply i_asg2
  | with_reducible apply i_disp1
  | with_reducible apply i_ar
  | with_reducible apply i_sfldaug
  | with_reducible apply i_gfld
  | with_reducible apply i_ckw
  | with_reducible apply i_rAdd
  | with_reducible apply i_par3
  | with_reducible apply i_iZip)))
def rIsF : R2 := fun x y H Q => y = .bl false ∧ ((∃ b, x = .bl b) ∨ x = .non ∨ ∃ a, x = .ref a) ∧ Q (.bl (decide (x = .bl false))) H
theorem op_isF {X : Cx} : OpR X (compareOp .Is) rIsF := by
  intro pins s σ H x y v u Q I rx ry h
  obtain ⟨rfl, hx, q⟩ := h
  cases (show u = Value.bool false from ry)
  rcases hx with ⟨b, rfl⟩ | rfl | ⟨a, rfl⟩
  · cases (show v = Value.bool b from rx)
    cases b with
    | false => exact wpAny_is_self rfl ⟨.bl true, H, I, rfl, by simpa using q⟩
    | true => exact wpAny_is_other rfl (fun z => nomatch z) ⟨.bl false, H, I, rfl, by simpa using q⟩
  · cases (show v = Value.none from rx)
    exact wpAny_is_other rfl (fun z => nomatch z) ⟨.bl false, H, I, rfl, by simpa using q⟩
  · cases (show v = Value.ref a from rx)
    exact wpAny_is_other rfl (fun z => nomatch z) ⟨.bl false, H, I, rfl, by simpa using q⟩
abbrev N_equality : List Str := ["heap", "one", "other", "verdicts"]
theorem sc_equality : FnScope N_equality ["heap", "one", "other"] (defScope s_equality) := ⟨rfl, rfl, rfl, by decide +kernel, rfl, by decide +kernel, by decide +kernel⟩
abbrev N_stands : List Str := ["one", "other", "sign"]
theorem sc_stands : FnScope N_stands ["one", "other", "sign"] (defScope s_stands) := ⟨rfl, rfl, rfl, by decide +kernel, rfl, by decide +kernel, by decide +kernel⟩
abbrev N_answer : List Str := ["one", "other", "sign"]
theorem sc_answer : FnScope N_answer ["one", "other", "sign"] (defScope s_answer) := ⟨rfl, rfl, rfl, by decide +kernel, rfl, by decide +kernel, by decide +kernel⟩
abbrev N_word_of : List Str := ["mine", "yours", "sign"]
theorem sc_word_of : FnScope N_word_of ["mine", "yours", "sign"] (defScope s_word_of) := ⟨rfl, rfl, rfl, by decide +kernel, rfl, by decide +kernel, by decide +kernel⟩
/-! ### words of an order -/
def stI (sg : Str) (a b : Int) : Bool := if sg = "<" then decide (a < b) else if sg = "<=" then decide (a ≤ b) else if sg = ">" then decide (b < a) else decide (b ≤ a)
def stW (sg : Str) (a b : Str) : Bool := if sg = "<" then decide (a.cps.toList < b.cps.toList) else if sg = "<=" then !decide (b.cps.toList < a.cps.toList) else if sg = ">" then decide (b.cps.toList < a.cps.toList) else !decide (a.cps.toList < b.cps.toList)
def yn (b : Bool) : Str := if b = true then "yes" else "no"
def woS (sg : Str) : It → It → Str
  | .i a, .i b => yn (stI sg a b)
  | .w a, .w b => yn (stW sg a b)
  | _, _ => "no order"
def anS (sg : Str) (m n : Nat) : Str := yn (stI sg m n)
/-- two ints, two texts; what stands of them -/
def Cmp2 (sg : Str) (x y : V) (b : Bool) : Prop := (∃ i j : Int, x = .int i ∧ y = .int j ∧ b = stI sg i j) ∨ ∃ i j : Str, x = .str i ∧ y = .str j ∧ b = stW sg i j
def spStands : Sp := fun vs H Q _ => ∃ (x y : V) (sg : Str) (b : Bool), vs = [x, y, .str sg] ∧ Cmp2 sg x y b ∧ Q (.bl b) H
def spAnswer : Sp := fun vs H Q _ => ∃ (x y : V) (sg : Str) (b : Bool), vs = [x, y, .str sg] ∧ Cmp2 sg x y b ∧ Q (.str (yn b)) H
def spWordOf : Sp := fun vs H Q _ => ∃ (n : Nat) (a b : It) (va vb : V) (sg : Str), vs = [va, vb, .str sg] ∧ ItV H a va ∧ ItV H b vb ∧ ItOk n a ∧ ItOk n b ∧ ∀ H', Kp [] H H' → Q (.str (woS sg a b)) H'
def spEq (cV cO cH : Addr) : Sp := fun vs H Q _ => ∃ (h l0 : Addr) (as0 : List Addr) (c : Ctn) (x y : Nat), vs = [.ref h, .int (x : Nat), .int (y : Nat)] ∧ HpS H cH h l0 as0 c ∧ Lim c ∧ x < c.length ∧ y < c.length ∧
  ∀ H' o v d l as kn D, Kp [] H H' → (∀ b ∈ [v, d], H b = none) → OutAt cV cO H' o v d l as c kn D [(0, [(x, y)])] (wdS (VV c (x, y)).w) none → Q (.ref o) H'
theorem mk_ver {cV l : Addr} {as : List Addr} {c : Ctn} {H1 : Hp} {Q : Addr → Hp → Prop} (L1 : LstsAt H1 l as c) (q : ∀ H' v d, Kp [] H1 H' → VerS H' cV v d l as c [] 0 → H1 v = none → H1 d = none → Q v H') :
    ∀ x dx, H1 x = none → H1 dx = none → dx ≠ x → spVInit cV [.ref x, .ref l] (upd (upd H1 dx (.own x)) x (.ins cV dx [])) (fun u H2 => u = .non ∧ Q x H2) E0 := by
  intro x dx hx hdx nx
  have k1 : Kp [] H1 (upd (upd H1 dx (.own x)) x (.ins cV dx [])) := (Kp.new hdx).new' ((upd_ne nx.symm).trans hx)
  refine ⟨x, l, dx, as, c, rfl, upd_same, L1.kp0 k1, fun H' d hd k2 V => ⟨rfl, q H' x d ?_ V hx (k1.free (fun z => nomatch z) hd)⟩⟩
  exact k1.via k2 fun b hb => .inr (List.mem_singleton.mp hb ▸ hx)
theorem mk_out {cV cO v d l cr : Addr} {as : List Addr} {c : Ctn} {kn : List Pr} {D : Nat} {rows : List Rw} {wd : Str} {loop : Option Nat} {H1 : Hp} {Q : Addr → Hp → Prop} (hV : VerS H1 cV v d l as c kn D) (hM : VerM c kn [] D) (hL : Lim c) (hC : CrsAt H1 rows cr) (ok : CrsOk c kn rows loop) (hf : ¬ wd = sEnd → AllFin c rows ∧ loop = none)
    (q : ∀ H' o, Kp [v, d] H1 H' → OutAt cV cO H' o v d l as c kn D rows wd loop → H1 o = none → Q o H') :
    ∀ x dx, H1 x = none → H1 dx = none → dx ≠ x → spOInit cV cO [.ref x, .str wd, .ref v, .ref cr, .non, lpV loop] (upd (upd H1 dx (.own x)) x (.ins cO dx [])) (fun u H2 => u = .non ∧ Q x H2) E0 := by
  intro x dx hx hdx nx
  have k1 : Kp [] H1 (upd (upd H1 dx (.own x)) x (.ins cO dx [])) := (Kp.new hdx).new' ((upd_ne nx.symm).trans hx)
  refine ⟨x, v, d, l, cr, dx, as, c, kn, D, rows, wd, loop, rfl, upd_same, hV.kp0 k1, hM, hL, hC.kp k1 (fun _ _ _ z => nomatch z), ok, hf, fun H' k2 O => ⟨rfl, q H' x ?_ O hx⟩⟩
  exact k1.of0.via k2 fun b hb => by
    rcases List.mem_cons.mp hb with z | z
    · exact .inr (z ▸ hx)
    · exact .inl z
theorem i_makeD {C : Addr} {sp : Sp} {dvs : List V} {E : XK} {as : TA} {σ : L2.St} {H : Hp} {Q : VK} (h : as σ H fun vs H1 => ∀ x dx, H1 x = none → H1 dx = none → dx ≠ x → sp (.ref x :: (vs ++ dvs)) (upd (upd H1 dx (.own x)) x (.ins C dx [])) (fun v H2 => v = .non ∧ Q (.ref x) H2) E) : tMake C sp dvs E as σ H Q := h
theorem vdL_0 (u : Vd) : ∃ a b d, vdL u = [.str (wdS u.w), a, b, d] := by
  obtain ⟨w, s, d, pl⟩ := u
  cases w <;> exact ⟨_, _, _, rfl⟩
section
variable {P : Program} {w : World} {K : PySem.W.Frag} {mg : Str → Option Value} {base : Heap} {cV cO cH : Addr}
theorem ok_stands (T : Txt K mg cV cO cH) : Fn0 P w K mg base 1 "stands" ["one", "other", "sign"] spStands := by
  refine T.d_stands.ok sc_stands (fun vs H Q E h => ?_) (fun _ _ _ _ _ _ us hl => match us, hl with | [_, _, _], _ => rfl) (fun f cdv A outer s H vs Q E hr h => ?_)
  · obtain ⟨_, _, _, _, rfl, _⟩ := h
    rfl
  · obtain ⟨x, y, sg, b, rfl, hc, q⟩ := h
    refine ⟨_, (pss_cons (ps_if (pt_cmpR op_eq (pv 2) pe_str (nomark _))
      (pss_one (ps_ret (pe_cmpR (op_lt.or op_lt_str) (pv 0) (pv 1) (nomark _))))
      pss_nil)
    (pss_cons (ps_if (pt_cmpR op_eq (pv 2) pe_str (nomark _))
      (pss_one (ps_ret (pe_cmpR (op_le.or op_le_str) (pv 0) (pv 1) (nomark _))))
      pss_nil)
    (pss_cons (ps_if (pt_cmpR op_eq (pv 2) pe_str (nomark _))
      (pss_one (ps_ret (pe_cmpR (op_gt.or op_gt_str) (pv 0) (pv 1) (nomark _))))
      pss_nil)
    (pss_one (ps_ret (pe_cmpR (op_ge.or op_ge_str) (pv 0) (pv 1) (nomark _))))))), ?_⟩
    walk_at "go"
    by_cases h1 : sg = "<"
    · refine iteT (decide_eq_true h1) ?_
      walk_at "go"
      rcases hc with ⟨i, j, rfl, rfl, rfl⟩ | ⟨i, j, rfl, rfl, rfl⟩
      · refine .inl ⟨i, j, rfl, rfl, ?_⟩
        unfold stI at q
        rw [if_pos h1] at q
        exact q
      · refine .inr ⟨i, j, rfl, rfl, ?_⟩
        unfold stW at q
        rw [if_pos h1] at q
        exact q
    refine iteF (decide_eq_false h1) ?_
    walk_at "go"
    by_cases h2 : sg = "<="
    · refine iteT (decide_eq_true h2) ?_
      walk_at "go"
      rcases hc with ⟨i, j, rfl, rfl, rfl⟩ | ⟨i, j, rfl, rfl, rfl⟩
      · refine .inl ⟨i, j, rfl, rfl, ?_⟩
        unfold stI at q
        rw [if_neg h1, if_pos h2] at q
        exact q
      · refine .inr ⟨i, j, rfl, rfl, ?_⟩
        unfold stW at q
        rw [if_neg h1, if_pos h2] at q
        exact q
    refine iteF (decide_eq_false h2) ?_
    walk_at "go"
    by_cases h3 : sg = ">"
    · refine iteT (decide_eq_true h3) ?_
      walk_at "go"
      rcases hc with ⟨i, j, rfl, rfl, rfl⟩ | ⟨i, j, rfl, rfl, rfl⟩
      · refine .inl ⟨i, j, rfl, rfl, ?_⟩
        unfold stI at q
        rw [if_neg h1, if_neg h2, if_pos h3] at q
        exact q
      · refine .inr ⟨i, j, rfl, rfl, ?_⟩
        unfold stW at q
        rw [if_neg h1, if_neg h2, if_pos h3] at q
        exact q
    refine iteF (decide_eq_false h3) ?_
    walk_at "go"
    rcases hc with ⟨i, j, rfl, rfl, rfl⟩ | ⟨i, j, rfl, rfl, rfl⟩
    · refine .inl ⟨i, j, rfl, rfl, ?_⟩
      unfold stI at q
      rw [if_neg h1, if_neg h2, if_neg h3] at q
      exact q
    · refine .inr ⟨i, j, rfl, rfl, ?_⟩
      unfold stW at q
      rw [if_neg h1, if_neg h2, if_neg h3] at q
      exact q
theorem ok_answer (T : Txt K mg cV cO cH) : Fn0 P w K mg base 2 "answer" ["one", "other", "sign"] spAnswer := by
  have h_stands := ok_stands (P := P) (w := w) (base := base) T
  refine T.d_answer.ok sc_answer (fun vs H Q E h => ?_) (fun _ _ _ _ _ _ us hl => match us, hl with | [_, _, _], _ => rfl) (fun f cdv A outer s H vs Q E hr h => ?_)
  · obtain ⟨_, _, _, _, rfl, _⟩ := h
    rfl
  · obtain ⟨x, y, sg, b, rfl, hc, q⟩ := h
    refine ⟨_, (pss_one (ps_ret (pe_ifExp (pt_val (pe_fn h_stands hr (by decide) rfl (pa_cons (pv 0) (pa_cons (pv 1) (pa_cons (pv 2) pa_nil))))) (pe_gs T.g_YES) (pe_gs T.g_NO)))), ?_⟩
    walk_at "go"
    refine ⟨x, y, sg, b, rfl, hc, ?_⟩
    walk_at "go"
    cases b with
    | true => exact q
    | false => exact q
theorem ok_word_of (T : Txt K mg cV cO cH) : Fn0 P w K mg base 3 "word_of" ["mine", "yours", "sign"] spWordOf := by
  have h_is_integer := ok_is_integer (P := P) (w := w) (base := base) T
  have h_is_word := ok_is_word (P := P) (w := w) (base := base) T
  have h_answer := ok_answer (P := P) (w := w) (base := base) T
  refine T.d_word_of.ok sc_word_of (fun vs H Q E h => ?_) (fun _ _ _ _ _ _ us hl => match us, hl with | [_, _, _], _ => rfl) (fun f cdv A outer s H vs Q E hr h => ?_)
  · obtain ⟨_, _, _, _, _, _, rfl, _⟩ := h
    rfl
  · obtain ⟨n, a, b, va, vb, sg, rfl, ha, hb, oa, ob, q⟩ := h
    refine ⟨_, (pss_cons (ps_if (PW.pt (pw_or (PW.pt (pw_and (pt_val (pe_fn h_is_integer hr (by decide) rfl (pa_cons (pv 0) pa_nil))) (pw_and1 (pt_val (pe_fn h_is_integer hr (by decide) rfl (pa_cons (pv 1) pa_nil)))))) (pw_or1 (PW.pt (pw_and (pt_val (pe_fn h_is_word hr (by decide) rfl (pa_cons (pv 0) pa_nil))) (pw_and1 (pt_val (pe_fn h_is_word hr (by decide) rfl (pa_cons (pv 1) pa_nil)))))))))
      (pss_one (ps_ret (pe_fn h_answer hr (by decide) rfl (pa_cons (pv 0) (pa_cons (pv 1) (pa_cons (pv 2) pa_nil))))))
      pss_nil)
    (pss_one (ps_ret (pe_gs T.g_NO_ORDER)))), ?_⟩
    have wk : ∀ {i : It} {v : V} {H : Hp}, ItV H i v → ItOk n i → ∀ s, v = .str s → OkW s := fun {i v H} h o s e => by
      cases i with
      | i m => rw [show v = .int m from h] at e; cases e
      | w z => rw [show v = .str z from h] at e; cases e; exact o
      | b m => obtain ⟨_, e2, _⟩ := h; rw [e2] at e; cases e
    walk_at "go"
    refine ⟨va, _, rfl, ha.kd, kd_ne _, ?_⟩
    walk_at "go"
    by_cases ia : kdOf a = "int"
    · refine iteT (decide_eq_true ia) ?_
      walk_at "go"
      refine ⟨vb, _, rfl, hb.kd, kd_ne _, ?_⟩
      walk_at "go"
      obtain ⟨m, rfl⟩ : ∃ m, a = .i m := by
        cases a with
        | i m => exact ⟨m, rfl⟩
        | w z => exact absurd ia (show ¬ ("str" : String) = "int" by decide)
        | b z => exact absurd ia (show ¬ ("tuple" : String) = "int" by decide)
      cases (show va = .int m from ha)
      by_cases ib : kdOf b = "int"
      · refine iteT (decide_eq_true ib) ?_
        obtain ⟨k, rfl⟩ : ∃ k, b = .i k := by
          cases b with
          | i m => exact ⟨m, rfl⟩
          | w z => exact absurd ib (show ¬ ("str" : String) = "int" by decide)
          | b z => exact absurd ib (show ¬ ("tuple" : String) = "int" by decide)
        cases (show vb = .int k from hb)
        walk_at "go"
        exact ⟨_, _, sg, _, rfl, .inl ⟨_, _, rfl, rfl, rfl⟩, q H (Kp.refl _ _)⟩
      · refine iteF (decide_eq_false ib) ?_
        walk_at "go"
        refine ⟨.int m, "int", rfl, .int m, by decide, (fun s e => nomatch e), fun H' k => ?_⟩
        walk_at "go"
        refine iteF (by decide) ?_
        walk_at "go"
        have e : woS sg (.i m) b = "no order" := by
          cases b with
          | i k => exact absurd rfl ib
          | w z => rfl
          | b z => rfl
        rw [e] at q
        exact q H' k
    · refine iteF (decide_eq_false ia) ?_
      walk_at "go"
      refine ⟨va, _, rfl, ha.kd, kd_ne _, wk ha oa, fun H1 k1 => ?_⟩
      walk_at "go"
      by_cases wa : kdOf a = "str"
      · refine iteT (decide_eq_true wa) ?_
        obtain ⟨m, rfl⟩ : ∃ m, a = .w m := by
          cases a with
          | w m => exact ⟨m, rfl⟩
          | i z => exact absurd wa (show ¬ ("int" : String) = "str" by decide)
          | b z => exact absurd wa (show ¬ ("tuple" : String) = "str" by decide)
        cases (show va = .str m from ha)
        walk_at "go"
        have hb1 := hb.kp k1
        refine ⟨vb, _, rfl, hb1.kd, kd_ne _, wk hb1 ob, fun H2 k2 => ?_⟩
        walk_at "go"
        by_cases wb : kdOf b = "str"
        · refine iteT (decide_eq_true wb) ?_
          obtain ⟨k, rfl⟩ : ∃ m, b = .w m := by
            cases b with
            | w m => exact ⟨m, rfl⟩
            | i z => exact absurd wb (show ¬ ("int" : String) = "str" by decide)
            | b z => exact absurd wb (show ¬ ("tuple" : String) = "str" by decide)
          cases (show vb = .str k from hb)
          walk_at "go"
          exact ⟨_, _, sg, _, rfl, .inr ⟨_, _, rfl, rfl, rfl⟩, q H2 (k1.trans k2)⟩
        · refine iteF (decide_eq_false wb) ?_
          walk_at "go"
          have e : woS sg (.w m) b = "no order" := by
            cases b with
            | w k => exact absurd rfl wb
            | i z => rfl
            | b z => rfl
          rw [e] at q
          exact q H2 (k1.trans k2)
      · refine iteF (decide_eq_false wa) ?_
        walk_at "go"
        have e : woS sg a b = "no order" := by
          cases a with
          | w k => exact absurd rfl wa
          | i z => exact absurd rfl ia
          | b z => cases b <;> rfl
        rw [e] at q
        exact q H1 k1
theorem ok_equality (T : Txt K mg cV cO cH) : Fn0 P w K mg base 8 "equality" ["heap", "one", "other"] (spEq cV cO cH) := by
  have h_need_box := ok_Heap_need_box (P := P) (w := w) (base := base) T
  have h_contents := ok_Heap_contents (P := P) (w := w) (base := base) T
  have h_Verdicts := ok_Verdicts_init (P := P) (w := w) (base := base) T
  have h_of_pair := ok_Verdicts_of_pair (P := P) (w := w) (base := base) T
  have h_Outcome := ok_Outcome_init (P := P) (w := w) (base := base) T
  refine T.d_equality.ok sc_equality (fun vs H Q E h => ?_) (fun _ _ _ _ _ _ us hl => match us, hl with | [_, _, _], _ => rfl) (fun f cdv A outer s H vs Q E hr h => ?_)
  · obtain ⟨_, _, _, _, _, _, rfl, _⟩ := h
    rfl
  · obtain ⟨h, l0, as0, c, x, y, rfl, hS, hL, hx, hy, q⟩ := h
    obtain ⟨dx, e⟩ := hS.ins
    refine ⟨_, (pss_cons (ps_expr (pe_mtd (pv 0) T.clH h_need_box hr (by decide) (pa_cons (pv 1) pa_nil)))
    (pss_cons (ps_expr (pe_mtd (pv 0) T.clH h_need_box hr (by decide) (pa_cons (pv 2) pa_nil)))
    (pss_cons (ps_set (i := 3) sc_equality.nd rfl (by first | exact Or.inl rfl | exact Or.inr rfl) (pe_new0 h_Verdicts hr (by decide) rfl (pa_cons (pe_mtd0 (pv 0) T.clH h_contents hr (by decide)) pa_nil)))
    (pss_one (ps_ret (pe_newO h_Outcome T.gO hr (by decide) rfl (pa_cons (pe_ix ix_tup (pe_mtd (pv 3) T.clV h_of_pair hr (by decide) (pa_cons (pe_tup (pa_cons (pv 1) (pa_cons (pv 2) pa_nil))) pa_nil)) pe_int (fun _ _ => rfl)) (pa_cons (pv 3) (pa_cons (pe_lst (pa_cons (pe_tup (pa_cons pe_int (pa_cons (pe_lst (pa_cons (pe_tup (pa_cons (pv 1) (pa_cons (pv 2) pa_nil))) pa_nil)) pa_nil))) pa_nil)) pa_nil))))))))), ?_⟩
    walk_at "go"
    refine ⟨_, _, _, rfl, e, rfl, ?_⟩
    walk_at "go"
    refine ⟨h, l0, as0, c, x, rfl, hS, hx, ?_⟩
    walk_at "go"
    refine ⟨_, _, _, rfl, e, rfl, ?_⟩
    walk_at "go"
    refine ⟨h, l0, as0, c, y, rfl, hS, hy, ?_⟩
    walk_at "go"
    refine ⟨_, _, _, rfl, e, rfl, ?_⟩
    refine ⟨h, l0, as0, c, rfl, hS, Nat.le_trans hL.n (by decide), fun H1 l as k1 L1 _ => ?_⟩
    walk_at "go"
    refine mk_ver L1 fun H2 v d k2 V2 v0 d0 => ?_
    obtain ⟨dv2, ev2⟩ := V2.ins
    walk_at "go"
    refine i_makeD ?_
    walk_at "go"
    refine ⟨_, _, _, rfl, ev2, rfl, ?_⟩
    walk_at "go"
    refine ⟨by show 2 ≤ sizeLine; decide, fun t ht => ?_⟩
    have k3 : Kp [] H2 (upd H2 t (.tup [.int (x : Nat), .int (y : Nat)])) := Kp.new ht
    walk_at "go"
    refine ⟨v, d, l, t, as, c, [], 0, (x, y), rfl, V2.kp0 k3, VerM.nil c, hL, upd_same, ⟨hx, hy⟩, fun H4 t4 kn D k4 V4 M4 ik _ _ e4 => ?_⟩
    obtain ⟨u1, u2, u3, eu⟩ := vdL_0 (VV c (x, y))
    rw [eu] at e4
    walk_at "go"
    refine i_ixT e4 rfl ?_
    walk_at "go"
    refine ⟨by show 2 ≤ sizeLine; decide, fun t5 ht5 => ?_⟩
    walk_at "go"
    refine ⟨by show 1 ≤ sizeLine; decide, fun l6 hl6 => ?_⟩
    walk_at "go"
    refine ⟨by show 2 ≤ sizeLine; decide, fun t7 ht7 => ?_⟩
    walk_at "go"
    refine ⟨by show 1 ≤ sizeLine; decide, fun cr hcr => ?_⟩
    have k5 : Kp [] H4 (upd H4 t5 (.tup [.int (x : Nat), .int (y : Nat)])) := Kp.new ht5
    have k6 : Kp [] (upd H4 t5 (.tup [.int (x : Nat), .int (y : Nat)])) _ := Kp.new (o := .lst [.ref t5]) hl6
    have k7 := Kp.new (S := []) (o := .tup [.int 0, .ref l6]) ht7
    have k8 := Kp.new (S := []) (o := .lst [.ref t7]) hcr
    have K8 := ((k5.trans k6).trans k7).trans k8
    have C8 : CrsAt _ [(0, [(x, y)])] cr := ⟨_, upd_same, .cons ⟨t7, l6, rfl, k8.t _ _ upd_same, [t5], k8.at0 (k7.at0 upd_same), .cons (((PrAt.kp (H := upd H4 t5 (.tup [.int (x : Nat), .int (y : Nat)])) (p := (x, y)) upd_same k6).kp k7).kp k8) .nil⟩ .nil⟩
    walk_at "go"
    have vd0 : ∀ b ∈ [v, d], H b = none := fun b hb => by
      rcases List.mem_cons.mp hb with z | z
      · rw [z]; exact k1.free (fun z => nomatch z) v0
      · rw [List.mem_singleton.mp z]; exact k1.free (fun z => nomatch z) d0
    have K4 : Kp [] H H4 := ((k1.trans k2).trans k3).via k4 fun b hb => .inr (vd0 b hb)
    refine mk_out (loop := none) (V4.kp0 K8) M4 hL C8 ⟨fun e ps hm q hq => ?_, fun e ps hm => ?_, by show 1 ≤ 1000; decide, fun n z => nomatch z⟩ (fun hw => ⟨fun e ps hm q hq => ?_, rfl⟩) fun H9 o k9 O9 _ => ?_
    · simp only [List.mem_singleton, Prod.mk.injEq] at hm
      rw [hm.2] at hq
      rw [List.mem_singleton.mp hq]
      exact ik
    · simp only [List.mem_singleton, Prod.mk.injEq] at hm
      rw [hm.2]
      show 1 ≤ 4
      decide
    · simp only [List.mem_singleton, Prod.mk.injEq] at hm
      rw [hm.2] at hq
      rw [List.mem_singleton.mp hq]
      have nw : ¬ (VV c (x, y)).w = .en := fun z => hw (by rw [z]; rfl)
      exact ⟨_, by rw [V_fix, (vdL_fi nw).2.1]⟩
    · exact q H9 o v d l as kn D ((K4.trans K8).via k9 fun b hb => .inr (vd0 b hb)) vd0 O9
end
end Rk
set_option Elab.async false
set_option linter.all false
set_option maxRecDepth 100000
set_option maxHeartbeats 1000000
/-! first unlike -/
namespace Rk
open PySem PySem.Spec PyProof.Rows L2
local macro_rules | `(tactic| walk_at "go") => `(tactic| ((try dsimp only); repeat (first
  | with_reducible apply i_seq
  | ((with_reducible apply i_var); exact rfl)
  | with_reducible apply i_c
  | with_reducible apply i_cons
  | with_reducible apply i_nil
  | with_reducible apply i_call
  | with_reducible apply i_cb
  | with_reducible apply i_meth
  | with_reducible apply i_fld
  | with_reducible apply i_op
  | with_reducible apply i_rI0
  | with_reducible apply i_eqI
  | with_reducible apply i_neI
  | with_reducible apply i_eqS
  | with_reducible apply i_neS
  | with_reducible apply i_if
  | with_reducible apply i_test
  | with_reducible apply i_b
  | with_reducible apply i_bl
  | with_reducible apply i_int
  | with_reducible apply i_and
  | with_reducible apply i_or
  | with_reducible apply i_not
  | with_reducible apply i_andV
  | with_reducible apply i_orV
  | with_reducible apply i_notV
  | with_reducible apply i_ifE
  | with_reducible apply i_itt
  | with_reducible apply i_itf
  | with_reducible apply i_nt
  | with_reducible apply i_nf
  | with_reducible apply i_asg
  | with_reducible apply i_name
  | with_reducible apply i_ret
  | with_reducible apply i_retN
  | with_reducible apply i_drop
  | with_reducible apply i_next
  | with_reducible apply i_break
  | with_reducible apply i_un
  | with_reducible apply i_rU
  | with_reducible apply i_tup
  | with_reducible apply i_lst
  | with_reducible apply i_par
  | with_reducible apply i_chain
  | with_reducible apply i_gcons
  | with_reducible apply i_gnil
  | with_reducible apply i_prop
  | with_reducible apply i_make
  | ((with_reducible apply i_aug); exact rfl)
  | with_reducible apply i_ipI
  | with_reducible apply i_sl
  | with_reducible apply i_noPart
  | with_reducible apply i_part
  | with_reducible apply i_bm
  | with_reducible apply i_bm0
  | with_reducible apply i_lc
  | with_reducible apply i_for
  | with_reducible apply i_iStr
  | with_reducible apply i_iList
  | with_reducible apply i_iTup
  | with_reducible apply i_rng1
  | with_reducible apply i_rng2
  | with_reducible apply i_yes
  | with_reducible apply i_refE
  | with_reducible apply i_strE
  | with_reducible apply i_sfld
  | with_reducible apply i_dput
  | with_reducible apply i_dget
  | with_reducible apply i_din
  | with_reducible apply i_dnotin
  | with_reducible apply i_dnew
  | with_reducible apply i_augS
  | with_reducible apply i_gsub
  | with_reducible apply i_asg2
  | with_reducible apply i_disp1
  | with_reducible apply i_ar
  | with_reducible apply i_sfldaug
  | with_reducible apply i_gfld
  | with_reducible apply i_ckw
  | with_reducible apply i_rAdd
  | with_reducible apply i_par3
  | with_reducible apply i_iZip)))
abbrev N_first_unlike : List Str := ["verdicts", "one", "other", "pairs", "mine", "yours", "pair", "word"]
theorem sc_first_unlike : FnScope N_first_unlike ["verdicts", "one", "other"] (defScope s_first_unlike) := ⟨rfl, rfl, rfl, by decide +kernel, rfl, by decide +kernel, by decide +kernel⟩
theorem fuS_same {f : Pr → Option Fv} {a b : It} {r : List (It × It)} (hp : pairOf a b = none) (e : a = b) : fuS f ((a, b) :: r) = fuS f r := by
  conv => lhs; unfold fuS
  simp only [hp, if_pos e]
theorem fuS_leaf {f : Pr → Option Fv} {a b : It} {r : List (It × It)} (hp : pairOf a b = none) (e : ¬ a = b) : fuS f ((a, b) :: r) = ([], some (some (a, b))) := by
  conv => lhs; unfold fuS
  simp only [hp, if_neg e]
theorem fuS_en {f : Pr → Option Fv} {a b : It} {q : Pr} {r : List (It × It)} (hp : pairOf a b = some q) (h : f q = none) : fuS f ((a, b) :: r) = ([q], none) := by
  conv => lhs; unfold fuS
  simp only [hp, h]
theorem fuS_un {f : Pr → Option Fv} {a b : It} {q : Pr} {v : Fv} {r : List (It × It)} (hp : pairOf a b = some q) (h : f q = some v) (hu : v.un = true) : fuS f ((a, b) :: r) = ([q], some (some (a, b))) := by
  conv => lhs; unfold fuS
  simp only [hp, h, if_pos hu]
theorem fuS_eq {f : Pr → Option Fv} {a b : It} {q : Pr} {v : Fv} {r : List (It × It)} (hp : pairOf a b = some q) (h : f q = some v) (hu : ¬ v.un = true) : fuS f ((a, b) :: r) = (q :: (fuS f r).1, (fuS f r).2) := by
  conv => lhs; unfold fuS
  simp only [hp, h, if_neg hu]
/-- what stands for the unlike items -/
def ResV (H : Hp) (r : Option (Option (It × It))) (x : V) : Prop := match r with
  | none => x = .bl false
  | some none => x = .non
  | some (some p) => ∃ t va vb, x = .ref t ∧ H t = some (.tup [va, vb]) ∧ ItV H p.1 va ∧ ItV H p.2 vb
def spFirst (cV : Addr) : Sp := fun vs H Q _ => ∃ (v d l : Addr) (as : List Addr) (c : Ctn) (kn : List Pr) (D : Nat) (p : Pr), vs = [.ref v, .int (p.1 : Nat), .int (p.2 : Nat)] ∧ VerS H cV v d l as c kn D ∧ VerM c kn [] D ∧ Lim c ∧ (p.1 < c.length ∧ p.2 < c.length) ∧
  ∀ H' t lp kn' D' x, Kp [v, d] H H' → VerS H' cV v d l as c kn' D' → VerM c kn' [] D' → (∀ q ∈ kn, q ∈ kn') → H' t = some (.tup [.ref lp, x]) → PrsAt H' (fuS (Vc c) (zp c p)).1 lp → (∀ q ∈ (fuS (Vc c) (zp c p)).1, q ∈ kn') → ResV H' (fuS (Vc c) (zp c p)).2 x → (fuS (Vc c) (zp c p)).1.length ≤ 4 → H lp = none → Q (.ref t) H'
section
variable {P : Program} {w : World} {K : PySem.W.Frag} {mg : Str → Option Value} {base : Heap} {cV cO cH : Addr}
theorem ok_first_unlike (T : Txt K mg cV cO cH) : Fn0 P w K mg base 5 "first_unlike" ["verdicts", "one", "other"] (spFirst cV) := by
  have h_pair_of := ok_pair_of (P := P) (w := w) (base := base) T
  have h_of_pair := ok_Verdicts_of_pair (P := P) (w := w) (base := base) T
  refine T.d_first_unlike.ok sc_first_unlike (fun vs H Q E h => ?_) (fun _ _ _ _ _ _ us hl => match us, hl with | [_, _, _], _ => rfl) (fun f cdv A outer s H vs Q E hr h => ?_)
  · obtain ⟨_, _, _, _, _, _, _, _, rfl, _⟩ := h
    rfl
  · obtain ⟨v, d, l, as, c, kn, D, p, rfl, hV, hM, hL, rp, q⟩ := h
    obtain ⟨dv, ev⟩ := hV.ins
    obtain ⟨kvs, ed, _⟩ := hV.dct
    obtain ⟨ax, ex, vx, evx, px⟩ := hV.lst.row rp.1
    obtain ⟨ay, ey, vy, evy, py⟩ := hV.lst.row rp.2
    have lx := plen px
    have ly := plen py
    refine ⟨_, (pss_cons (ps_set (i := 3) sc_first_unlike.nd rfl (by first | exact Or.inl rfl | exact Or.inr rfl) (pe_lst pa_nil))
    (pss_cons (ps_for PassesOwn.never rfl (pi_zip rfl T.f_zip (pa_cons (pe_ix ix_list (pe_fld (pv 0) rfl) (pv 1) (fun _ _ => rfl)) (pa_cons (pe_ix ix_list (pe_fld (pv 0) rfl) (pv 2) (fun _ _ => rfl)) pa_nil))) (pg_tup rfl (pgs_cons (pg_name (i := 4) sc_first_unlike.nd rfl (by first | exact Or.inl rfl | exact Or.inr rfl)) (pgs_cons (pg_name (i := 5) sc_first_unlike.nd rfl (by first | exact Or.inl rfl | exact Or.inr rfl)) pgs_nil)))
      (pss_cons (ps_set (i := 6) sc_first_unlike.nd rfl (by first | exact Or.inl rfl | exact Or.inr rfl) (pe_fn h_pair_of hr (by decide) rfl (pa_cons (pv 4) (pa_cons (pv 5) pa_nil))))
      (pss_one (ps_if (pt_cmpR op_notN (pv 6) pe_non (nomark _))
        (pss_cons (ps_expr (pe_bm PySem.F.plainAttrs_list PySem.F.slot_list_append PySem.F.type_list_append mt_append (pv 3) (pa_cons (pv 6) pa_nil)))
        (pss_cons (ps_set (i := 7) sc_first_unlike.nd rfl (by first | exact Or.inl rfl | exact Or.inr rfl) (pe_ix ix_tup (pe_mtd (pv 0) T.clV h_of_pair hr (by decide) (pa_cons (pv 6) pa_nil)) pe_int (fun _ _ => rfl)))
        (pss_cons (ps_if (pt_cmpR op_eq (pv 7) (pe_gs T.g_ENDLESS) (nomark _))
          (pss_one (ps_ret (pe_tup (pa_cons (pv 3) (pa_cons pe_bl pa_nil)))))
          pss_nil)
        (pss_one (ps_if (pt_cmpR op_ne (pv 7) (pe_gs T.g_EQUAL) (nomark _))
          (pss_one (ps_ret (pe_tup (pa_cons (pv 3) (pa_cons (pe_tup (pa_cons (pv 4) (pa_cons (pv 5) pa_nil))) pa_nil)))))
          pss_nil)))))
        (pss_one (ps_if (pt_cmpR (op_neD hr.units) (pv 4) (pv 5) (nomark _))
          (pss_one (ps_ret (pe_tup (pa_cons (pv 3) (pa_cons (pe_tup (pa_cons (pv 4) (pa_cons (pv 5) pa_nil))) pa_nil)))))
          pss_nil))))))
    (pss_one (ps_ret (pe_tup (pa_cons (pv 3) (pa_cons pe_non pa_nil))))))), ?_⟩
    walk_at "go"
    refine ⟨Nat.zero_le _, fun lp hlp => ?_⟩
    have k0 : Kp [] H (upd H lp (.lst [])) := Kp.new hlp
    walk_at "go"
    refine ⟨_, _, _, _, _, rfl, k0.at0 ev, T.clV, T.nV_lists, vf_lists _ _ _, ?_⟩
    walk_at "go"
    refine i_ixL (k0.at0 hV.lst.1) (atI_nat (by rw [List.getElem?_map, ex]; rfl)) ?_
    walk_at "go"
    refine ⟨_, _, _, _, _, rfl, k0.at0 ev, T.clV, T.nV_lists, vf_lists _ _ _, ?_⟩
    walk_at "go"
    refine i_ixL (k0.at0 hV.lst.1) (atI_nat (by rw [List.getElem?_map, ey]; rfl)) ?_
    refine ⟨ax, ay, vx, vy, rfl, SqL.of (k0.at0 evx), SqL.of (k0.at0 evy), ?_⟩
    have hvx := hV.nl _ _ evx
    have hvy := hV.nl _ _ evy
    have xv : ∃ o, H v = some o := ⟨_, ev⟩
    have xd : ∃ o, H d = some o := ⟨_, ed⟩
    have xl : ∃ o, H l = some o := ⟨_, hV.lst.1⟩
    have xa : ∀ a ∈ as, ∃ o, H a = some o := fun a hx => (hV.rowL hx).elim fun xs e => ⟨_, e⟩
    have hn4 : vx.length ≤ 4 := by rw [← lx]; exact hL.m _
    have e_lp : (upd H lp (.lst [])) lp = some (.lst []) := upd_same
    have V0 := hV.kp0 k0
    generalize hH0 : upd H lp (.lst []) = H0 at k0 e_lp V0
    have fin : ∀ (H1 : Hp) (ps : List Pr) (ts : List Addr) (kn' : List Pr) (D' : Nat) (x : V) (r : Option (Option (It × It))), fuS (Vc c) (zp c p) = (ps, r) → Kp [v, d] H H1 → VerS H1 cV v d l as c kn' D' → VerM c kn' [] D' → (∀ q ∈ kn, q ∈ kn') → H1 lp = some (.lst (ts.map V.ref)) →
        Paired (fun q t => PrAt H1 t q) ps ts → (∀ q ∈ ps, q ∈ kn') → ps.length ≤ 4 → ResV H1 r x → ∀ t, H1 t = none → Q (.ref t) (upd H1 t (.tup [.ref lp, x])) := by
      intro H1 ps ts kn' D' x r hfu k1 V1 M1 sub el pt ip hl4 hr t ht
      have k2 : Kp [] H1 (upd H1 t (.tup [.ref lp, x])) := Kp.new ht
      have r2 : ResV (upd H1 t (.tup [.ref lp, x])) r x := by
        match r, hr with
        | none, hr => exact hr
        | some none, hr => exact hr
        | some (some p2), ⟨t2, va, vb, e1, e2, e3, e4⟩ => exact ⟨t2, va, vb, e1, k2.t _ _ e2, e3.kp k2, e4.kp k2⟩
      refine q _ t lp kn' D' x (k1.trans k2.of0) (V1.kp0 k2) M1 sub upd_same ?_ ?_ ?_ ?_ hlp
      · rw [hfu]
        exact PrsAt.kp ⟨ts, el, pt⟩ k2 (fun z => nomatch z)
      · rw [hfu]; exact ip
      · rw [hfu]; exact r2
      · rw [hfu]; exact hl4
    have lz : (zp c p).length = min vx.length vy.length := by unfold zp; rw [List.length_zip, lx, ly]
    refine ForW.it (walk_zip (n := min vx.length vy.length) rfl) (fun i σ H' => ∃ z4 z5 z6 z7 kn' D' ps ts, σ = [some (.ref v), some (.int p.1), some (.int p.2), some (.ref lp), z4, z5, z6, z7] ∧ Kp [v, d] H H' ∧ VerS H' cV v d l as c kn' D' ∧ VerM c kn' [] D' ∧ (∀ q ∈ kn, q ∈ kn') ∧ H' lp = some (.lst (ts.map V.ref)) ∧
      Paired (fun q t => PrAt H' t q) ps ts ∧ (∀ q ∈ ps, q ∈ kn') ∧ ps.length ≤ i ∧ fuS (Vc c) (zp c p) = (ps ++ (fuS (Vc c) ((zp c p).drop i)).1, (fuS (Vc c) ((zp c p).drop i)).2))
      ⟨_, _, _, _, kn, D, [], [], rfl, k0.of0, V0, hM, fun _ z => z, e_lp, .nil, (fun _ z => nomatch z), Nat.le_refl _, rfl⟩ (fun i σ H' _ z => ?_) ?_ ?_
    · obtain ⟨_, _, _, _, _, _, _, _, _, z, _⟩ := z
      exact ⟨SqL.of (z.k _ _ hvx evx), SqL.of (z.k _ _ hvy evy)⟩
    · rintro i x σ H1 H2 hi ⟨z4, z5, z6, z7, kn', D', ps, ts, rfl, k1, V1, M1, sub, el, pt, ip, hpl, hfu⟩ ⟨t0, va, vb, rfl, ht0, rfl, eva, evb⟩
      obtain ⟨a, ea, iva⟩ := pgetR px eva
      obtain ⟨b, eb, ivb⟩ := pgetR py evb
      have oa := hL.ok p.1 _ (List.mem_of_getElem? ea)
      have ob := hL.ok p.2 _ (List.mem_of_getElem? eb)
      have ed2 := drop_at (zp_at ea eb)
      rw [ed2] at hfu
      have k2 : Kp [] H1 (upd H1 t0 (.tup [va, vb])) := Kp.new ht0
      have K2 := k1.trans k2.of0
      have V2 := V1.kp0 k2
      have el2 := k2.at0 el
      have pt2 : Paired (fun q t => PrAt (upd H1 t0 (.tup [va, vb])) t q) ps ts := pmap pt fun _ _ z => PrAt.kp z k2
      have et0 : (upd H1 t0 (.tup [va, vb])) t0 = some (.tup [va, vb]) := upd_same
      generalize upd H1 t0 (.tup [va, vb]) = H2 at k2 K2 V2 el2 pt2 et0
      have ia2 := iva.kp K2
      have ib2 := ivb.kp K2
      walk_at "go"
      refine ⟨t0, _, rfl, SqT.of et0, rfl, ?_⟩
      walk_at "go"
      refine ⟨c.length, a, b, va, vb, rfl, ia2, ib2, oa, ob, ?_⟩
      cases hp : pairOf a b with
      | none =>
        refine PairQ.none ?_
        walk_at "go"
        refine iteF (by rw [dnn]; rfl) ?_
        walk_at "go"
        refine ⟨_, _, ia2.dp, ib2.dp, dt_shaped a oa, dt_shaped b ob, ?_⟩
        rw [dt_eqv]
        walk_at "go"
        by_cases e : a = b
        · refine iteF (by rw [decide_eq_true e]; rfl) ?_
          walk_at "go"
          rw [fuS_same hp e] at hfu
          exact ⟨_, _, _, _, kn', D', ps, ts, rfl, K2, V2, M1, sub, el2, pt2, ip, Nat.le_succ_of_le hpl, hfu⟩
        · refine iteT (by rw [decide_eq_false e]; rfl) ?_
          walk_at "go"
          rw [fuS_leaf hp e, List.append_nil] at hfu
          refine ⟨by show 2 ≤ sizeLine; decide, fun t2 ht2 => ?_⟩
          have k3 : Kp [] H2 (upd H2 t2 (.tup [va, vb])) := Kp.new ht2
          walk_at "go"
          refine ⟨by show 2 ≤ sizeLine; decide, fun t3 ht3 => ?_⟩
          exact fin _ ps ts kn' D' (.ref t2) _ hfu (K2.trans k3.of0) (V2.kp0 k3) M1 sub (k3.at0 el2) (pmap pt2 fun _ _ z => PrAt.kp z k3) ip (by omega) ⟨t2, va, vb, rfl, upd_same, ia2.kp k3, ib2.kp k3⟩ t3 ht3
      | some q1 =>
        refine PairQ.some fun b1 hb1 => ?_
        have k3 : Kp [] H2 (upd H2 b1 (.tup [.int q1.1, .int q1.2])) := Kp.new hb1
        have el3 := k3.at0 el2
        have hq3 : PrAt (upd H2 b1 (.tup [.int q1.1, .int q1.2])) b1 q1 := upd_same
        obtain ⟨r1, r2, r3⟩ := pairOf_some hp
        have rq : q1.1 < c.length ∧ q1.2 < c.length := by
          rw [r1] at oa
          rw [r2] at ob
          exact ⟨oa, ob⟩
        walk_at "go"
        refine iteT (by rw [drn]; rfl) ?_
        walk_at "go"
        refine ⟨ty_list el3, ?_⟩
        walk_at "go"
        have lts := plen pt
        refine ⟨lp, _, .ref b1, rfl, rfl, el3, by rw [List.length_map, ← lts]; exact Nat.lt_of_le_of_lt (show ps.length ≤ 4 by omega) (by decide), ?_⟩
        have k4 : Kp [lp] (upd H2 b1 (.tup [.int q1.1, .int q1.2])) (upd (upd H2 b1 (.tup [.int q1.1, .int q1.2])) lp (.lst (ts.map V.ref ++ [.ref b1]))) := Kp.wr (List.mem_singleton.mpr rfl) el3 (fun _ z => nomatch z)
        have K4 := (K2.trans k3.of0).via k4 fun x hx => .inr (List.mem_singleton.mp hx ▸ hlp)
        have V4 := (V2.kp0 k3).new1 k4 hlp xv xd xl xa
        have el4 : (upd (upd H2 b1 (.tup [.int q1.1, .int q1.2])) lp (.lst (ts.map V.ref ++ [.ref b1]))) lp = some (.lst ((ts ++ [b1]).map V.ref)) := by rw [upd_same, List.map_append]; rfl
        have pt4 : Paired (fun q t => PrAt (upd (upd H2 b1 (.tup [.int q1.1, .int q1.2])) lp (.lst (ts.map V.ref ++ [.ref b1]))) t q) (ps ++ [q1]) (ts ++ [b1]) := psnoc (pmap pt2 fun _ _ z => (PrAt.kp z k3).kp k4) (hq3.kp k4)
        have hq4 := hq3.kp k4
        have ia4 := (ia2.kp k3).kp k4
        have ib4 := (ib2.kp k3).kp k4
        generalize upd (upd H2 b1 (.tup [.int q1.1, .int q1.2])) lp (.lst (ts.map V.ref ++ [.ref b1])) = H4 at k4 K4 V4 el4 pt4 hq4 ia4 ib4
        obtain ⟨dv4, ev4⟩ := V4.ins
        walk_at "go"
        refine ⟨_, _, _, rfl, ev4, rfl, ?_⟩
        walk_at "go"
        refine ⟨v, d, l, b1, as, c, kn', D', q1, rfl, V4, M1, hL, hq4, rq, fun H5 t5 kn5 D5 k5 V5 M5 iq sub5 _ e5 => ?_⟩
        obtain ⟨u1, u2, u3, eu⟩ := vdL_0 (VV c q1)
        rw [eu] at e5
        obtain ⟨dv5, ev5⟩ := V5.ins
        obtain ⟨kv5, ed5, _⟩ := V5.dct
        have nlp : ¬ lp ∈ [v, d] := V4.nl _ _ el4
        have el5 := k5.k _ _ nlp el4
        have pt5 : Paired (fun q t => PrAt H5 t q) (ps ++ [q1]) (ts ++ [b1]) := pmap pt4 fun _ _ z => PrAt.kp z k5
        have K5 := K4.trans k5
        have ip5 : ∀ q ∈ ps ++ [q1], q ∈ kn5 := fun q hq => by
          rcases List.mem_append.mp hq with hq | hq
          · exact sub5 q (ip q hq)
          · rw [List.mem_singleton.mp hq]; exact iq
        have sub6 : ∀ q ∈ kn, q ∈ kn5 := fun q hq => sub5 q (sub q hq)
        have pl4 : (ps ++ [q1]).length ≤ 4 := by rw [List.length_append, List.length_singleton]; omega
        have pl5 : (ps ++ [q1]).length ≤ i + 1 := by rw [List.length_append, List.length_singleton]; omega
        walk_at "go"
        refine i_ixT e5 rfl ?_
        walk_at "go"
        cases hw : (VV c q1).w with
        | en =>
          have vn : Vc c q1 = none := by rw [V_fix, (vdL_en hw).2]
          rw [fuS_en hp vn] at hfu
          refine iteT (by decide +kernel) ?_
          walk_at "go"
          refine ⟨by show 2 ≤ sizeLine; decide, fun t3 ht3 => ?_⟩
          exact fin _ _ _ kn5 D5 (.bl false) _ hfu K5 V5 M5 sub6 el5 pt5 ip5 pl4 rfl t3 ht3
        | un =>
          have vn : Vc c q1 = some ⟨true, (VV c q1).s, (VV c q1).d⟩ := by rw [V_fix, (vdL_fi (by rw [hw]; decide)).2.1, hw]; rfl
          rw [fuS_un hp vn rfl] at hfu
          refine iteF (by decide +kernel) ?_
          walk_at "go"
          refine iteT (by decide +kernel) ?_
          walk_at "go"
          refine ⟨by show 2 ≤ sizeLine; decide, fun t2 ht2 => ?_⟩
          have k6 : Kp [] H5 (upd H5 t2 (.tup [va, vb])) := Kp.new ht2
          walk_at "go"
          refine ⟨by show 2 ≤ sizeLine; decide, fun t3 ht3 => ?_⟩
          exact fin _ _ _ kn5 D5 (.ref t2) _ hfu (K5.trans k6.of0) (V5.kp0 k6) M5 sub6 (k6.at0 el5) (pmap pt5 fun _ _ z => PrAt.kp z k6) ip5 pl4 ⟨t2, va, vb, rfl, upd_same, (ia4.kp k5).kp k6, (ib4.kp k5).kp k6⟩ t3 ht3
        | eq =>
          have vn : Vc c q1 = some ⟨false, (VV c q1).s, (VV c q1).d⟩ := by rw [V_fix, (vdL_fi (by rw [hw]; decide)).2.1, hw]; rfl
          rw [fuS_eq hp vn (show ¬ false = true by decide)] at hfu
          refine iteF (by decide +kernel) ?_
          walk_at "go"
          refine iteF (by decide +kernel) ?_
          walk_at "go"
          exact ⟨_, _, _, _, kn5, D5, ps ++ [q1], ts ++ [b1], rfl, K5, V5, M5, sub6, el5, pt5, ip5, pl5, by rw [hfu]; simp⟩
    · rintro σ H1 ⟨z4, z5, z6, z7, kn', D', ps, ts, rfl, k1, V1, M1, sub, el, pt, ip, hpl, hfu⟩
      have hd : (zp c p).drop (min vx.length vy.length) = [] := List.drop_eq_nil_of_le (by rw [lz]; exact Nat.le_refl _)
      rw [hd] at hfu
      have hfu2 : fuS (Vc c) (zp c p) = (ps, some none) := by rw [hfu]; unfold fuS; simp
      walk_at "go"
      refine ⟨by show 2 ≤ sizeLine; decide, fun t3 ht3 => ?_⟩
      exact fin _ ps ts kn' D' .non _ hfu2 k1 V1 M1 sub el pt ip (by omega) rfl t3 ht3
end
end Rk
set_option Elab.async false
set_option linter.all false
set_option maxRecDepth 100000
set_option maxHeartbeats 1000000
/-! decided, ordering -/
namespace Rk
open PySem PySem.Spec PyProof.Rows L2
local macro_rules | `(tactic| walk_at "go") => `(tactic| ((try dsimp only); repeat (first
  | with_reducible apply i_seq
  | ((with_reducible apply i_var); exact rfl)
  | with_reducible apply i_c
  | with_reducible apply i_cons
  | with_reducible apply i_nil
  | with_reducible apply i_call
  | with_reducible apply i_cb
  | with_reducible apply i_meth
  | with_reducible apply i_fld
  | with_reducible apply i_op
  | with_reducible apply i_rI0
  | with_reducible apply i_eqI
  | with_reducible apply i_neI
  | with_reducible apply i_eqS
  | with_reducible apply i_neS
  | with_reducible apply i_if
  | with_reducible apply i_test
  | with_reducible apply i_b
  | with_reducible apply i_bl
  | with_reducible apply i_int
  | with_reducible apply i_and
  | with_reducible apply i_or
  | with_reducible apply i_not
  | with_reducible apply i_andV
  | with_reducible apply i_orV
  | with_reducible apply i_notV
  | with_reducible apply i_ifE
  | with_reducible apply i_itt
  | with_reducible apply i_itf
  | with_reducible apply i_nt
  | with_reducible apply i_nf
  | with_reducible apply i_asg
  | with_reducible apply i_name
  | with_reducible apply i_ret
  | with_reducible apply i_retN
  | with_reducible apply i_drop
  | with_reducible apply i_next
  | with_reducible apply i_break
  | with_reducible apply i_un
  | with_reducible apply i_rU
  | with_reducible apply i_tup
  | with_reducible apply i_lst
  | with_reducible apply i_par
  | with_reducible apply i_chain
  | with_reducible apply i_gcons
  | with_reducible apply i_gnil
  | with_reducible apply i_prop
  | with_reducible apply i_make
  | ((with_reducible apply i_aug); exact rfl)
  | with_reducible apply i_ipI
  | with_reducible apply i_sl
  | with_reducible apply i_noPart
  | with_reducible apply i_part
  | with_reducible apply i_bm
  | with_reducible apply i_bm0
  | with_reducible apply i_lc
  | with_reducible apply i_for
  | with_reducible apply i_iStr
  | with_reducible apply i_iList
  | with_reducible apply i_iTup
  | with_reducible apply i_rng1
  | with_reducible apply i_rng2
  | with_reducible apply i_yes
  | with_reducible apply i_refE
  | with_reducible apply i_strE
  | with_reducible apply i_sfld
  | with_reducible apply i_dput
  | with_reducible apply i_dget
  | with_reducible apply i_din
  | with_reducible apply i_dnotin
  | with_reducible apply i_dnew
  | with_reducible apply i_augS
  | with_reducible apply i_gsub
  | with_reducible apply i_asg2
  | with_reducible apply i_disp1
  | with_reducible apply i_ar
  | with_reducible apply i_sfldaug
  | with_reducible apply i_gfld
  | with_reducible apply i_ckw
  | with_reducible apply i_rAdd
  | with_reducible apply i_par3
  | with_reducible apply i_iZip)))
abbrev N_decided : List Str := ["heap", "one", "other", "sign", "verdicts", "course", "ordered", "pairs", "items", "word", "mine", "yours"]
theorem sc_decided : FnScope N_decided ["heap", "one", "other", "sign"] (defScope s_decided) := ⟨rfl, rfl, rfl, by decide +kernel, rfl, by decide +kernel, by decide +kernel⟩
abbrev N_ordering : List Str := ["heap", "one", "other", "sign"]
theorem sc_ordering : FnScope N_ordering ["heap", "one", "other", "sign"] (defScope s_ordering) := ⟨rfl, rfl, rfl, by decide +kernel, rfl, by decide +kernel, by decide +kernel⟩
theorem i_makeK {C : Addr} {n m : Nat} {sp : Sp} {gV : List V → List V → List V} {E : XK} {t tk : TA} {σ : L2.St} {H : Hp} {Q : VK} (h : t σ H fun vs H1 => tk σ H1 fun zs H2 => vs.length = n ∧ zs.length = m ∧ ∀ x dx, H2 x = none → H2 dx = none → dx ≠ x →
  sp (gV (.ref x :: vs) zs) (upd (upd H2 dx (.own x)) x (.ins C dx [])) (fun v H3 => v = .non ∧ Q (.ref x) H3) E) : tMakeK C n m sp gV E t tk σ H Q := h
def spDecided (cV cO cH : Addr) : Sp := fun vs H Q _ => ∃ (h l0 : Addr) (as0 : List Addr) (c : Ctn) (x y : Nat) (sg : Str), vs = [.ref h, .int (x : Nat), .int (y : Nat), .str sg] ∧ HpS H cH h l0 as0 c ∧ Lim c ∧ x < c.length ∧ y < c.length ∧
  ∀ H' t o iv v d l as kn D rows wd loop, Kp [] H H' → (∀ b ∈ v :: d :: l :: as, H b = none) → H' t = some (.tup [.ref o, iv]) → OutAt cV cO H' o v d l as c kn D rows wd loop → Ch c (woS sg) (anS sg) [] (x, y) wd rows loop → Q (.ref t) H'
def spOrd (cV cO cH : Addr) : Sp := fun vs H Q _ => ∃ (h l0 : Addr) (as0 : List Addr) (c : Ctn) (x y : Nat) (sg : Str), vs = [.ref h, .int (x : Nat), .int (y : Nat), .str sg] ∧ sg ∈ (["<", "<=", ">", ">="] : List Str) ∧ HpS H cH h l0 as0 c ∧ Lim c ∧ x < c.length ∧ y < c.length ∧
  ∀ H' o v d l as kn D rows wd loop, Kp [] H H' → (∀ b ∈ v :: d :: l :: as, H b = none) → OutAt cV cO H' o v d l as c kn D rows wd loop → Ch c (woS sg) (anS sg) [] (x, y) wd rows loop → Q (.ref o) H'
structure DecI (cV : Addr) (H : Hp) (v d l cr od : Addr) (as : List Addr) (c : Ctn) (wo : It → It → Str) (an : Nat → Nat → Str) (p0 : Pr) (H' : Hp) (kn : List Pr) (D : Nat) (p : Pr) (seen : List Pr) (rows : List Rw) (xs : List V) (kvs : List (List Key × V)) : Prop where
  kp : Kp [] H H'
  hV : VerS H' cV v d l as c kn D
  hM : VerM c kn [] D
  rp : p.1 < c.length ∧ p.2 < c.length
  ec : H' cr = some (.lst xs)
  pc : Paired (RowC H') rows xs
  eo : H' od = some (.dT kvs)
  pk : PKey (fun q v => v = .int ((seen.idxOf q : Nat) : Int)) seen kvs
  nd : seen.Nodup
  rs : ∀ q ∈ seen, q.1 < c.length ∧ q.2 < c.length
  rl : rows.length = seen.length
  hk : ∀ e ps, (e, ps) ∈ rows → ∀ q ∈ ps, q ∈ kn
  h4 : ∀ e ps, (e, ps) ∈ rows → ps.length ≤ 4
  ch : ∀ wd rows' loop, Ch c wo an seen p wd rows' loop → Ch c wo an [] p0 wd (rows ++ rows') loop
theorem DecI.le {cV : Addr} {H : Hp} {v d l cr od : Addr} {as : List Addr} {c : Ctn} {wo : It → It → Str} {an : Nat → Nat → Str} {p0 : Pr} {H' : Hp} {kn : List Pr} {D : Nat} {p : Pr} {seen : List Pr} {rows : List Rw} {xs : List V} {kvs : List (List Key × V)} (I : DecI cV H v d l cr od as c wo an p0 H' kn D p seen rows xs kvs) (L : Lim c) : seen.length ≤ 484 :=
  Nat.le_trans (nodup_pr_le (N := c.length) I.nd I.rs) (Nat.mul_le_mul L.n L.n)
/-- the rows do not lie at the course itself -/
theorem rows_wr {H : Hp} {cr : Addr} {rows : List Rw} {xs : List V} {o : HO} (ec : H cr = some (.lst xs)) (pc : Paired (RowC H) rows xs) : Paired (RowC (upd H cr o)) rows xs := by
  have k : Kp [cr] H (upd H cr o) := Kp.wr (List.mem_singleton.mpr rfl) ec (fun _ z => nomatch z)
  refine pmapm pc fun r x hx h => ?_
  obtain ⟨t, lp, rfl, h1, ts, h2, h3⟩ := h
  refine ⟨t, lp, rfl, k.t _ _ h1, PrsAt.kp ⟨ts, h2, h3⟩ k fun z => ?_⟩
  rw [List.mem_singleton] at z
  subst z
  rw [ec] at h2
  injection h2 with h2
  injection h2 with h2
  subst h2
  obtain ⟨t', ht', e⟩ := List.mem_map.mp hx
  cases e
  obtain ⟨q, _, hq⟩ := pmem h3 ht'
  have hq' : H t = some (.tup [.int q.1, .int q.2]) := hq
  rw [h1] at hq'
  injection hq' with hq'
  injection hq' with hq'
  injection hq' with _ hq'
  injection hq' with hq'
  exact (nomatch hq')
theorem idx_mem {q p : Pr} {seen : List Pr} (h : q ∈ seen) : (seen ++ [p]).idxOf q = seen.idxOf q := by
  induction seen with
  | nil => exact (nomatch h)
  | cons a t ih =>
    rw [List.cons_append, List.idxOf_cons, List.idxOf_cons]
    by_cases e : a = q
    · simp [e]
    · have e' : (a == q) = false := by simpa using e
      rw [e']
      rcases List.mem_cons.mp h with z | z
      · exact absurd z.symm e
      · simp [ih z]
theorem idx_out {p : Pr} {seen : List Pr} (h : ¬ p ∈ seen) : (seen ++ [p]).idxOf p = seen.length := by
  induction seen with
  | nil => simp [List.idxOf_cons]
  | cons a t ih =>
    rw [List.cons_append, List.idxOf_cons]
    have e' : (a == p) = false := by
      have : ¬ a = p := fun z => h (by rw [z]; exact List.mem_cons_self ..)
      simpa using this
    rw [e', ih fun z => h (List.mem_cons_of_mem _ z)]
    rfl
/-- a course that is told by Ch -/
theorem crs_ok {c : Ctn} {wo : It → It → Str} {an : Nat → Nat → Str} {p0 : Pr} {wd : Str} {rows : List Rw} {loop : Option Nat} {kn : List Pr} (h : Ch c wo an [] p0 wd rows loop) (hk : ∀ e ps, (e, ps) ∈ rows → ∀ q ∈ ps, q ∈ kn) (h4 : ∀ e ps, (e, ps) ∈ rows → ps.length ≤ 4) (rl : rows.length ≤ 1000) :
    CrsOk c kn rows loop ∧ (¬ wd = sEnd → AllFin c rows ∧ loop = none) := by
  refine ⟨⟨hk, h4, rl, fun n e => ⟨?_, h.ones, fun e' ps hm q hq => ?_⟩⟩, fun hw => ⟨h.fin (.inl hw), h.noloop hw⟩⟩
  · have := h.lt n e
    simpa using this
  · exact h.fin (.inr (by rw [e]; exact fun z => nomatch z)) e' ps (List.mem_of_mem_drop hm) q hq
section
variable {P : Program} {w : World} {K : PySem.W.Frag} {mg : Str → Option Value} {base : Heap} {cV cO cH : Addr}
theorem ok_decided (T : Txt K mg cV cO cH) : Fn0 P w K mg base 9 "decided" ["heap", "one", "other", "sign"] (spDecided cV cO cH) := by
  have h_contents := ok_Heap_contents (P := P) (w := w) (base := base) T
  have h_Verdicts := ok_Verdicts_init (P := P) (w := w) (base := base) T
  have h_first_unlike := ok_first_unlike (P := P) (w := w) (base := base) T
  have h_answer := ok_answer (P := P) (w := w) (base := base) T
  have h_pair_of := ok_pair_of (P := P) (w := w) (base := base) T
  have h_word_of := ok_word_of (P := P) (w := w) (base := base) T
  have h_Outcome := ok_Outcome_init (P := P) (w := w) (base := base) T
  refine T.d_decided.ok sc_decided (fun vs H Q E h => ?_) (fun _ _ _ _ _ _ us hl => match us, hl with | [_, _, _, _], _ => rfl) (fun f cdv A outer s H vs Q E hr h => ?_)
  · obtain ⟨_, _, _, _, _, _, _, rfl, _⟩ := h
    rfl
  · have hu := hu_of hr
    obtain ⟨h, l0, as0, c, x, y, sg, rfl, hS, hL, hx, hy, q⟩ := h
    obtain ⟨dx, e⟩ := hS.ins
    refine ⟨_, (pss_cons (ps_set (i := 4) sc_decided.nd rfl (by first | exact Or.inl rfl | exact Or.inr rfl) (pe_new0 h_Verdicts hr (by decide) rfl (pa_cons (pe_mtd0 (pv 0) T.clH h_contents hr (by decide)) pa_nil)))
    (pss_cons (ps_set (i := 5) sc_decided.nd rfl (by first | exact Or.inl rfl | exact Or.inr rfl) (pe_lst pa_nil))
    (pss_cons (ps_set (i := 6) sc_decided.nd rfl (by first | exact Or.inl rfl | exact Or.inr rfl) pe_dnewT)
    (pss_cons (ps_while PassesOwn.never (pt_cmp (pc_dnotin hu (pe_tup (pa_cons (pv 1) (pa_cons (pv 2) pa_nil))) (pv 6)))
      (pss_cons (ps_dput hu (pv 6) (pe_tup (pa_cons (pv 1) (pa_cons (pv 2) pa_nil))) (pe_bf call_len_seq T.f_len (pa_cons (pv 5) pa_nil)) rfl)
      (pss_cons (ps_asg (pe_fn h_first_unlike hr (by decide) rfl (pa_cons (pv 4) (pa_cons (pv 1) (pa_cons (pv 2) pa_nil)))) (pg_tup rfl (pgs_cons (pg_name (i := 7) sc_decided.nd rfl (by first | exact Or.inl rfl | exact Or.inr rfl)) (pgs_cons (pg_name (i := 8) sc_decided.nd rfl (by first | exact Or.inl rfl | exact Or.inr rfl)) pgs_nil))))
      (pss_cons (ps_expr (pe_bm PySem.F.plainAttrs_list PySem.F.slot_list_append PySem.F.type_list_append mt_append (pv 5) (pa_cons (pe_tup (pa_cons pe_int (pa_cons (pv 7) pa_nil))) pa_nil)))
      (pss_cons (ps_if (pt_cmpR op_isF (pv 8) pe_bl (nomark _))
        (pss_one (ps_ret (pe_tup (pa_cons (pe_newO h_Outcome T.gO hr (by decide) rfl (pa_cons (pe_gs T.g_ENDLESS) (pa_cons (pv 4) (pa_cons (pv 5) pa_nil)))) (pa_cons pe_non pa_nil)))))
        pss_nil)
      (pss_cons (ps_if (pt_cmpR op_isN (pv 8) pe_non (nomark _))
        (pss_cons (ps_set (i := 9) sc_decided.nd rfl (by first | exact Or.inl rfl | exact Or.inr rfl) (pe_fn h_answer hr (by decide) rfl (pa_cons (pe_bf call_len_seq T.f_len (pa_cons (pe_ix ix_list (pe_fld (pv 4) rfl) (pv 1) (fun _ _ => rfl)) pa_nil)) (pa_cons (pe_bf call_len_seq T.f_len (pa_cons (pe_ix ix_list (pe_fld (pv 4) rfl) (pv 2) (fun _ _ => rfl)) pa_nil)) (pa_cons (pv 3) pa_nil)))))
        (pss_one (ps_ret (pe_tup (pa_cons (pe_newO h_Outcome T.gO hr (by decide) rfl (pa_cons (pv 9) (pa_cons (pv 4) (pa_cons (pv 5) pa_nil)))) (pa_cons pe_non pa_nil))))))
        pss_nil)
      (pss_cons (ps_asg (pv 8) (pg_tup rfl (pgs_cons (pg_name (i := 10) sc_decided.nd rfl (by first | exact Or.inl rfl | exact Or.inr rfl)) (pgs_cons (pg_name (i := 11) sc_decided.nd rfl (by first | exact Or.inl rfl | exact Or.inr rfl)) pgs_nil))))
      (pss_cons (ps_if (pt_cmpR op_isN (pe_fn h_pair_of hr (by decide) rfl (pa_cons (pv 10) (pa_cons (pv 11) pa_nil))) pe_non (nomark _))
        (pss_one (ps_ret (pe_tup (pa_cons (pe_newO h_Outcome T.gO hr (by decide) rfl (pa_cons (pe_fn h_word_of hr (by decide) rfl (pa_cons (pv 10) (pa_cons (pv 11) (pa_cons (pv 3) pa_nil)))) (pa_cons (pv 4) (pa_cons (pv 5) pa_nil)))) (pa_cons (pv 8) pa_nil)))))
        pss_nil)
      (pss_one (ps_asg (pe_fn h_pair_of hr (by decide) rfl (pa_cons (pv 10) (pa_cons (pv 11) pa_nil))) (pg_tup rfl (pgs_cons (pg_name (i := 1) sc_decided.nd rfl (by first | exact Or.inl rfl | exact Or.inr rfl)) (pgs_cons (pg_name (i := 2) sc_decided.nd rfl (by first | exact Or.inl rfl | exact Or.inr rfl)) pgs_nil)))))))))))))
    (pss_one (ps_ret (pe_tup (pa_cons (pe_newOK h_Outcome T.gO hr (by decide) rfl (pa_cons (pe_gs T.g_ENDLESS) (pa_cons (pv 4) (pa_cons (pv 5) pa_nil))) (pk_cons (pe_dget hu (pv 6) (pe_tup (pa_cons (pv 1) (pa_cons (pv 2) pa_nil))) (fun _ _ => rfl)) pk_nil)) (pa_cons pe_non pa_nil))))))))), ?_⟩
    walk_at "go"
    refine ⟨_, _, _, rfl, e, rfl, ?_⟩
    refine ⟨h, l0, as0, c, rfl, hS, Nat.le_trans hL.n (by decide), fun H1 l as k1 L1 la0 => ?_⟩
    walk_at "go"
    refine mk_ver L1 fun H2 v d k2 V2 v0 d0 => ?_
    walk_at "go"
    refine ⟨Nat.zero_le _, fun cr hcr => ?_⟩
    walk_at "go"
    intro od hod
    have k3 : Kp [] H2 (upd H2 cr (.lst [])) := Kp.new hcr
    have k4 : Kp [] (upd H2 cr (.lst [])) (upd (upd H2 cr (.lst [])) od (.dT [])) := Kp.new hod
    have K4 : Kp [] H _ := ((k1.trans k2).trans k3).trans k4
    have nco : cr ≠ od := (upd_none hod).1.symm
    have V4 := (V2.kp0 k3).kp0 k4
    have K12 : Kp [] H H2 := k1.trans k2
    have cr0 : H cr = none := K12.free (fun z => nomatch z) hcr
    have od0 : H od = none := (K12.trans k3).free (fun z => nomatch z) hod
    have vd0 : ∀ b ∈ [v, d], H b = none := fun b hb => by
      rcases List.mem_cons.mp hb with z | z
      · rw [z]; exact k1.free (fun z => nomatch z) v0
      · rw [List.mem_singleton.mp z]; exact k1.free (fun z => nomatch z) d0
    have vl0 : ∀ b ∈ v :: d :: l :: as, H b = none := fun b hb => by
      rcases List.mem_cons.mp hb with z | z
      · exact vd0 b (z ▸ List.mem_cons_self ..)
      rcases List.mem_cons.mp z with z | z
      · exact vd0 b (List.mem_cons_of_mem _ (List.mem_singleton.mpr z))
      · exact la0 b z
    walk_at "go"
    have fin : ∀ (H5 : Hp) (kn : List Pr) (D : Nat) (rows : List Rw) (wd : Str) (loop : Option Nat), Kp [] H H5 → VerS H5 cV v d l as c kn D → VerM c kn [] D → CrsAt H5 rows cr → (∀ e ps, (e, ps) ∈ rows → ∀ q ∈ ps, q ∈ kn) → (∀ e ps, (e, ps) ∈ rows → ps.length ≤ 4) → rows.length ≤ 1000 →
        Ch c (woS sg) (anS sg) [] (x, y) wd rows loop → ∀ (x1 : V) (Q2 : Addr → Hp → Prop), (∀ o H6, Kp [v, d] H5 H6 → (∀ t, H6 t = none → Q (.ref t) (upd H6 t (.tup [.ref o, x1]))) → Q2 o H6) → ∀ x dx, H5 x = none → H5 dx = none → dx ≠ x → spOInit cV cO [.ref x, .str wd, .ref v, .ref cr, .non, lpV loop] (upd (upd H5 dx (.own x)) x (.ins cO dx [])) (fun u H2 => u = .non ∧ Q2 x H2) E0 := by
      intro H5 kn D rows wd loop K5 V5 M5 C5 hk h4 rl hch x1 Q2 hQ2
      obtain ⟨ok, hf⟩ := crs_ok hch hk h4 rl
      refine mk_out V5 M5 hL C5 ok hf fun H6 o k6 O6 _ => hQ2 o H6 k6 fun t ht => ?_
      have k7 : Kp [] H6 (upd H6 t (.tup [.ref o, x1])) := Kp.new ht
      exact q _ t o x1 v d l as kn D rows wd loop ((K5.via k6 fun b hb => .inr (vd0 b hb)).trans k7) vl0 upd_same (O6.kp k7.of0 (O6.hV.kp0 k7)) hch
    refine i_while (fun m σ H' => ∃ kn D p seen rows xs kvs z7 z8 z9 z10 z11, m = 484 - seen.length ∧ σ = [some (.ref h), some (.int p.1), some (.int p.2), some (.str sg), some (.ref v), some (.ref cr), some (.ref od), z7, z8, z9, z10, z11] ∧ DecI cV H v d l cr od as c (woS sg) (anS sg) (x, y) H' kn D p seen rows xs kvs)
      484 ⟨[], 0, (x, y), [], [], [], [], _, _, _, _, _, rfl, rfl, ⟨K4, V4, VerM.nil c, ⟨hx, hy⟩, (upd_ne nco).trans upd_same, .nil, upd_same, .nil, List.nodup_nil, (fun _ z => nomatch z), rfl, (fun _ _ z => nomatch z), (fun _ _ z => nomatch z), fun _ _ _ z => z⟩⟩ ?_
    rintro m σ H3 ⟨kn, D, p, seen, rows, xs, kvs, z7, z8, z9, z10, z11, rfl, rfl, I⟩
    have sl := I.le hL
    have lxs := plen I.pc
    have lks : kvs.length = seen.length := (plen I.pk).symm
    walk_at "go"
    refine ⟨by show 2 ≤ sizeLine; decide, fun t ht => ?_⟩
    have k5 : Kp [] H3 (upd H3 t (.tup [.int p.1, .int p.2])) := Kp.new ht
    have et : PrAt (upd H3 t (.tup [.int p.1, .int p.2])) t p := upd_same
    have eo5 := k5.at0 I.eo
    have ec5 := k5.at0 I.ec
    have V5 := I.hV.kp0 k5
    have K5 := I.kp.trans k5
    have pc5 : Paired (RowC (upd H3 t (.tup [.int p.1, .int p.2]))) rows xs := pmap I.pc fun _ _ z => z.kp k5 fun _ _ _ y => nomatch y
    generalize upd H3 t (.tup [.int p.1, .int p.2]) = H5 at k5 et eo5 ec5 V5 K5 pc5
    walk_at "go"
    refine ⟨od, _, rfl, DGet.t (k := kk p) eo5 et, ?_⟩
    by_cases ip : p ∈ seen
    · obtain ⟨_, g1, rfl⟩ := I.pk.get ip
      rw [g1]
      walk_at "go"
      refine iteF rfl ?_
      walk_at "go"
      refine i_makeK ?_
      walk_at "go"
      refine ⟨by show 2 ≤ sizeLine; decide, fun t2 ht2 => ?_⟩
      have k6 : Kp [] H5 (upd H5 t2 (.tup [.int p.1, .int p.2])) := Kp.new ht2
      walk_at "go"
      refine ⟨od, _, rfl, g1 ▸ DGet.t (k := kk p) (k6.at0 eo5) upd_same, ?_⟩
      walk_at "go"
      have hch := I.ch sEnd [] (some (seen.idxOf p)) (.again ip)
      rw [List.append_nil] at hch
      refine ⟨rfl, rfl, fin _ kn D rows sEnd (some (seen.idxOf p)) (K5.trans k6) (V5.kp0 k6) I.hM ⟨xs, k6.at0 ec5, pmap pc5 fun _ _ z => z.kp k6 fun _ _ _ y => nomatch y⟩ I.hk I.h4 (by rw [I.rl]; omega) hch .non _ fun o H6 _ hq => ?_⟩
      walk_at "go"
      exact ⟨by show 2 ≤ sizeLine; decide, fun p2 hp2 => hq p2 hp2⟩
    · rw [I.pk.out ip]
      walk_at "go"
      refine iteT rfl (WhB.go ?_)
      walk_at "go"
      refine ⟨cr, _, rfl, .inl (SqL.of ec5), ?_⟩
      rw [← lxs, I.rl]
      walk_at "go"
      refine ⟨by show 2 ≤ sizeLine; decide, fun t6 ht6 => ?_⟩
      have k6 : Kp [] H5 (upd H5 t6 (.tup [.int p.1, .int p.2])) := Kp.new ht6
      have eo6 := k6.at0 eo5
      refine ⟨od, _, rfl, DPut.t (k := kk p) eo6 upd_same (by rw [lks]; exact Nat.lt_of_le_of_lt sl (by decide)), ?_⟩
      have k7 : Kp [od] (upd H5 t6 (.tup [.int p.1, .int p.2])) (upd (upd H5 t6 (.tup [.int p.1, .int p.2])) od (.dT (putK kvs (kk p) (.int ((seen.length : Nat) : Int))))) := Kp.wr (List.mem_singleton.mpr rfl) eo6 (fun _ z => nomatch z)
      have K7 := (K5.trans k6).via k7 fun b hb => .inr (List.mem_singleton.mp hb ▸ od0)
      have nlo : ∀ b ys, (upd H5 t6 (.tup [.int p.1, .int p.2])) b = some (.lst ys) → ¬ b ∈ [od] := fun b ys e z => by
        rw [List.mem_singleton.mp z, eo6] at e; cases e
      have pk7 : PKey (fun q v => v = .int (((seen ++ [p]).idxOf q : Nat) : Int)) seen kvs := I.pk.imp fun q hq v hv => by rw [hv, idx_mem hq]
      obtain ⟨ea, pk8⟩ := pk7.add (p := p) (v := .int ((seen.length : Nat) : Int)) (by rw [idx_out ip]) ip
      have V7 : VerS _ cV v d l as c kn D := (V5.kp0 k6).kp k7 (fun z => by
        rw [List.mem_singleton] at z
        obtain ⟨_, e9⟩ := (V5.kp0 k6).ins
        rw [z, eo6] at e9; cases e9) (fun z => by
        rw [List.mem_singleton] at z
        have : H d = none := vd0 d (by simp)
        obtain ⟨_, e9, _⟩ := (V2.dct)
        have n9 := hod
        rw [← z] at n9
        rw [k3.at0 e9] at n9; cases n9) (fun z => nlo _ _ (V5.kp0 k6).lst.1 z) fun a ha => (V5.kp0 k6).rowL ha |>.elim fun ys e9 => nlo _ _ e9
      have ec7 := k7.k _ _ (nlo _ _ (k6.at0 ec5)) (k6.at0 ec5)
      have pc7 : Paired (RowC _) rows xs := pmap (pmap pc5 fun _ _ z => z.kp k6 fun _ _ _ y => nomatch y) fun _ _ z => z.kp k7 nlo
      have eo7 : (upd (upd H5 t6 (.tup [.int p.1, .int p.2])) od (.dT (putK kvs (kk p) (.int ((seen.length : Nat) : Int))))) od = some (.dT (kvs ++ [(kk p, .int ((seen.length : Nat) : Int))])) := by rw [upd_same, ea]
      generalize upd (upd H5 t6 (.tup [.int p.1, .int p.2])) od (.dT (putK kvs (kk p) (.int ((seen.length : Nat) : Int)))) = H7 at k7 K7 V7 ec7 pc7 eo7
      walk_at "go"
      refine ⟨v, d, l, as, c, kn, D, p, rfl, V7, I.hM, hL, I.rp, fun H8 t8 lp kn8 D8 x8 k8 V8 M8 sub8 e8 prs8 ip8 res8 l48 lp0 => ?_⟩
      walk_at "go"
      refine ⟨t8, _, rfl, SqT.of e8, rfl, ?_⟩
      walk_at "go"
      have ec8 := k8.k _ _ (V7.nl _ _ ec7) ec7
      have nlp : lp ≠ cr := fun z => by rw [z, ec7] at lp0; cases lp0
      have pc8 : Paired (RowC H8) rows xs := pmap pc7 fun _ _ z => z.kp k8 V7.nl
      have nod2 : ¬ od ∈ [v, d] := by
        obtain ⟨_, e9⟩ := V7.ins
        have z1 : od ≠ v := ne_of eo7 e9 (fun z => nomatch z)
        have z2 : od ≠ d := fun z => by
          obtain ⟨_, e9, _⟩ := V2.dct
          have n9 := hod
          rw [z, k3.at0 e9] at n9; cases n9
        simp [z1, z2]
      have eo8 := k8.k _ _ nod2 eo7
      have K8 := K7.via k8 fun b hb => .inr (vd0 b hb)
      refine ⟨ty_list ec8, ?_⟩
      walk_at "go"
      refine ⟨by show 2 ≤ sizeLine; decide, fun t9 ht9 => ?_⟩
      walk_at "go"
      have k9 : Kp [] H8 (upd H8 t9 (.tup [.int 1, .ref lp])) := Kp.new ht9
      have ec9 := k9.at0 ec8
      refine ⟨cr, xs, .ref t9, rfl, rfl, ec9, by rw [← lxs, I.rl]; exact Nat.lt_of_le_of_lt sl (by decide), ?_⟩
      have k10 : Kp [cr] (upd H8 t9 (.tup [.int 1, .ref lp])) (upd (upd H8 t9 (.tup [.int 1, .ref lp])) cr (.lst (xs ++ [.ref t9]))) := Kp.wr (List.mem_singleton.mpr rfl) ec9 (fun _ z => nomatch z)
      have K10 := (K8.trans k9).via k10 fun b hb => .inr (List.mem_singleton.mp hb ▸ cr0)
      have V9 := V8.kp0 k9
      have ncr : ∀ b ∈ l :: as, ¬ b ∈ [cr] := fun b hb z => by
        rw [List.mem_singleton] at z
        have hz : H2 cr ≠ none := by
          rcases List.mem_cons.mp hb with y | y
          · rw [← z, y, V2.lst.1]; exact fun w => nomatch w
          · obtain ⟨ys, e9⟩ := V2.rowL y
            rw [← z, e9]; exact fun w => nomatch w
        exact hz hcr
      have V10 : VerS _ cV v d l as c kn8 D8 := V9.kp k10 (fun z => by
        rw [List.mem_singleton] at z
        obtain ⟨_, e9⟩ := V9.ins
        rw [z, ec9] at e9; cases e9) (fun z => by
        rw [List.mem_singleton] at z
        obtain ⟨_, e9, _⟩ := V9.dct
        rw [z, ec9] at e9; cases e9) (ncr l (List.mem_cons_self ..)) fun a ha => ncr a (List.mem_cons_of_mem _ ha)
      have prs9 := prs8.kp k9 (fun z => nomatch z)
      have pc10 : Paired (RowC (upd (upd H8 t9 (.tup [.int 1, .ref lp])) cr (.lst (xs ++ [.ref t9])))) (rows ++ [(1, (fuS (Vc c) (zp c p)).1)]) (xs ++ [.ref t9]) :=
        psnoc (rows_wr ec9 (pmap pc8 fun _ _ z => z.kp k9 fun _ _ _ y => nomatch y)) ⟨t9, lp, rfl, k10.t _ _ upd_same, prs9.kp k10 (fun z => nlp (List.mem_singleton.mp z))⟩
      have eo10 := (upd_ne (H := upd H8 t9 (.tup [.int 1, .ref lp])) (o := .lst (xs ++ [.ref t9])) nco.symm).trans (k9.at0 eo8)
      have res10 : ResV (upd (upd H8 t9 (.tup [.int 1, .ref lp])) cr (.lst (xs ++ [.ref t9]))) (fuS (Vc c) (zp c p)).2 x8 := by
        match (fuS (Vc c) (zp c p)).2, res8 with
        | none, hr => exact hr
        | some none, hr => exact hr
        | some (some p2), ⟨t2, va, vb, g1, g2, g3, g4⟩ => exact ⟨t2, va, vb, g1, k10.t _ _ (k9.t _ _ g2), (g3.kp k9).kp k10, (g4.kp k9).kp k10⟩
      have ec10 : (upd (upd H8 t9 (.tup [.int 1, .ref lp])) cr (.lst (xs ++ [.ref t9]))) cr = some (.lst (xs ++ [.ref t9])) := upd_same
      generalize upd (upd H8 t9 (.tup [.int 1, .ref lp])) cr (.lst (xs ++ [.ref t9])) = H10 at k10 K10 V10 pc10 eo10 res10 ec10
      have hk10 : ∀ e ps, (e, ps) ∈ rows ++ [(1, (fuS (Vc c) (zp c p)).1)] → ∀ q ∈ ps, q ∈ kn8 := fun e ps hm q hq => by
        rcases List.mem_append.mp hm with hm | hm
        · exact sub8 q (I.hk e ps hm q hq)
        · simp only [List.mem_singleton, Prod.mk.injEq] at hm
          rw [hm.2] at hq
          exact ip8 q hq
      have h410 : ∀ e ps, (e, ps) ∈ rows ++ [(1, (fuS (Vc c) (zp c p)).1)] → ps.length ≤ 4 := fun e ps hm => by
        rcases List.mem_append.mp hm with hm | hm
        · exact I.h4 e ps hm
        · simp only [List.mem_singleton, Prod.mk.injEq] at hm
          rw [hm.2]
          exact l48
      have rl10 : (rows ++ [(1, (fuS (Vc c) (zp c p)).1)]).length ≤ 1000 := by rw [List.length_append, I.rl]; simp; omega
      have C10 : CrsAt H10 (rows ++ [(1, (fuS (Vc c) (zp c p)).1)]) cr := ⟨_, ec10, pc10⟩
      walk_at "go"
      have hfu : fuS (Vc c) (zp c p) = ((fuS (Vc c) (zp c p)).1, (fuS (Vc c) (zp c p)).2) := rfl
      generalize (fuS (Vc c) (zp c p)).1 = ps at hfu C10 hk10 h410 rl10 pc10 l48
      generalize (fuS (Vc c) (zp c p)).2 = rs at hfu res10
      match rs, res10, hfu with
      | none, hr, hfu =>
        cases (show x8 = .bl false from hr)
        refine ⟨rfl, .inl ⟨_, rfl⟩, ?_⟩
        walk_at "go"
        refine iteT (decide_eq_true rfl) ?_
        walk_at "go"
        refine i_makeD ?_
        walk_at "go"
        refine fin H10 kn8 D8 _ sEnd none K10 V10 M8 C10 hk10 h410 rl10 (I.ch _ _ _ (.endl ip hfu)) .non _ fun o H6 _ hq => ?_
        walk_at "go"
        exact ⟨by show 2 ≤ sizeLine; decide, fun p2 hp2 => hq p2 hp2⟩
      | some none, hr, hfu =>
        cases (show x8 = .non from hr)
        refine ⟨rfl, .inr (.inl rfl), ?_⟩
        walk_at "go"
        refine iteF (decide_eq_false (fun z => nomatch z)) ?_
        walk_at "go"
        refine iteT dnn ?_
        obtain ⟨_, ev10⟩ := V10.ins
        obtain ⟨ax, ex, vx, evx, px⟩ := V10.lst.row I.rp.1
        obtain ⟨ay, ey, vy, evy, py⟩ := V10.lst.row I.rp.2
        walk_at "go"
        refine ⟨_, _, _, _, _, rfl, ev10, T.clV, T.nV_lists, vf_lists _ _ _, ?_⟩
        walk_at "go"
        refine i_ixL V10.lst.1 (atI_nat (by rw [List.getElem?_map, ex]; rfl)) ?_
        walk_at "go"
        refine ⟨ax, _, rfl, .inl (SqL.of evx), ?_⟩
        walk_at "go"
        refine ⟨_, _, _, _, _, rfl, ev10, T.clV, T.nV_lists, vf_lists _ _ _, ?_⟩
        walk_at "go"
        refine i_ixL V10.lst.1 (atI_nat (by rw [List.getElem?_map, ey]; rfl)) ?_
        walk_at "go"
        refine ⟨ay, _, rfl, .inl (SqL.of evy), ?_⟩
        rw [← plen px, ← plen py]
        walk_at "go"
        refine ⟨_, _, sg, _, rfl, .inl ⟨_, _, rfl, rfl, rfl⟩, ?_⟩
        walk_at "go"
        refine i_makeD ?_
        walk_at "go"
        refine fin H10 kn8 D8 _ (anS sg (rw c p.1).length (rw c p.2).length) none K10 V10 M8 C10 hk10 h410 rl10 (I.ch _ _ _ (.lens ip hfu)) .non _ fun o H6 _ hq => ?_
        walk_at "go"
        exact ⟨by show 2 ≤ sizeLine; decide, fun p2 hp2 => hq p2 hp2⟩
      | some (some (a, b)), ⟨t2, va, vb, g1, g2, g3, g4⟩, hfu =>
        subst g1
        have mm := fuS_mem _ hfu
        obtain ⟨m1, m2⟩ := List.of_mem_zip (show (a, b) ∈ (rw c p.1).zip (rw c p.2) from mm)
        have oa := hL.ok p.1 a m1
        have ob := hL.ok p.2 b m2
        refine ⟨rfl, .inr (.inr ⟨_, rfl⟩), ?_⟩
        walk_at "go"
        refine iteF (decide_eq_false (fun z => nomatch z)) ?_
        walk_at "go"
        refine iteF drn ?_
        walk_at "go"
        refine ⟨t2, _, rfl, SqT.of g2, rfl, ?_⟩
        walk_at "go"
        refine ⟨c.length, a, b, va, vb, rfl, g3, g4, oa, ob, ?_⟩
        cases hp : pairOf a b with
        | none =>
          refine PairQ.none ?_
          walk_at "go"
          refine iteT dnn ?_
          walk_at "go"
          refine i_makeD ?_
          walk_at "go"
          refine ⟨c.length, a, b, va, vb, sg, rfl, g3, g4, oa, ob, fun H11 k11 => ?_⟩
          walk_at "go"
          refine fin H11 kn8 D8 _ (woS sg a b) none (K10.trans k11) (V10.kp0 k11) M8 (C10.kp k11 fun _ _ _ z => nomatch z) hk10 h410 rl10 (I.ch _ _ _ (.leaf ip hfu hp)) (.ref t2) _ fun o H6 _ hq => ?_
          walk_at "go"
          exact ⟨by show 2 ≤ sizeLine; decide, fun p2 hp2 => hq p2 hp2⟩
        | some q1 =>
          refine PairQ.some fun b1 hb1 => ?_
          have k11 : Kp [] H10 (upd H10 b1 (.tup [.int q1.1, .int q1.2])) := Kp.new hb1
          walk_at "go"
          refine iteF drn ?_
          walk_at "go"
          refine ⟨c.length, a, b, va, vb, rfl, g3.kp k11, g4.kp k11, oa, ob, ?_⟩
          rw [hp]
          refine PairQ.some fun b2 hb2 => ?_
          have k12 : Kp [] (upd H10 b1 (.tup [.int q1.1, .int q1.2])) (upd (upd H10 b1 (.tup [.int q1.1, .int q1.2])) b2 (.tup [.int q1.1, .int q1.2])) := Kp.new hb2
          have K12 := k11.trans k12
          walk_at "go"
          refine ⟨b2, _, rfl, SqT.of upd_same, rfl, ?_⟩
          walk_at "go"
          obtain ⟨r1, r2, r3⟩ := pairOf_some hp
          have rq : q1.1 < c.length ∧ q1.2 < c.length := by
            rw [r1] at oa
            rw [r2] at ob
            exact ⟨oa, ob⟩
          have nd2 : (seen ++ [p]).Nodup := List.nodup_append.mpr ⟨I.nd, by simp, fun x hx y hy e => ip (by rw [List.mem_singleton] at hy; rw [← hy, ← e]; exact hx)⟩
          have rs2 : ∀ q ∈ seen ++ [p], q.1 < c.length ∧ q.2 < c.length := fun q hq => by
            rcases List.mem_append.mp hq with hq | hq
            · exact I.rs q hq
            · rw [List.mem_singleton.mp hq]; exact I.rp
          have sl2 : (seen ++ [p]).length ≤ 484 := Nat.le_trans (nodup_pr_le (N := c.length) nd2 rs2) (Nat.mul_le_mul hL.n hL.n)
          have sl3 : (seen ++ [p]).length = seen.length + 1 := by simp
          refine ⟨484 - (seen ++ [p]).length, by omega, kn8, D8, q1, seen ++ [p], rows ++ [(1, ps)], _, _, _, _, _, _, _, rfl, rfl, ⟨K10.trans K12, V10.kp0 K12, M8, rq, K12.at0 ec10, pmap pc10 (fun _ _ z => z.kp K12 (fun _ _ _ y => nomatch y)), K12.at0 eo10, pk8, nd2, rs2, ?_, hk10, h410, fun wd rows' loop hn => ?_⟩⟩
          · rw [List.length_append, List.length_append, I.rl]
            rfl
          · have z := I.ch wd ((1, ps) :: rows') loop (.next ip hfu hp hn)
            rw [List.append_assoc]
            exact z
theorem ok_ordering (T : Txt K mg cV cO cH) : Fn0 P w K mg base 10 "ordering" ["heap", "one", "other", "sign"] (spOrd cV cO cH) := by
  have h_need_box := ok_Heap_need_box (P := P) (w := w) (base := base) T
  have h_check_sign := ok_check_sign (P := P) (w := w) (base := base) T
  have h_decided := ok_decided (P := P) (w := w) (base := base) T
  refine T.d_ordering.ok sc_ordering (fun vs H Q E h => ?_) (fun _ _ _ _ _ _ us hl => match us, hl with | [_, _, _, _], _ => rfl) (fun f cdv A outer s H vs Q E hr h => ?_)
  · obtain ⟨_, _, _, _, _, _, _, rfl, _⟩ := h
    rfl
  · obtain ⟨h, l0, as0, c, x, y, sg, rfl, hsg, hS, hL, hx, hy, q⟩ := h
    obtain ⟨dx, e⟩ := hS.ins
    refine ⟨_, (pss_cons (ps_expr (pe_mtd (pv 0) T.clH h_need_box hr (by decide) (pa_cons (pv 1) pa_nil)))
    (pss_cons (ps_expr (pe_mtd (pv 0) T.clH h_need_box hr (by decide) (pa_cons (pv 2) pa_nil)))
    (pss_cons (ps_expr (pe_fn h_check_sign hr (by decide) rfl (pa_cons (pv 3) pa_nil)))
    (pss_one (ps_ret (pe_ix ix_tup (pe_fn h_decided hr (by decide) rfl (pa_cons (pv 0) (pa_cons (pv 1) (pa_cons (pv 2) (pa_cons (pv 3) pa_nil))))) pe_int (fun _ _ => rfl))))))), ?_⟩
    walk_at "go"
    refine ⟨_, _, _, rfl, e, rfl, ?_⟩
    walk_at "go"
    refine ⟨h, l0, as0, c, x, rfl, hS, hx, ?_⟩
    walk_at "go"
    refine ⟨_, _, _, rfl, e, rfl, ?_⟩
    walk_at "go"
    refine ⟨h, l0, as0, c, y, rfl, hS, hy, ?_⟩
    walk_at "go"
    refine ⟨sg, rfl, hsg, ?_⟩
    walk_at "go"
    refine ⟨h, l0, as0, c, x, y, sg, rfl, hS, hL, hx, hy, fun H' t o iv v d l as kn D rows wd loop k fr et O ch => ?_⟩
    walk_at "go"
    refine i_ixT et rfl ?_
    exact q H' o v d l as kn D rows wd loop k fr O ch
end
end Rk
set_option Elab.async false
set_option linter.all false
set_option maxRecDepth 100000
set_option maxHeartbeats 4000000
/-! repr of data wants to know what reprs are under way: promises of a def at ONE surrounding. -/
namespace Rk
open PySem PySem.Spec PyProof.Rows L2
/-- what a def keeps at the surrounding A -/
def FnA (P : Program) (w : World) (K : PySem.W.Frag) (mg : Str → Option Value) (base : Heap) (A : Around) (f : Addr) (fd : FuncData) (ps : List Str) (sp : Sp) : Prop :=
  (∀ vs H Q E, sp vs H Q E → vs.length = ps.length) ∧
  ∀ (outer : List Env) (s : Shared) (H : Hp) (args : Args) (us : List Value) (vs : List V) (Q : VK) (E : XK), Env0 P w K mg base A outer s H → BindsTo s fd args (ps.zip us) → Vals vs us → sp vs H Q E →
    codeAny (model P w) A (.call (.ref f) args) (CR CX0 outer P w H s Q E) s
/-- a def of the module, at any surrounding without a repr under way -/
def FnG (P : Program) (w : World) (K : PySem.W.Frag) (mg : Str → Option Value) (base : Heap) (k : Nat) (x : Str) (ps : List Str) (sp : Sp) : Prop :=
  ∃ (f : Addr) (fd : FuncData), mg x = some (.ref f) ∧ PySem.W.keepIn K (.ref f) = true ∧ Binds K fd ps [] ∧ ∀ A : Around, Room k A → A.guards = some [] → FnA P w K mg base A f fd ps sp
section
variable {P : Program} {w : World} {K : PySem.W.Frag} {mg : Str → Option Value} {base : Heap} {x : Str} {st : Stmt} {N ps : List Str} {k : Nat} {sp : Sp}
theorem GF.okG (F : GF K mg x st) (S : FnScope N ps (defScope st)) (len : ∀ vs H Q E, sp vs H Q E → vs.length = ps.length)
    (hb : ∀ (kV doc pm : Value) (an : Option Addr) (cdv ct : Value) (us : List Value), us.length = ps.length → bindArgs (PySem.W.fnOf x x (defArgs st) (defBody st) (defScope st) .none kV doc pm an cdv ct) ⟨us, []⟩ = pure (ps.zip us))
    (hbody : ∀ (f : Addr) (cdv : Value) (A : Around) (outer : List Env) (s : Shared) (H : Hp) (vs : List V) (Q : VK) (E : XK), Room k (A.deeper (envOfC x (defScope st) s.heap.objs.size f cdv)) → A.guards = some [] → sp vs H Q E →
      ∃ t, PSs (cxOf CX0 P w K mg base N x (defScope st) f cdv A outer s H E).nox (defBody st) t ∧ t { nx := fun _ H' => Q .non H', rt := Q } (start N vs) H) : FnG P w K mg base (k + 1) x ps sp := by
  obtain ⟨f, fd, hm, F⟩ := F
  refine ⟨f, fd, hm, F.kp, F.binds hb, fun A hr hg => ?_⟩
  obtain ⟨oc, od, kV, doc, pm, an, cdv, ct, osl, rfl, lk, hcd⟩ := F.ex
  refine ⟨len, fun outer s H args us vs Q E e0 hbi r hsp => ?_⟩
  have keep : ∀ b o, base.get? b = some o → s.heap.get? b = some o := fun b o e => (e0.bs b o e).1
  have KX : K.In s.heap := e0.mod.kin.keeps keep
  refine codeAny_call_function hr.depth (KX _ _ lk) rfl S.co S.gen rfl (PySem.W.codeRec_of KX hcd) (hbi _ _ _ _ ?_)
  refine wpAny_newFunctionEnv_cells S.kind (fun ⟨n, v⟩ hy => (S.par n (List.of_mem_zip hy).1).imp id fun q => ⟨q, PySem.W.cellsFrom_some _ _ _ (.inl q)⟩) fun env he s1 z => ?_
  subst he
  refine ⟨(e0.mod.nolimit.keeps keep).keeps z.toInCall.keep, codeAny_func ?_⟩
  obtain ⟨t, ht, hq⟩ := hbody f cdv A outer s H vs Q E (hr.deeper _) hg hsp
  have I : Inv (cxOf CX0 P w K mg base N x (defScope st) f cdv A outer s H E) [] (start N vs) H s1 := inv_start S hr.hd e0 (len _ _ _ _ hsp) r z
  refine wpAny_mono (ht.nox.run [] s1 (start N vs) H _ I hq) (fun fl s' hs => ?_) fun e s' hs => hs
  match fl, hs with
  | .ret u, ⟨v, σ', H', J, rv, q⟩ => exact ⟨v, H', J.os, J.bare, J.base, J.hok, rv, q⟩
  | .next, ⟨σ', H', J, q⟩ => exact ⟨V.non, H', J.os, J.bare, J.base, J.hok, rfl, q⟩
  | .brk, ⟨_, _, _, q⟩ => exact False.elim q
  | .cont, ⟨_, _, _, q⟩ => exact False.elim q
end
section
variable {X : Cx} {k j : Nat} {x : Str} {ps : List Str} {sp : Sp} {e : Expr} {es : List Expr} {t : TA} {p pos : Pos}
theorem pe_fnG (h : FnG X.prog X.w X.K X.mg X.base k x ps sp) (hG : X.A.guards = some []) (hr : Room j X.A) (hkj : k ≤ j) (hg : Gl X x) (ha : PA X (e :: es) t) (hdb : (x == ("__debug__" : Str)) = false := by decide)
    (he : starEach (e :: es) X.env = (false, eval e X.env) :: starEach es X.env := by rfl) (hpl : (backTo pos (starEach es X.env)).any (·.1) = false := by rfl) : PE X (.Call (.Name x p) (e :: es) [] pos) (tCall sp [] E0 t) := by
  obtain ⟨f, fd, hm, hk, hb, F⟩ := h
  obtain ⟨len, run⟩ := F X.A (hr.mono hkj) hG
  refine ⟨fun pins s σ H Q I h => wpAny_Call_Name_kw (ld_glob I hg hm ?_ hdb)⟩
  refine PySem.W.callWith_K (h₀ := X.base) I.ok.mod.kin hk (thn (ha.run pos pins s σ H _ I h) fun us s1 ⟨vs, H1, I1, r, q⟩ => ⟨I1.kIn, ?_⟩) he hpl
  have hq : sp vs H1 Q E0 := by rw [← List.append_nil vs]; exact q
  have hl : us.length = ps.length := by rw [← r.length]; exact len _ _ _ _ hq
  have hbi := hb s1 us I1.kIn (by rw [List.append_nil]; exact hl)
  rw [List.append_nil] at hbi
  refine wpAny_call (codeAny_mono (run X.stack s1 H1 ⟨us, []⟩ us vs Q E0 I1.env0 hbi r hq) fun r s' hq => ?_)
  match r, hq with
  | .error e, hq => exact pass0 pins σ H1 s1 e s' I1 hq
  | .ok (.ret u), hq => exact I1.after hq
  | .ok .next, hq => exact False.elim hq
  | .ok .brk, hq => exact False.elim hq
  | .ok .cont, hq => exact False.elim hq
/-- repr of a thing that holds data -/
theorem call_reprD (hG : X.A.guards = some []) (hu : X.A.units + 64 < cLine) : CallR X (.builtin "repr") (fun xs H Q => ∃ (a : Addr) (d : PyData), xs = [.ref a] ∧ Dp X.K H (.ref a) d ∧ d.hasDict = false ∧ d.showable = true ∧ d.depth < 60 ∧ d.shown.length ≤ sizeLine ∧ Q (.str d.shown) H) := by
  intro pins s σ H xs us Q I r h
  obtain ⟨a, d, rfl, hd, hn, hs, hdp, hz, q⟩ := h
  rw [Vals.ref1 r]
  obtain ⟨as, rd⟩ := Dp.reads I d _ _ hd rfl
  exact repr_of_reads' rd hs (PyData.noDict_hsm hn) hG (by omega) (fun _ _ z => z) (fun h' u tk hk => ⟨.str d.shown, H, I.kept hk, ⟨u, rfl⟩, q⟩) hz
end
/-! ### the head's end -/
theorem IntsAre.vals : ∀ {vs : List Value} {ns : List Int}, IntsAre vs ns → Vals (ns.map V.int) vs
  | _, _, .nil => .nil
  | _, _, .cons n t h => .cons ⟨t, rfl⟩ (IntsAre.vals h)
section
variable {P : Program} {w : World} {K : PySem.W.Frag} {mg mb : Str → Option Value} {fa a : Addr} {x : Str} {sp : Sp} {s₁ : Shared} {vs : List Value} {ns : List Int}
theorem hid_get {H : Hp} {h : Heap} {b : Addr} {o : Obj} (e : h.get? b = some o) (n : H b = none) : (hidT h H).get? b = some o := hidT_get e n
/-- the law is called -/
theorem law_callA (KX : K.In s₁.heap) (hns : s₁.heap.Ns mainGlobals mg) (hb : s₁.heap.Ns builtinsNs mb) (hbb : ∀ x : Str, x ≠ "__name__" → mb x = bootBuiltins x) (hlim : s₁.heap.NoLimit) (hg : s₁.gens = #[])
    (ha : s₁.heap.get? a = some { cls := .type "list", data := .seq vs.toArray }) (hi : IntsAre vs ns) (hl : ns.length ≤ sizeLine)
    (F : ∀ base : Heap, K.In base → base.Ns mainGlobals mg → ∃ fd : FuncData, Binds K fd [x] [] ∧ FnA P w K mg base callerA fa fd [x] sp)
    (hsp : ∀ H : Hp, SqL K H a (ns.map V.int) → sp [.ref a] H (fun v _ => v = .bl true) fun _ _ _ => False) :
    codeAny (model P w) callerA (.call (.ref fa) ⟨[.ref a], []⟩) (fun r s' => r = .ok (.ret (.bool true)) ∧ OldK s₁.heap s'.heap ∧ s'.os = s₁.os ∧ AllBare s'.gens) s₁ := by
  have rv := IntsAre.vals hi
  have lenV := hi.length
  -- the heap of which only the script may be known
  obtain ⟨H, hS, hok, hA, hK, hf⟩ : ∃ H : Hp, SqL K H a (ns.map V.int) ∧ HOk P w H s₁.heap ∧ (∀ b, H b ≠ none → b = a) ∧ (H a ≠ none → K.lookup a = none) ∧ ∀ b u, H b = some u → u = .frz { cls := .type "list", data := .seq vs.toArray } (.lst (ns.map V.int)) := by
    cases hk : K.lookup a with
    | some o =>
      have e := KX a o hk
      rw [ha] at e
      cases e
      exact ⟨fun _ => none, .inr ⟨_, vs.toArray, _, hk, rfl, rfl, rfl, by rw [List.size_toArray, lenV]; exact hl, by simpa using rv⟩, (fun b u z => by have z' : (none : Option HO) = some u := z; cases z'), (fun b z => absurd rfl z), (fun z => absurd rfl z), fun b u z => by have z' : (none : Option HO) = some u := z; cases z'⟩
    | none =>
      have at_ : ∀ b u, (if b = a then some (HO.frz { cls := .type "list", data := .seq vs.toArray } (.lst (ns.map V.int))) else none) = some u → b = a ∧ u = .frz { cls := .type "list", data := .seq vs.toArray } (.lst (ns.map V.int)) := fun b u z => by
        by_cases hb : b = a
        · rw [if_pos hb] at z
          exact ⟨hb, (Option.some.inj z).symm⟩
        · rw [if_neg hb] at z; cases z
      refine ⟨fun b => if b = a then some (.frz { cls := .type "list", data := .seq vs.toArray } (.lst (ns.map V.int))) else none, .inl (.inr ⟨_, if_pos rfl⟩), fun b u z => ?_, fun b z => ?_, fun _ => rfl, fun b u z => (at_ b u z).2⟩
      · obtain ⟨rfl, rfl⟩ := at_ b u z
        exact ⟨ha, by rw [List.length_map]; exact hl, vs, _, rv, ha⟩
      · cases q : (if b = a then some (HO.frz { cls := .type "list", data := .seq vs.toArray } (.lst (ns.map V.int))) else none) with
        | none => exact absurd q z
        | some u => exact (at_ b u q).1
  have noD : ∀ {b : Addr} {o : Obj} {es : Array DictEntry} {ep : Nat}, s₁.heap.get? b = some o → o.data = .dict es ep → H b = none := fun {b o es ep} e d => by
    cases q : H b with
    | none => rfl
    | some u =>
      obtain rfl := hA b (by rw [q]; simp)
      rw [ha] at e; cases e
      have d' : Data.seq vs.toArray _ = Data.dict es ep := d
      cases d'
  have nsK : ∀ {b : Addr} {m : Str → Option Value}, s₁.heap.Ns b m → (hidT s₁.heap H).Ns b m := fun {b m} ⟨o, es, ep, e, d, r⟩ => ⟨o, es, ep, hid_get e (noD e d), d, r⟩
  have hKb : K.In (hidT s₁.heap H) := fun b o e => hid_get (KX b o e) (by
    cases q : H b with
    | none => rfl
    | some u =>
      obtain rfl := hA b (by rw [q]; simp)
      rw [hK (by rw [q]; simp)] at e; cases e)
  have hM : Mod K mg (hidT s₁.heap H) := ⟨hKb, nsK hns, ⟨mb, nsK hb, hbb⟩, let ⟨mc, h1, h2⟩ := hlim; ⟨mc, nsK h1, h2⟩⟩
  have e0 : Env0 P w K mg (hidT s₁.heap H) callerA [] s₁ H := ⟨rfl, hM, fun b o e => of_hidT e, Nat.le_of_eq (hidT_size _ _), trivial, fun b hb => absurd (show b ∈ ([] : List Addr) from hb) (by simp), hok, .of_eq hg⟩
  obtain ⟨fd, hbind, hF⟩ := F _ hKb (nsK hns)
  have hbi := hbind s₁ [.ref a] KX rfl
  rw [List.append_nil] at hbi
  refine codeAny_mono (hF.2 [] s₁ H ⟨[.ref a], []⟩ [.ref a] [.ref a] _ _ e0 hbi (.cons rfl .nil) (hsp H hS)) fun r s' h => ?_
  match r, h with
  | .error e, h => exact False.elim (by exact h)
  | .ok .next, h => exact False.elim h
  | .ok .brk, h => exact False.elim h
  | .ok .cont, h => exact False.elim h
  | .ok (.ret u), ⟨v, H', os, bare, un, hok', r', q⟩ =>
    have q' : v = .bl true := q
    subst q'
    obtain rfl : u = Value.bool true := r'
    refine ⟨rfl, OldK.of_keep fun b o e => ?_, os, bare⟩
    cases q : H b with
    | none => exact un.keep b o e q (by intro z; exact absurd (show b ∈ ([] : List Addr) from z) (by simp)) (by simp)
    | some u =>
      have hu := hf b u q
      subst hu
      obtain ⟨e1, _⟩ := hok b _ q
      obtain ⟨e2, _⟩ := hok' b _ (un.frzs b _ _ q)
      rw [e] at e1; cases e1
      exact e2
end
end Rk
set_option Elab.async false
set_option linter.all false
set_option maxRecDepth 100000
set_option maxHeartbeats 1000000
/-! bag, take, leaf -/
namespace Rk
open PySem PySem.Spec PyProof.Rows L2
local macro_rules | `(tactic| walk_at "go") => `(tactic| ((try dsimp only); repeat (first
  | with_reducible apply i_seq
  | ((with_reducible apply i_var); exact rfl)
  | with_reducible apply i_c
  | with_reducible apply i_cons
  | with_reducible apply i_nil
  | with_reducible apply i_call
  | with_reducible apply i_cb
  | with_reducible apply i_meth
  | with_reducible apply i_fld
  | with_reducible apply i_op
  | with_reducible apply i_rI0
  | with_reducible apply i_eqI
  | with_reducible apply i_neI
  | with_reducible apply i_eqS
  | with_reducible apply i_neS
  | with_reducible apply i_if
  | with_reducible apply i_test
  | with_reducible apply i_b
  | with_reducible apply i_bl
  | with_reducible apply i_int
  | with_reducible apply i_and
  | with_reducible apply i_or
  | with_reducible apply i_not
  | with_reducible apply i_andV
  | with_reducible apply i_orV
  | with_reducible apply i_notV
  | with_reducible apply i_ifE
  | with_reducible apply i_itt
  | with_reducible apply i_itf
  | with_reducible apply i_nt
  | with_reducible apply i_nf
  | with_reducible apply i_asg
  | with_reducible apply i_name
  | with_reducible apply i_ret
  | with_reducible apply i_retN
  | with_reducible apply i_drop
  | with_reducible apply i_next
  | with_reducible apply i_break
  | with_reducible apply i_un
  | with_reducible apply i_rU
  | with_reducible apply i_tup
  | with_reducible apply i_lst
  | with_reducible apply i_par
  | with_reducible apply i_chain
  | with_reducible apply i_gcons
  | with_reducible apply i_gnil
  | with_reducible apply i_prop
  | with_reducible apply i_make
  | ((with_reducible apply i_aug); exact rfl)
  | with_reducible apply i_ipI
  | with_reducible apply i_sl
  | with_reducible apply i_noPart
  | with_reducible apply i_part
  | with_reducible apply i_bm
  | with_reducible apply i_bm0
  | with_reducible apply i_lc
  | with_reducible apply i_for
  | with_reducible apply i_iStr
  | with_reducible apply i_iList
  | with_reducible apply i_iTup
  | with_reducible apply i_rng1
  | with_reducible apply i_rng2
  | with_reducible apply i_yes
  | with_reducible apply i_refE
  | with_reducible apply i_strE
  | with_reducible apply i_sfld
  | with_reducible apply i_dput
  | with_reducible apply i_dget
  | with_reducible apply i_din
  | with_reducible apply i_dnotin
  | with_reducible apply i_dnew
  | with_reducible apply i_augS
  | with_reducible apply i_gsub
  | with_reducible apply i_asg2
  | with_reducible apply i_disp1
  | with_reducible apply i_ar
  | with_reducible apply i_sfldaug
  | with_reducible apply i_gfld
  | with_reducible apply i_ckw
  | with_reducible apply i_rAdd
  | with_reducible apply i_par3
  | with_reducible apply i_iZip)))
abbrev N_law_bag : List Str := ["_law_script", "_law_at_here", "_law_primes", "_law_cell", "_law_large", "_law_mixed"]
theorem sc_law_bag : FnScope N_law_bag ["_law_script", "_law_at_here"] (defScope s_law_bag) := ⟨rfl, rfl, rfl, by decide +kernel, rfl, by decide +kernel, by decide +kernel⟩
abbrev N_law_take : List Str := ["_law_bag_here", "_law_many", "_law_digit"]
theorem sc_law_take : FnScope N_law_take ["_law_bag_here", "_law_many"] (defScope s_law_take) := ⟨rfl, rfl, rfl, by decide +kernel, rfl, by decide +kernel, by decide +kernel⟩
abbrev N_law_leaf : List Str := ["_law_bag_here", "_law_some"]
theorem sc_law_leaf : FnScope N_law_leaf ["_law_bag_here"] (defScope s_law_leaf) := ⟨rfl, rfl, rfl, by decide +kernel, rfl, by decide +kernel, by decide +kernel⟩
abbrev N_law_by_mark : List Str := ["_law_mine", "_law_yours", "_law_mark"]
theorem sc_law_by_mark : FnScope N_law_by_mark ["_law_mine", "_law_yours", "_law_mark"] (defScope s_law_by_mark) := ⟨rfl, rfl, rfl, by decide +kernel, rfl, by decide +kernel, by decide +kernel⟩
/-- a bag: a large number, not negative, and a mixed one -/
def BagAt (H : Hp) (b : Addr) : Prop := ∃ L M : Int, 0 ≤ L ∧ H b = some (.lst [.int L, .int M])
theorem BagAt.kp {S : List Addr} {H H' : Hp} {b : Addr} (h : BagAt H b) (k : Kp S H H') (n : ¬ b ∈ S) : BagAt H' b := by
  obtain ⟨L, M, l, e⟩ := h
  exact ⟨L, M, l, k.k _ _ n e⟩
theorem BagAt.kp0 {H H' : Hp} {b : Addr} (h : BagAt H b) (k : Kp [] H H') : BagAt H' b := h.kp k fun z => nomatch z
def spBag (K : PySem.W.Frag) : Sp := fun vs H Q _ => ∃ (s : Addr) (ns : List Int) (k : Nat), vs = [.ref s, .int (k : Nat)] ∧ SqL K H s (ns.map V.int) ∧ k < 5 ∧ ∀ H' b, Kp [] H H' → BagAt H' b → H b = none → Q (.ref b) H'
def spTake : Sp := fun vs H Q _ => ∃ (b : Addr) (n : Nat), vs = [.ref b, .int (n : Nat)] ∧ 0 < n ∧ n < 2 ^ 200 ∧ BagAt H b ∧ ∀ H' m, m < n → Kp [b] H H' → BagAt H' b → Q (.int ((m : Nat) : Int)) H'
/-- a leaf: an item that leads nowhere -/
def IsLf (i : It) : Prop := ∀ n : Nat, ItOk n i
def spLLeaf : Sp := fun vs H Q _ => ∃ b : Addr, vs = [.ref b] ∧ BagAt H b ∧ ∀ H' it v, Kp [b] H H' → BagAt H' b → ItV H' it v → IsLf it → Q v H'
def spMark : Sp := fun vs H Q _ => ∃ (i j : Int) (sg : Str), vs = [.int i, .int j, .str sg] ∧ sg ∈ (["<", "<=", ">", ">="] : List Str) ∧ ∀ H', Kp [] H H' → Q (.str (yn (stI sg i j))) H'
/-- the seven primes -/
def P7 : List V := [.int 2147483647, .int 2147483629, .int 2147483587, .int 2147483579, .int 2147483563, .int 2147483549, .int 2147483543]
theorem primes_at {i : Int} (h0 : 0 ≤ i) (h7 : i < 7) : ∃ p : Int, atI P7 i = some (.int p) ∧ 0 < p ∧ p ≤ 2147483647 := by
  obtain ⟨n, rfl⟩ := Int.eq_ofNat_of_zero_le h0
  have hn : n < 7 := by omega
  match n, hn with
  | 0, _ => exact ⟨_, rfl, by decide, by decide⟩
  | 1, _ => exact ⟨_, rfl, by decide, by decide⟩
  | 2, _ => exact ⟨_, rfl, by decide, by decide⟩
  | 3, _ => exact ⟨_, rfl, by decide, by decide⟩
  | 4, _ => exact ⟨_, rfl, by decide, by decide⟩
  | 5, _ => exact ⟨_, rfl, by decide, by decide⟩
  | 6, _ => exact ⟨_, rfl, by decide, by decide⟩
theorem st_lt {i j : Int} : stI "<" i j = decide (i < j) := by unfold stI; rw [if_pos rfl]
theorem st_le {i j : Int} : stI "<=" i j = decide (i ≤ j) := by unfold stI; rw [if_neg (by decide), if_pos rfl]
theorem st_gt {i j : Int} : stI ">" i j = decide (j < i) := by unfold stI; rw [if_neg (by decide), if_neg (by decide), if_pos rfl]
theorem st_ge {i j : Int} : stI ">=" i j = decide (j ≤ i) := by unfold stI; rw [if_neg (by decide), if_neg (by decide), if_neg (by decide)]
def lv10 : List V := [.int 0, .int 1, .int 2, .str "a", .str "b", .str "", .int (-1), .int (10 ^ 39), .str "abcdefgh", .int (-10 ^ 20)]
def ix12 : List V := [.int 0, .int 1, .int 1, .int 2, .int 3, .int 3, .int 4, .int 5, .int 6, .int 7, .int 8, .int 9]
theorem ix12_at {m : Nat} (h : m < 12) : ∃ j : Nat, atI ix12 (m : Int) = some (.int (j : Nat)) ∧ j < 10 := by
  match m, h with
  | 0, _ => exact ⟨0, rfl, by decide⟩
  | 1, _ => exact ⟨1, rfl, by decide⟩
  | 2, _ => exact ⟨1, rfl, by decide⟩
  | 3, _ => exact ⟨2, rfl, by decide⟩
  | 4, _ => exact ⟨3, rfl, by decide⟩
  | 5, _ => exact ⟨3, rfl, by decide⟩
  | 6, _ => exact ⟨4, rfl, by decide⟩
  | 7, _ => exact ⟨5, rfl, by decide⟩
  | 8, _ => exact ⟨6, rfl, by decide⟩
  | 9, _ => exact ⟨7, rfl, by decide⟩
  | 10, _ => exact ⟨8, rfl, by decide⟩
  | 11, _ => exact ⟨9, rfl, by decide⟩
theorem okw_of {s : Str} (h : s.length ≤ 8) (h2 : s.cps.toList.all (fun c => decide (c ∈ letters.cps.toList)) = true) : OkW s := by
  refine ⟨h, fun i c e => ?_⟩
  rw [List.all_eq_true] at h2
  exact of_decide_eq_true (h2 c (Array.mem_toList_iff.mpr (Array.mem_of_getElem? e)))
theorem lf_i (i : Int) : IsLf (.i i) := fun _ => trivial
theorem lf_w {s : Str} (h : OkW s) : IsLf (.w s) := fun _ => h
theorem lv10_at {H : Hp} {j : Nat} (h : j < 10) : ∃ it v, atI lv10 (j : Int) = some v ∧ ItV H it v ∧ IsLf it := by
  match j, h with
  | 0, _ => exact ⟨.i 0, _, rfl, rfl, lf_i _⟩
  | 1, _ => exact ⟨.i 1, _, rfl, rfl, lf_i _⟩
  | 2, _ => exact ⟨.i 2, _, rfl, rfl, lf_i _⟩
  | 3, _ => exact ⟨.w "a", _, rfl, rfl, lf_w (okw_of (by decide +kernel) (by decide +kernel))⟩
  | 4, _ => exact ⟨.w "b", _, rfl, rfl, lf_w (okw_of (by decide +kernel) (by decide +kernel))⟩
  | 5, _ => exact ⟨.w "", _, rfl, rfl, lf_w (okw_of (by decide +kernel) (by decide +kernel))⟩
  | 6, _ => exact ⟨.i (-1), _, rfl, rfl, lf_i _⟩
  | 7, _ => exact ⟨.i (10 ^ 39), _, rfl, rfl, lf_i _⟩
  | 8, _ => exact ⟨.w "abcdefgh", _, rfl, rfl, lf_w (okw_of (by decide +kernel) (by decide +kernel))⟩
  | 9, _ => exact ⟨.i (-10 ^ 20), _, rfl, rfl, lf_i _⟩
section
variable {P : Program} {w : World} {K : PySem.W.Frag} {mg : Str → Option Value} {base : Heap} {cV cO cH : Addr}
theorem ok_law_take (T : Txt K mg cV cO cH) : Fn0 P w K mg base 1 "_law_take" ["_law_bag_here", "_law_many"] spTake := by
  refine T.d_law_take.ok sc_law_take (fun vs H Q E h => ?_) (fun _ _ _ _ _ _ us hl => match us, hl with | [_, _], _ => rfl) (fun f cdv A outer s H vs Q E hr h => ?_)
  · obtain ⟨_, _, rfl, _⟩ := h
    rfl
  · obtain ⟨b, n, rfl, n0, n9, ⟨L, M, l0, e⟩, q⟩ := h
    have n0' : (0 : Int) < (n : Int) := by omega
    refine ⟨_, (pss_cons (ps_if (pt_cmpR op_gt (pe_ix ix_list (pv 0) pe_int (fun _ _ => rfl)) pe_int (nomark _))
      (pss_cons (ps_set (i := 2) sc_law_take.nd rfl (by first | exact Or.inl rfl | exact Or.inr rfl) (pe_op op_mod (pe_ix ix_list (pv 0) pe_int (fun _ _ => rfl)) (pv 1)))
      (pss_cons (ps_asg (pe_op op_fdivW (pe_ix ix_list (pv 0) pe_int (fun _ _ => rfl)) (pv 1)) (pg_sub (pv 0) pe_int set_list))
      (pss_one (ps_ret (pv 2)))))
      pss_nil)
    (pss_cons (ps_asg (pe_op op_mod (pe_op op_mul (pe_ix ix_list (pv 0) pe_int (fun _ _ => rfl)) pe_int) pe_int) (pg_sub (pv 0) pe_int set_list))
    (pss_one (ps_ret (pe_op op_mod (pe_op op_fdiv (pe_op op_mod (pe_op op_mul (pe_ix ix_list (pv 0) pe_int (fun _ _ => rfl)) pe_int) pe_int) (pe_op op_pow pe_int pe_int)) (pv 1)))))), ?_⟩
    have fin : ∀ (H' : Hp) (i : Int), Kp [b] H H' → BagAt H' b → Q (.int (i % (n : Int))) H' := fun H' i k hb => by
      have h1 := Int.emod_nonneg i (Int.ne_of_gt n0')
      have h2 := Int.emod_lt_of_pos i n0'
      have z := q H' (i % (n : Int)).toNat (by omega) k hb
      rwa [Int.toNat_of_nonneg h1] at z
    walk_at "go"
    refine i_ixL e rfl ?_
    walk_at "go"
    refine iteB (fun hz => ?_) (fun hz => ?_)
    · walk_at "go"
      refine i_ixL e rfl ?_
      walk_at "go"
      refine i_rI n0' ?_
      walk_at "go"
      refine i_ixL e rfl ?_
      walk_at "go"
      refine i_rI (wide_div (b := 200) n0' (by rw [Int.natAbs_natCast]; exact n9) (by decide) (by decide)) ?_
      walk_at "go"
      refine ⟨b, _, 0, 0, rfl, rfl, e, rfl, ?_⟩
      walk_at "go"
      exact fin _ L (Kp.wr (List.mem_singleton.mpr rfl) e (fun _ z => nomatch z)) ⟨L / n, M, Int.ediv_nonneg l0 (Int.le_of_lt n0'), upd_same⟩
    · walk_at "go"
      refine i_ixL e rfl ?_
      walk_at "go"
      refine i_rI (.inr (by decide)) ?_
      walk_at "go"
      refine i_rI (by decide) ?_
      walk_at "go"
      refine ⟨b, _, 1, 1, rfl, rfl, e, rfl, ?_⟩
      have k1 : Kp [b] H (upd H b (.lst ([V.int L, V.int M].set 1 (.int (M * 48271 % 2147483647))))) := Kp.wr (List.mem_singleton.mpr rfl) e (fun _ z => nomatch z)
      walk_at "go"
      refine i_ixL upd_same rfl ?_
      walk_at "go"
      refine i_rI (.inr (by decide)) ?_
      walk_at "go"
      refine i_rI (by decide) ?_
      walk_at "go"
      refine i_rI ⟨by decide, by decide, by decide⟩ ?_
      walk_at "go"
      refine i_rI ⟨by decide, by decide⟩ ?_
      walk_at "go"
      refine i_rI n0' ?_
      exact fin _ _ k1 ⟨L, _, l0, upd_same⟩
theorem ok_law_bag (T : Txt K mg cV cO cH) : Fn0 P w K mg base 1 "_law_bag" ["_law_script", "_law_at_here"] (spBag K) := by
  refine T.d_law_bag.ok sc_law_bag (fun vs H Q E h => ?_) (fun _ _ _ _ _ _ us hl => match us, hl with | [_, _], _ => rfl) (fun f cdv A outer s H vs Q E hr h => ?_)
  · obtain ⟨_, _, _, rfl, _⟩ := h
    rfl
  · obtain ⟨sc, ns, k, rfl, hs, hk, q⟩ := h
    refine ⟨_, (pss_cons (ps_set (i := 2) sc_law_bag.nd rfl (by first | exact Or.inl rfl | exact Or.inr rfl) (pe_tup (pa_cons pe_int (pa_cons pe_int (pa_cons pe_int (pa_cons pe_int (pa_cons pe_int (pa_cons pe_int (pa_cons pe_int pa_nil)))))))))
    (pss_cons (ps_set (i := 3) sc_law_bag.nd rfl (by first | exact Or.inl rfl | exact Or.inr rfl) (pe_ifExp (pt_cmpR op_lt (pv 1) (pe_bf call_len_seq T.f_len (pa_cons (pv 0) pa_nil)) (nomark _)) (pe_ix ix_list (pv 0) (pv 1) (fun _ _ => rfl)) pe_int))
    (pss_cons (ps_set (i := 4) sc_law_bag.nd rfl (by first | exact Or.inl rfl | exact Or.inr rfl) (pe_ifExp (pt_cmpR op_ge (pe_bf call_abs T.f_abs (pa_cons (pv 3) pa_nil)) (pe_op op_pow pe_int pe_int) (nomark _)) (pe_bf call_abs T.f_abs (pa_cons (pv 3) pa_nil)) pe_int))
    (pss_cons (ps_set (i := 5) sc_law_bag.nd rfl (by first | exact Or.inl rfl | exact Or.inr rfl) (pe_op op_mod (pe_op op_pow (pe_op op_add (pe_op op_add (pe_op op_mod (pv 3) pe_int) (pe_op op_mul pe_int (pv 1))) pe_int) pe_int) (pe_ix ix_tup (pv 2) (pe_op op_mod (pv 1) pe_int) (fun _ _ => rfl))))
    (pss_one (ps_ret (pe_lst (pa_cons (pv 4) (pa_cons (pe_op op_add (pe_op op_mod (pe_op op_mul (pv 5) (pe_op op_add (pe_op op_add (pe_op op_fdiv (pv 5) pe_int) (pe_op op_mul pe_int (pv 1))) pe_int)) (pe_ix ix_tup (pv 2) (pe_op op_mod (pe_op op_add (pv 1) pe_int) pe_int) (fun _ _ => rfl))) pe_int) pa_nil))))))))), ?_⟩
    walk_at "go"
    refine ⟨by show 7 ≤ sizeLine; decide, fun t ht => ?_⟩
    have k1 : Kp [] H (upd H t (.tup P7)) := Kp.new ht
    have et : (upd H t (.tup P7)) t = some (.tup P7) := upd_same
    have hs1 := k1.sqL (fun z => nomatch z) hs
    refine i_name ?_
    dsimp only
    unfold P7 at k1 et hs1
    generalize upd H t (.tup [.int 2147483647, .int 2147483629, .int 2147483587, .int 2147483579, .int 2147483563, .int 2147483549, .int 2147483543]) = H1 at k1 et hs1 ⊢
    refine i_cut (fun σ' H' => ∃ cell : Int, H' = H1 ∧ σ' = [some (.ref sc), some (.int (k : Nat)), some (.ref t), some (.int cell), none, none]) ?_ (fun NX hNX => ?_)
    · rintro σ' H' ⟨cell, rfl, rfl⟩
      refine i_cut (fun σ' H1 => ∃ L : Int, 0 ≤ L ∧ H1 = H' ∧ σ' = [some (.ref sc), some (.int (k : Nat)), some (.ref t), some (.int cell), some (.int L), none]) ?_ (fun NX hNX => ?_)
      · rintro σ' H1 ⟨L, l0, rfl, rfl⟩
        have b1 := Int.emod_nonneg cell (b := 2305843009213693951) (by decide)
        have b2 := Int.emod_lt_of_pos cell (b := 2305843009213693951) (by decide)
        obtain ⟨p, ep, p0, p1⟩ := primes_at (i := ((k : Nat) : Int) % 7) (by omega) (by omega)
        obtain ⟨p', ep', p0', p1'⟩ := primes_at (i := (((k : Nat) : Int) + 3) % 7) (by omega) (by omega)
        walk_at "go"
        refine i_rI (by decide) ?_
        walk_at "go"
        refine i_rI (.inl (by decide)) ?_
        walk_at "go"
        refine i_rI ⟨by decide, by decide, ?_⟩ ?_
        · omega
        walk_at "go"
        refine i_rI (by decide) ?_
        walk_at "go"
        refine i_ixT et ep ?_
        walk_at "go"
        refine i_rI p0 ?_
        walk_at "go"
        have m1 := Int.emod_nonneg ((cell % 2305843009213693951 + 77003 * (k : Int) + 23) ^ Int.toNat 3) (Int.ne_of_gt p0)
        have m2 := Int.emod_lt_of_pos ((cell % 2305843009213693951 + 77003 * (k : Int) + 23) ^ Int.toNat 3) p0
        generalize (cell % 2305843009213693951 + 77003 * (k : Int) + 23) ^ Int.toNat 3 % p = m at m1 m2
        refine i_rI ⟨by decide, by decide⟩ ?_
        walk_at "go"
        refine i_rI (.inl (by decide)) ?_
        walk_at "go"
        refine i_rI (.inl ⟨by omega, by omega⟩) ?_
        walk_at "go"
        refine i_rI (by decide) ?_
        walk_at "go"
        refine i_ixT et ep' ?_
        walk_at "go"
        refine i_rI p0' ?_
        walk_at "go"
        refine ⟨by show 2 ≤ sizeLine; decide, fun b hb => ?_⟩
        have k2 : Kp [] H1 (upd H1 b (.lst [.int L, .int (m * (m / 7 + 5 * (k : Int) + 13) % p' + 1)])) := Kp.new hb
        exact q _ b (k1.trans k2) ⟨L, _, l0, upd_same⟩ (k1.free (fun z => nomatch z) hb)
      · walk_at "go"
        refine ⟨cell, rfl, ?_⟩
        walk_at "go"
        refine i_rI ⟨by decide, by decide, by decide⟩ ?_
        walk_at "go"
        refine iteB (fun hz => ?_) (fun hz => ?_)
        · walk_at "go"
          refine ⟨cell, rfl, ?_⟩
          walk_at "go"
          refine hNX _ _ ⟨_, ?_, rfl, rfl⟩
          split <;> omega
        · walk_at "go"
          exact hNX _ _ ⟨0, Int.le_refl _, rfl, rfl⟩
    · walk_at "go"
      refine ⟨sc, _, rfl, .inl hs1, ?_⟩
      walk_at "go"
      refine iteB (fun hz => ?_) (fun hz => ?_)
      · walk_at "go"
        have hl := of_decide_eq_true hz
        rw [List.length_map] at hl
        have hl' : k < ns.length := by omega
        refine ⟨sc, ns.map V.int, ((k : Nat) : Int), .int ns[k], rfl, rfl, hs1, atI_nat (by rw [List.getElem?_map, List.getElem?_eq_getElem hl']; rfl), ?_⟩
        walk_at "go"
        exact hNX _ _ ⟨_, rfl, rfl⟩
      · walk_at "go"
        exact hNX _ _ ⟨0, rfl, rfl⟩
theorem ok_law_leaf (T : Txt K mg cV cO cH) : Fn0 P w K mg base 2 "_law_leaf" ["_law_bag_here"] spLLeaf := by
  have h_law_take := ok_law_take (P := P) (w := w) (base := base) T
  refine T.d_law_leaf.ok sc_law_leaf (fun vs H Q E h => ?_) (fun _ _ _ _ _ _ us hl => match us, hl with | [_], _ => rfl) (fun f cdv A outer s H vs Q E hr h => ?_)
  · obtain ⟨_, rfl, _⟩ := h
    rfl
  · obtain ⟨b, rfl, hb, q⟩ := h
    refine ⟨_, (pss_cons (ps_set (i := 1) sc_law_leaf.nd rfl (by first | exact Or.inl rfl | exact Or.inr rfl) (pe_lst (pa_cons pe_int (pa_cons pe_int (pa_cons pe_int (pa_cons pe_str (pa_cons pe_str (pa_cons pe_str (pa_cons (pe_un un_neg pe_int) (pa_cons (pe_op op_pow pe_int pe_int) (pa_cons pe_str (pa_cons (pe_un un_neg (pe_op op_pow pe_int pe_int)) pa_nil))))))))))))
    (pss_one (ps_ret (pe_ix ix_list (pv 1) (pe_ix ix_list (pe_lst (pa_cons pe_int (pa_cons pe_int (pa_cons pe_int (pa_cons pe_int (pa_cons pe_int (pa_cons pe_int (pa_cons pe_int (pa_cons pe_int (pa_cons pe_int (pa_cons pe_int (pa_cons pe_int (pa_cons pe_int pa_nil))))))))))))) (pe_fn h_law_take hr (by decide) rfl (pa_cons (pv 0) (pa_cons pe_int pa_nil))) (fun _ _ => rfl)) (fun _ _ => rfl))))), ?_⟩
    walk_at "go"
    refine i_rI ⟨by decide, by decide, by decide⟩ ?_
    walk_at "go"
    refine i_rI ⟨by decide, by decide, by decide⟩ ?_
    walk_at "go"
    refine ⟨by show 10 ≤ sizeLine; decide, fun t ht => ?_⟩
    refine i_name ?_
    show tRet _ _ _ (upd H t (.lst lv10))
    have k1 : Kp [] H (upd H t (.lst lv10)) := Kp.new ht
    have e1 : (upd H t (.lst lv10)) t = some (.lst lv10) := upd_same
    have nbt : b ≠ t := fun z => by obtain ⟨_, _, _, e9⟩ := hb; rw [z, ht] at e9; cases e9
    generalize upd H t (.lst lv10) = H1 at k1 e1
    walk_at "go"
    refine ⟨by show 12 ≤ sizeLine; decide, fun t2 ht2 => ?_⟩
    show tCall _ _ _ _ _ (upd H1 t2 (.lst ix12)) _
    have k2 : Kp [] H1 (upd H1 t2 (.lst ix12)) := Kp.new ht2
    have e2 : (upd H1 t2 (.lst ix12)) t2 = some (.lst ix12) := upd_same
    have nbt2 : b ≠ t2 := fun z => by obtain ⟨_, _, _, e9⟩ := hb.kp0 k1; rw [z, ht2] at e9; cases e9
    generalize upd H1 t2 (.lst ix12) = H2 at k2 e2
    walk_at "go"
    refine ⟨b, 12, rfl, by decide, by decide, hb.kp0 (k1.trans k2), fun H' m hm k3 hb3 => ?_⟩
    have e3 := k3.k _ _ (fun z => nbt2 (List.mem_singleton.mp z).symm) e2
    have e4 := k3.k _ _ (fun z => nbt (List.mem_singleton.mp z).symm) (k2.at0 e1)
    obtain ⟨j, ej, hj⟩ := ix12_at hm
    obtain ⟨it, v, ev, hv, hl⟩ := lv10_at (H := H') hj
    refine i_ixL e3 ej ?_
    refine i_ixL e4 ev ?_
    exact q H' it v ((k1.trans k2).of0.trans k3) hb3 hv hl
theorem ok_law_by_mark (T : Txt K mg cV cO cH) : Fn0 P w K mg base 1 "_law_by_mark" ["_law_mine", "_law_yours", "_law_mark"] spMark := by
  refine T.d_law_by_mark.ok sc_law_by_mark (fun vs H Q E h => ?_) (fun _ _ _ _ _ _ us hl => match us, hl with | [_, _, _], _ => rfl) (fun f cdv A outer s H vs Q E hr h => ?_)
  · obtain ⟨_, _, _, rfl, _⟩ := h
    rfl
  · obtain ⟨i, j, sg, rfl, hsg, q⟩ := h
    refine ⟨_, (pss_cons (ps_if (pt_cmpR op_in_seq (pv 2) (pe_tup (pa_cons pe_str (pa_cons pe_str pa_nil))) (by rfl))
      (pss_one (ps_ret (pe_ifExp (PW.pt (pw_or (pt_cmpR op_lt (pv 0) (pv 1) (nomark _)) (pw_or1 (PW.pt (pw_and (pt_cmpR op_eq (pv 2) pe_str (nomark _)) (pw_and1 (pt_cmpR op_eq (pv 0) (pv 1) (nomark _)))))))) pe_str pe_str)))
      pss_nil)
    (pss_one (ps_ret (pe_ifExp (PW.pt (pw_or (pt_cmpR op_gt (pv 0) (pv 1) (nomark _)) (pw_or1 (PW.pt (pw_and (pt_cmpR op_eq (pv 2) pe_str (nomark _)) (pw_and1 (pt_cmpR op_eq (pv 0) (pv 1) (nomark _)))))))) pe_str pe_str)))), ?_⟩
    walk_at "go"
    refine ⟨by show 2 ≤ sizeLine; decide, fun t ht => ?_⟩
    have k1 : Kp [] H (upd H t (.tup [.str "<", .str "<="])) := Kp.new ht
    refine ⟨_, _, rfl, .inr (SqT.of upd_same), rfl, by decide +kernel, ?_⟩
    have z := q _ k1
    generalize upd H t (.tup [.str "<", .str "<="]) = H1 at z
    simp only [List.mem_cons, List.not_mem_nil, or_false] at hsg
    rcases hsg with rfl | rfl | rfl | rfl
    · refine ⟨_, rfl, iteT (by decide +kernel) ?_⟩
      rw [st_lt] at z
      walk_at "go"
      refine iteB (fun hz => ?_) (fun hz => ?_)
      · walk_at "go"
        rw [hz] at z
        exact z
      · walk_at "go"
        refine iteF (by decide +kernel) ?_
        walk_at "go"
        rw [hz] at z
        exact z
    · refine ⟨_, rfl, iteT (by decide +kernel) ?_⟩
      rw [st_le] at z
      walk_at "go"
      refine iteB (fun hz => ?_) (fun hz => ?_)
      · have h1 := of_decide_eq_true hz
        walk_at "go"
        rw [decide_eq_true (by omega)] at z
        exact z
      · have h1 := of_decide_eq_false hz
        walk_at "go"
        refine iteT (by decide +kernel) ?_
        walk_at "go"
        refine iteB (fun hz2 => ?_) (fun hz2 => ?_)
        · have h2 := of_decide_eq_true hz2
          walk_at "go"
          rw [decide_eq_true (by omega)] at z
          exact z
        · have h2 := of_decide_eq_false hz2
          walk_at "go"
          rw [decide_eq_false (by omega)] at z
          exact z
    · refine ⟨_, rfl, iteF (by decide +kernel) ?_⟩
      rw [st_gt] at z
      walk_at "go"
      refine iteB (fun hz => ?_) (fun hz => ?_)
      · walk_at "go"
        rw [hz] at z
        exact z
      · walk_at "go"
        refine iteF (by decide +kernel) ?_
        walk_at "go"
        rw [hz] at z
        exact z
    · refine ⟨_, rfl, iteF (by decide +kernel) ?_⟩
      rw [st_ge] at z
      walk_at "go"
      refine iteB (fun hz => ?_) (fun hz => ?_)
      · have h1 := of_decide_eq_true hz
        walk_at "go"
        rw [decide_eq_true (by omega)] at z
        exact z
      · have h1 := of_decide_eq_false hz
        walk_at "go"
        refine iteT (by decide +kernel) ?_
        walk_at "go"
        refine iteB (fun hz2 => ?_) (fun hz2 => ?_)
        · have h2 := of_decide_eq_true hz2
          walk_at "go"
          rw [decide_eq_true (by omega)] at z
          exact z
        · have h2 := of_decide_eq_false hz2
          walk_at "go"
          rw [decide_eq_false (by omega)] at z
          exact z
end
end Rk
set_option Elab.async false
set_option linter.all false
set_option maxRecDepth 100000
set_option maxHeartbeats 1000000
/-! contents -/
namespace Rk
open PySem PySem.Spec PyProof.Rows L2
local macro_rules | `(tactic| walk_at "go") => `(tactic| ((try dsimp only); repeat (first
  | with_reducible apply i_seq
  | ((with_reducible apply i_var); exact rfl)
  | with_reducible apply i_c
  | with_reducible apply i_cons
  | with_reducible apply i_nil
  | with_reducible apply i_call
  | with_reducible apply i_cb
  | with_reducible apply i_meth
  | with_reducible apply i_fld
  | with_reducible apply i_op
  | with_reducible apply i_rI0
  | with_reducible apply i_eqI
  | with_reducible apply i_neI
  | with_reducible apply i_eqS
  | with_reducible apply i_neS
  | with_reducible apply i_if
  | with_reducible apply i_test
  | with_reducible apply i_b
  | with_reducible apply i_bl
  | with_reducible apply i_int
  | with_reducible apply i_and
  | with_reducible apply i_or
  | with_reducible apply i_not
  | with_reducible apply i_andV
  | with_reducible apply i_orV
  | with_reducible apply i_notV
  | with_reducible apply i_ifE
  | with_reducible apply i_itt
  | with_reducible apply i_itf
  | with_reducible apply i_nt
  | with_reducible apply i_nf
  | with_reducible apply i_asg
  | with_reducible apply i_name
  | with_reducible apply i_ret
  | with_reducible apply i_retN
  | with_reducible apply i_drop
  | with_reducible apply i_next
  | with_reducible apply i_break
  | with_reducible apply i_un
  | with_reducible apply i_rU
  | with_reducible apply i_tup
  | with_reducible apply i_lst
  | with_reducible apply i_par
  | with_reducible apply i_chain
  | with_reducible apply i_gcons
  | with_reducible apply i_gnil
  | with_reducible apply i_prop
  | with_reducible apply i_make
  | ((with_reducible apply i_aug); exact rfl)
  | with_reducible apply i_ipI
  | with_reducible apply i_sl
  | with_reducible apply i_noPart
  | with_reducible apply i_part
  | with_reducible apply i_bm
  | with_reducible apply i_bm0
  | with_reducible apply i_lc
  | with_reducible apply i_for
  | with_reducible apply i_iStr
  | with_reducible apply i_iList
  | with_reducible apply i_iTup
  | with_reducible apply i_rng1
  | with_reducible apply i_rng2
  | with_reducible apply i_yes
  | with_reducible apply i_refE
  | with_reducible apply i_strE
  | with_reducible apply i_sfld
  | with_reducible apply i_dput
  | with_reducible apply i_dget
  | with_reducible apply i_din
  | with_reducible apply i_dnotin
  | with_reducible apply i_dnew
  | with_reducible apply i_augS
  | with_reducible apply i_gsub
  | with_reducible apply i_asg2
  | with_reducible apply i_disp1
  | with_reducible apply i_ar
  | with_reducible apply i_sfldaug
  | with_reducible apply i_gfld
  | with_reducible apply i_ckw
  | with_reducible apply i_rAdd
  | with_reducible apply i_par3
  | with_reducible apply i_iZip)))
abbrev N_law_contents : List Str := ["_law_bag_here", "_law_most", "_law_total", "_law_found", "_law_k", "_law_row", "_law_turn"]
theorem sc_law_contents : FnScope N_law_contents ["_law_bag_here", "_law_most"] (defScope s_law_contents) := ⟨rfl, rfl, rfl, by decide +kernel, rfl, by decide +kernel, by decide +kernel⟩
abbrev N_law_heap : List Str := ["_law_contents_here", "_law_row"]
theorem sc_law_heap : FnScope N_law_heap ["_law_contents_here"] (defScope s_law_heap) := ⟨rfl, rfl, rfl, by decide +kernel, rfl, by decide +kernel, by decide +kernel⟩
/-- lists of lists that are new since H0 -/
structure Cts (H0 H : Hp) (l : Addr) (as : List Addr) (c : Ctn) (N R : Nat) : Prop where
  at_ : LstsAt H l as c
  nd : as.Nodup
  nl : ¬ l ∈ as
  fl : H0 l = none
  fa : ∀ a ∈ as, H0 a = none
  lo : 1 ≤ c.length
  hi : c.length ≤ N
  len : ∀ r ∈ c, r.length ≤ R
  ok : ∀ r ∈ c, ∀ it ∈ r, ItOk c.length it
def spLCont : Sp := fun vs H Q _ => ∃ (b : Addr) (n : Nat), vs = [.ref b, .int (n : Nat)] ∧ 0 < n ∧ n ≤ 100 ∧ BagAt H b ∧ ∀ H' l as c, Kp [b] H H' → BagAt H' b → Cts H H' l as c n 3 → Q (.ref l) H'
def spLHeap (cH : Addr) : Sp := fun vs H Q _ => ∃ (l : Addr) (as0 : List Addr) (c : Ctn), vs = [.ref l] ∧ LstsAt H l as0 c ∧ (∀ r ∈ c, ∀ it ∈ r, ItOk c.length it) ∧ c.length ≤ 60 ∧ total c ≤ 300 ∧
  ∀ H' h l' as, Kp [] H H' → HpS H' cH h l' as c → H h = none → H l' = none → (∀ a ∈ as, H a = none) → Q (.ref h) H'
theorem BagAt.ne {H : Hp} {b x : Addr} (h : BagAt H b) (e : H x = none) : b ≠ x := fun z => by
  obtain ⟨_, _, _, e9⟩ := h
  rw [z, e] at e9; cases e9
theorem psnoc' {α β : Type} {F : α → β → Prop} {l : List α} {k : List β} (h : Paired F l k) {a : α} {b : β} (f : F a b) : Paired F (l ++ [a]) (k ++ [b]) := psnoc h f
section
variable {P : Program} {w : World} {K : PySem.W.Frag} {mg : Str → Option Value} {base : Heap} {cV cO cH : Addr}
theorem ok_law_contents (T : Txt K mg cV cO cH) : Fn0 P w K mg base 3 "_law_contents" ["_law_bag_here", "_law_most"] spLCont := by
  have h_law_take := ok_law_take (P := P) (w := w) (base := base) T
  have h_law_leaf := ok_law_leaf (P := P) (w := w) (base := base) T
  refine T.d_law_contents.ok sc_law_contents (fun vs H Q E h => ?_) (fun _ _ _ _ _ _ us hl => match us, hl with | [_, _], _ => rfl) (fun f cdv A outer s H vs Q E hr h => ?_)
  · obtain ⟨_, _, rfl, _⟩ := h
    rfl
  · obtain ⟨b, n, rfl, n0, n9, hb, q⟩ := h
    refine ⟨_, (pss_cons (ps_par (i := 2) (j := 3) rfl sc_law_contents.nd rfl rfl (by decide) rfl rfl (pa_cons (pe_op op_add pe_int (pe_fn h_law_take hr (by decide) rfl (pa_cons (pv 0) (pa_cons (pv 1) pa_nil)))) (pa_cons (pe_lst pa_nil) pa_nil)) (by rfl))
    (pss_cons (ps_for PassesOwn.never rfl (pi_range1 rfl T.f_range (pa_cons (pv 2) pa_nil)) (pg_name (i := 4) sc_law_contents.nd rfl (by first | exact Or.inl rfl | exact Or.inr rfl))
      (pss_cons (ps_set (i := 5) sc_law_contents.nd rfl (by first | exact Or.inl rfl | exact Or.inr rfl) (pe_lst pa_nil))
      (pss_cons (ps_for PassesOwn.never rfl (pi_range1 rfl T.f_range (pa_cons (pe_fn h_law_take hr (by decide) rfl (pa_cons (pv 0) (pa_cons pe_int pa_nil))) pa_nil)) (pg_name (i := 6) sc_law_contents.nd rfl (by first | exact Or.inl rfl | exact Or.inr rfl))
        (pss_one (ps_expr (pe_bm PySem.F.plainAttrs_list PySem.F.slot_list_append PySem.F.type_list_append mt_append (pv 5) (pa_cons (pe_ifExp (pt_cmpR op_gt (pe_fn h_law_take hr (by decide) rfl (pa_cons (pv 0) (pa_cons pe_int pa_nil))) pe_int (nomark _)) (pe_tup (pa_cons pe_str (pa_cons (pe_fn h_law_take hr (by decide) rfl (pa_cons (pv 0) (pa_cons (pv 2) pa_nil))) pa_nil))) (pe_fn h_law_leaf hr (by decide) rfl (pa_cons (pv 0) pa_nil))) pa_nil)))))
      (pss_one (ps_expr (pe_bm PySem.F.plainAttrs_list PySem.F.slot_list_append PySem.F.type_list_append mt_append (pv 3) (pa_cons (pv 5) pa_nil)))))))
    (pss_one (ps_ret (pv 3))))), ?_⟩
    walk_at "go"
    refine ⟨b, n, rfl, n0, Nat.lt_of_le_of_lt n9 (by decide), hb, fun H1 m hm k1 hb1 => ?_⟩
    walk_at "go"
    refine ⟨by show 0 ≤ sizeLine; decide, fun F hF => ?_⟩
    have k2 : Kp [b] H (upd H1 F (.lst [])) := k1.new' hF
    have hF0 : H F = none := by
      rcases Classical.em (F = b) with z | z
      · exact absurd z.symm (hb1.ne hF)
      · exact k1.free (by simpa using z) hF
    have hb2 : BagAt (upd H1 F (.lst [])) b := hb1.kp0 (Kp.new hF)
    have nbF : b ≠ F := hb.ne hF0
    have e1 : (1 : Int) + ((m : Nat) : Int) = ((m + 1 : Nat) : Int) := by omega
    rw [e1]
    walk_at "go"
    refine ⟨_, _, rfl, ?_⟩
    walk_at "go"
    refine ⟨_, rfl, by omega, by omega, ?_⟩
    rw [Int.toNat_natCast]
    refine ForW.it walk_range (fun i σ H' => ∃ z4 z5 z6 as c, σ = [some (.ref b), some (.int (n : Nat)), some (.int ((m + 1 : Nat) : Int)), some (.ref F), z4, z5, z6] ∧ Kp [b] H H' ∧ BagAt H' b ∧ LstsAt H' F as c ∧ as.Nodup ∧ ¬ F ∈ as ∧ (∀ a ∈ as, H a = none) ∧ c.length = i ∧ (∀ r ∈ c, r.length ≤ 3) ∧ ∀ r ∈ c, ∀ it ∈ r, ItOk (m + 1) it)
      ⟨_, _, _, [], [], rfl, k2, hb2, ⟨upd_same, .nil⟩, List.nodup_nil, (fun z => nomatch z), (fun _ z => nomatch z), rfl, (fun _ z => nomatch z), fun _ z => nomatch z⟩ (fun _ _ _ _ _ => trivial) ?_ ?_
    · rintro i x σ H3 H4 hi ⟨z4, z5, z6, as, c, rfl, k3, hb3, L3, nd3, nF3, fr3, lc3, l33, ok3⟩ ⟨rfl, rfl⟩
      walk_at "go"
      refine ⟨by show 0 ≤ sizeLine; decide, fun a ha => ?_⟩
      walk_at "go"
      have ka : Kp [] H4 (upd H4 a (.lst [])) := Kp.new ha
      have nba : b ≠ a := hb3.ne ha
      have ha0 : H a = none := k3.free (fun z => nba (List.mem_singleton.mp z).symm) ha
      refine ⟨b, 4, rfl, by decide, by decide, hb3.kp0 ka, fun H5 m2 hm2 k5 hb5 => ?_⟩
      walk_at "go"
      have e5 := k5.k a _ (fun z => nba (List.mem_singleton.mp z).symm) upd_same
      have K5 : Kp [b] H H5 := (k3.trans ka.of0).trans k5
      have K45 : Kp [b] H4 H5 := ka.of0.trans k5
      refine ⟨_, rfl, by omega, by omega, ?_⟩
      rw [Int.toNat_natCast]
      refine ForW.it walk_range (fun j σ H' => ∃ z6 r, σ = [some (.ref b), some (.int (n : Nat)), some (.int ((m + 1 : Nat) : Int)), some (.ref F), some (.int (0 + (i : Nat))), some (.ref a), z6] ∧ Kp [b] H H' ∧ Kp [b] H4 H' ∧ BagAt H' b ∧ RowAt H' r a ∧ r.length = j ∧ ∀ it ∈ r, ItOk (m + 1) it)
        ⟨_, [], rfl, K5, K45, hb5, ⟨[], e5, .nil⟩, rfl, fun _ z => nomatch z⟩ (fun _ _ _ _ _ => trivial) ?_ ?_
      · rintro j x σ H6 H7 hj ⟨z6, r, rfl, K7, K47, hb7, ⟨vs, ev, pv⟩, lr, okr⟩ ⟨rfl, rfl⟩
        have lv : vs.length < sizeLine := by rw [← plen pv, lr]; exact Nat.lt_of_lt_of_le (by omega : j < 4) (by decide)
        -- an item is put behind the row
        have put : ∀ (H8 : Hp) (it : It) (v : V), Kp [b] H7 H8 → BagAt H8 b → ItV H8 it v → ItOk (m + 1) it → ∀ (NX : L2.St → Hp → Prop), (∀ σ' H', (∃ z6 r, σ' = [some (.ref b), some (.int (n : Nat)), some (.int ((m + 1 : Nat) : Int)), some (.ref F), some (.int (0 + (i : Nat))), some (.ref a), z6] ∧ Kp [b] H H' ∧ Kp [b] H4 H' ∧ BagAt H' b ∧ RowAt H' r a ∧ r.length = j + 1 ∧ ∀ it ∈ r, ItOk (m + 1) it) → NX σ' H') →
            ∀ z, (∃ (p : Addr) (xs : List V) (w : V), V.ref a = .ref p ∧ [v] = [w] ∧ H8 p = some (.lst xs) ∧ xs.length < sizeLine ∧ NX [some (.ref b), some (.int (n : Nat)), some (.int ((m + 1 : Nat) : Int)), some (.ref F), some (.int (0 + (i : Nat))), some (.ref a), z] (upd H8 p (.lst (xs ++ [w])))) := by
          intro H8 it v k8 hb8 iv ok8 NX hNX z
          have e8 := k8.k a _ (fun z => nba (List.mem_singleton.mp z).symm) ev
          have k9 : Kp [a] H8 (upd H8 a (.lst (vs ++ [v]))) := Kp.wr (List.mem_singleton.mpr rfl) e8 (fun _ z => nomatch z)
          refine ⟨a, vs, v, rfl, rfl, e8, lv, hNX _ _ ⟨z, r ++ [it], rfl, (K7.trans k8).via k9 fun b hb => .inr (List.mem_singleton.mp hb ▸ ha0), (K47.trans k8).via k9 fun b hb => .inr (List.mem_singleton.mp hb ▸ ha), hb8.kp k9 (fun z => nba (List.mem_singleton.mp z)), ⟨_, upd_same, psnoc (pmap pv fun _ _ z => (z.kp k8).kp k9) (iv.kp k9)⟩, by rw [List.length_append, lr]; rfl, fun it' hit => ?_⟩⟩
          rcases List.mem_append.mp hit with h | h
          · exact okr it' h
          · rw [List.mem_singleton.mp h]; exact ok8
        walk_at "go"
        refine ⟨ty_list ev, ?_⟩
        walk_at "go"
        refine ⟨b, 3, rfl, by decide, by decide, hb7, fun H8 m3 hm3 k8 hb8 => ?_⟩
        walk_at "go"
        refine iteB (fun hz => ?_) (fun hz => ?_)
        · walk_at "go"
          refine ⟨b, m + 1, rfl, by omega, Nat.lt_of_le_of_lt (show m + 1 ≤ 100 by omega) (by decide), hb8, fun H9 m4 hm4 k9 hb9 => ?_⟩
          walk_at "go"
          refine ⟨by show 2 ≤ sizeLine; decide, fun t ht => ?_⟩
          have k10 : Kp [b] H9 (upd H9 t (.tup [.str "box", .int (m4 : Nat)])) := (Kp.new ht).of0
          exact put _ (.b m4) (.ref t) ((k8.trans k9).trans k10) (hb9.kp0 (Kp.new ht)) ⟨t, rfl, upd_same⟩ hm4 _ (fun _ _ z => z) _
        · walk_at "go"
          refine ⟨b, rfl, hb8, fun H9 it v k9 hb9 iv lf => ?_⟩
          exact put _ it v (k8.trans k9) hb9 iv (lf _) _ (fun _ _ z => z) _
      · rintro σ H6 ⟨z6, r, rfl, K6, K46, hb6, R6, lr, okr⟩
        have nFa : F ≠ a := ne_of_none L3.1 ha
        have nFb : ¬ F ∈ [b] := fun z => nbF (List.mem_singleton.mp z).symm
        have L6 : LstsAt H6 F as c := L3.kp K46 nFb fun a' ha' z => by
          have := fr3 a' ha'
          rw [List.mem_singleton.mp z] at this
          obtain ⟨_, _, _, e9⟩ := hb
          rw [this] at e9; cases e9
        walk_at "go"
        refine ⟨ty_list L6.1, ?_⟩
        walk_at "go"
        have lc6 := plen L3.2
        refine ⟨F, _, _, rfl, rfl, L6.1, by rw [List.length_map, ← lc6, lc3]; exact Nat.lt_of_lt_of_le (show i < 101 by omega) (by decide), ?_⟩
        have k7 : Kp [F] H6 (upd H6 F (.lst (as.map V.ref ++ [.ref a]))) := Kp.wr (List.mem_singleton.mpr rfl) L6.1 (fun _ z => nomatch z)
        have fra : ¬ a ∈ as := fun z => by
          obtain ⟨r, _, ws, e9, _⟩ := pmem L3.2 z
          rw [ha] at e9; cases e9
        refine ⟨_, _, _, as ++ [a], c ++ [r], rfl, K6.via k7 fun b hb => .inr (List.mem_singleton.mp hb ▸ hF0), hb6.kp k7 (fun z => nbF (List.mem_singleton.mp z)), ⟨by rw [upd_same, List.map_append]; rfl, psnoc (pmapm L6.2 fun _ a' ha' z => z.kp k7 fun y => nF3 (List.mem_singleton.mp y ▸ ha')) (R6.kp k7 fun y => nFa (List.mem_singleton.mp y).symm)⟩, ?_, ?_, ?_, by rw [List.length_append, lc3]; rfl, ?_, ?_⟩
        · exact List.nodup_append.mpr ⟨nd3, by simp, fun x hx y hy e => fra (by rw [List.mem_singleton] at hy; rw [← hy, ← e]; exact hx)⟩
        · intro z
          rcases List.mem_append.mp z with z | z
          · exact nF3 z
          · exact nFa (List.mem_singleton.mp z)
        · intro a' z
          rcases List.mem_append.mp z with z | z
          · exact fr3 a' z
          · rw [List.mem_singleton.mp z]; exact ha0
        · intro r' z
          rcases List.mem_append.mp z with z | z
          · exact l33 r' z
          · rw [List.mem_singleton.mp z]; omega
        · intro r' z
          rcases List.mem_append.mp z with z | z
          · exact ok3 r' z
          · rw [List.mem_singleton.mp z]; exact okr
    · rintro σ H3 ⟨z4, z5, z6, as, c, rfl, k3, hb3, L3, nd3, nF3, fr3, lc3, l33, ok3⟩
      walk_at "go"
      exact q H3 F as c k3 hb3 ⟨L3, nd3, nF3, hF0, fr3, by omega, by omega, l33, by rw [lc3]; exact ok3⟩
theorem ok_law_heap (T : Txt K mg cV cO cH) : Fn0 P w K mg base 9 "_law_heap" ["_law_contents_here"] (spLHeap cH) := by
  have h_of := ok_Heap_of (P := P) (w := w) (base := base) T
  refine T.d_law_heap.ok sc_law_heap (fun vs H Q E h => ?_) (fun _ _ _ _ _ _ us hl => match us, hl with | [_], _ => rfl) (fun f cdv A outer s H vs Q E hr h => ?_)
  · obtain ⟨_, _, _, rfl, _⟩ := h
    rfl
  · obtain ⟨l, as0, c, rfl, L, hok, hc, ht, q⟩ := h
    refine ⟨_, (pss_one (ps_ret (pe_of h_of T.rdH hr (by decide) (pe_gr T.gH) (pa_cons (pe_lc (own := [("_law_row", 1)]) rfl sc_law_heap.nd (pi_list (pv 0)) (blkOk_by (own := [("_law_row", 1)]) (N := N_law_heap) (sc := defScope s_law_heap) (by decide +kernel)) (by intro _ _ _ _ _; exact (pg_name (i := 1) sc_law_heap.nd rfl (by first | exact Or.inl rfl | exact Or.inr rfl))) (by intro _ _ _ _ _; exact pts_nil) (by intro _ _ _ _ _; exact (pe_bt (call_list_ofK (K := K) rfl) T.f_list (pa_cons (pv 1) pa_nil)))) pa_nil)))), ?_⟩
    walk_at "go"
    refine ⟨rfl, ?_⟩
    walk_at "go"
    refine ⟨⟨_, SqL.of L.1⟩, fun E hE => ?_⟩
    have nEl : E ≠ l := fun z => by rw [z, L.1] at hE; cases hE
    refine lc_copy walk_list (fun H' k => k.sqL (fun z => nEl (List.mem_singleton.mp z).symm) (SqL.of L.1)) L.2 (Nat.lt_of_le_of_lt hc (by decide)) hE (by decide) (by show 1 < 2; decide) fun H2 as2 k2 e2 p2 nd2 fr2 => ?_
    refine ⟨E, as2, c, rfl, e2, p2, hok, hc, ht, fun H3 h l' as k3 hS n1 n2 n3 => ?_⟩
    exact q H3 h l' as (k2.trans k3) hS (k2.free (fun z => nomatch z) n1) (k2.free (fun z => nomatch z) n2) fun a ha => k2.free (fun z => nomatch z) (n3 a ha)
end
end Rk
set_option Elab.async false
set_option linter.all false
set_option maxRecDepth 100000
set_option maxHeartbeats 1000000
/-! twofold -/
namespace Rk
open PySem PySem.Spec PyProof.Rows L2
local macro_rules | `(tactic| walk_at "go") => `(tactic| ((try dsimp only); repeat (first
  | with_reducible apply i_seq
  | ((with_reducible apply i_var); exact rfl)
  | with_reducible apply i_c
  | with_reducible apply i_cons
  | with_reducible apply i_nil
  | with_reducible apply i_call
  | with_reducible apply i_cb
  | with_reducible apply i_meth
  | with_reducible apply i_fld
  | with_reducible apply i_op
  | with_reducible apply i_rI0
  | with_reducible apply i_eqI
  | with_reducible apply i_neI
  | with_reducible apply i_eqS
  | with_reducible apply i_neS
  | with_reducible apply i_if
  | with_reducible apply i_test
  | with_reducible apply i_b
  | with_reducible apply i_bl
  | with_reducible apply i_int
  | with_reducible apply i_and
  | with_reducible apply i_or
  | with_reducible apply i_not
  | with_reducible apply i_andV
  | with_reducible apply i_orV
  | with_reducible apply i_notV
  | with_reducible apply i_ifE
  | with_reducible apply i_itt
  | with_reducible apply i_itf
  | with_reducible apply i_nt
  | with_reducible apply i_nf
  | with_reducible apply i_asg
  | with_reducible apply i_name
  | with_reducible apply i_ret
  | with_reducible apply i_retN
  | with_reducible apply i_drop
  | with_reducible apply i_next
  | with_reducible apply i_break
  | with_reducible apply i_un
  | with_reducible apply i_rU
  | with_reducible apply i_tup
  | with_reducible apply i_lst
  | with_reducible apply i_par
  | with_reducible apply i_chain
  | with_reducible apply i_gcons
  | with_reducible apply i_gnil
  | with_reducible apply i_prop
  | with_reducible apply i_make
  | ((with_reducible apply i_aug); exact rfl)
  | with_reducible apply i_ipI
  | with_reducible apply i_sl
  | with_reducible apply i_noPart
  | with_reducible apply i_part
  | with_reducible apply i_bm
  | with_reducible apply i_bm0
  | with_reducible apply i_lc
  | with_reducible apply i_for
  | with_reducible apply i_iStr
  | with_reducible apply i_iList
  | with_reducible apply i_iTup
  | with_reducible apply i_rng1
  | with_reducible apply i_rng2
  | with_reducible apply i_yes
  | with_reducible apply i_refE
  | with_reducible apply i_strE
  | with_reducible apply i_sfld
  | with_reducible apply i_dput
  | with_reducible apply i_dget
  | with_reducible apply i_din
  | with_reducible apply i_dnotin
  | with_reducible apply i_dnew
  | with_reducible apply i_augS
  | with_reducible apply i_gsub
  | with_reducible apply i_asg2
  | with_reducible apply i_disp1
  | with_reducible apply i_ar
  | with_reducible apply i_sfldaug
  | with_reducible apply i_gfld
  | with_reducible apply i_ckw
  | with_reducible apply i_rAdd
  | with_reducible apply i_par3
  | with_reducible apply i_iZip)))
abbrev N_law_twofold : List Str := ["_law_bag_here", "_law_most", "_law_first", "_law_total", "_law_second", "_law_row", "_law_again", "_law_part", "_law_spot"]
theorem sc_law_twofold : FnScope N_law_twofold ["_law_bag_here", "_law_most"] (defScope s_law_twofold) := ⟨rfl, rfl, rfl, by decide +kernel, rfl, by decide +kernel, by decide +kernel⟩
def spTwo : Sp := fun vs H Q _ => ∃ (b : Addr) (n : Nat), vs = [.ref b, .int (n : Nat)] ∧ 0 < n ∧ n ≤ 100 ∧ BagAt H b ∧ ∀ H' l as c, Kp [b] H H' → BagAt H' b → Cts H H' l as c (2 * n) 3 → Q (.ref l) H'
def spOrdC : Sp := fun vs H Q _ => ∃ (b : Addr) (n : Nat), vs = [.ref b, .int (n : Nat)] ∧ 0 < n ∧ n ≤ 100 ∧ BagAt H b ∧ ∀ H' l as c, Kp [b] H H' → BagAt H' b → Cts H H' l as c (2 * n) 4 → Q (.ref l) H'
/-- a row is set anew -/
theorem prow_set {H H' : Hp} {a : Addr} {r' : List It} {c : Ctn} {as : List Addr} (h : Paired (RowAt H) c as) (nd : as.Nodup) {i : Nat} (e : as[i]? = some a) (k : Kp [a] H H') (hr : RowAt H' r' a) : Paired (RowAt H') (c.set i r') as := by
  induction h generalizing i with
  | nil => simp at e
  | @cons x y l k' f t ih =>
    obtain ⟨n1, n2⟩ := List.nodup_cons.mp nd
    cases i with
    | zero =>
      simp at e
      subst e
      exact .cons hr (pmapm t fun _ a' ha' z => z.kp k fun y => n1 (List.mem_singleton.mp y ▸ ha'))
    | succ i =>
      simp at e
      have ha : a ∈ k' := List.mem_of_getElem? e
      exact .cons (f.kp k fun y => n1 (List.mem_singleton.mp y ▸ ha)) (ih n2 e)
theorem ixN_nat {n j : Nat} (h : j < n) : ixN n ((j : Nat) : Int) = some j := by
  unfold ixN
  rw [if_pos (by omega), if_pos (by omega)]
  simp
theorem ItOk.mono {m n : Nat} (h : m ≤ n) : ∀ {i : It}, ItOk m i → ItOk n i
  | .i _, z => z
  | .w _, z => z
  | .b _, z => Nat.lt_of_lt_of_le z h
theorem papp {α β : Type} {F : α → β → Prop} {l l' : List α} {k k' : List β} (h : Paired F l k) (h' : Paired F l' k') : Paired F (l ++ l') (k ++ k') := by
  induction h with
  | nil => exact h'
  | cons f t ih => exact .cons f ih
theorem dpAll_items {K : PySem.W.Frag} {H : Hp} {r : List It} {vs : List V} (h : Paired (ItV H) r vs) : DpAll K H vs (r.map dtOf) := by
  induction h with
  | nil => exact .nil
  | cons f t ih => exact .cons f.dp ih
theorem shaped_items {n : Nat} {r : List It} (h : ∀ it ∈ r, ItOk n it) : SeqAt.shaped (.list (r.map dtOf)) = true := by
  have h1 : PyData.canLayAll0 (r.map dtOf) = true ∧ PyData.depthAll (r.map dtOf) ≤ 3 := by
    induction r with
    | nil => exact ⟨rfl, by decide⟩
    | cons x l ih =>
      obtain ⟨i1, i2⟩ := ih fun it hit => h it (List.mem_cons_of_mem _ hit)
      have hx := h x (List.mem_cons_self ..)
      have sx := dt_shaped x hx
      have cx := SeqAt.canLay_of_shaped sx
      have dx : (dtOf x).depth ≤ 2 := by
        cases x <;> simp [dtOf, PyData.depth, PyData.depthAll]
      refine ⟨?_, ?_⟩
      · simp [PyData.canLayAll0, cx, i1]
      · simp [PyData.depthAll]
        omega
  unfold SeqAt.shaped
  simp [PyData.canLay0, PyData.depth, h1.1]
  omega
section
variable {P : Program} {w : World} {K : PySem.W.Frag} {mg : Str → Option Value} {base : Heap} {cV cO cH : Addr}
theorem ok_law_twofold (T : Txt K mg cV cO cH) : Fn0 P w K mg base 4 "_law_twofold" ["_law_bag_here", "_law_most"] spTwo := by
  have h_law_take := ok_law_take (P := P) (w := w) (base := base) T
  have h_law_leaf := ok_law_leaf (P := P) (w := w) (base := base) T
  have h_law_contents := ok_law_contents (P := P) (w := w) (base := base) T
  refine T.d_law_twofold.ok sc_law_twofold (fun vs H Q E h => ?_) (fun _ _ _ _ _ _ us hl => match us, hl with | [_, _], _ => rfl) (fun f cdv A outer s H vs Q E hr h => ?_)
  · obtain ⟨_, _, rfl, _⟩ := h
    rfl
  · obtain ⟨b, n, rfl, n0, n9, hb, q⟩ := h
    refine ⟨_, (pss_cons (ps_set (i := 2) sc_law_twofold.nd rfl (by first | exact Or.inl rfl | exact Or.inr rfl) (pe_fn h_law_contents hr (by decide) rfl (pa_cons (pv 0) (pa_cons (pv 1) pa_nil))))
    (pss_cons (ps_par (i := 3) (j := 4) rfl sc_law_twofold.nd rfl rfl (by decide) rfl rfl (pa_cons (pe_bf call_len_seq T.f_len (pa_cons (pv 2) pa_nil)) (pa_cons (pe_lst pa_nil) pa_nil)) (by rfl))
    (pss_cons (ps_for PassesOwn.never rfl (pi_list (pv 2)) (pg_name (i := 5) sc_law_twofold.nd rfl (by first | exact Or.inl rfl | exact Or.inr rfl))
      (pss_cons (ps_set (i := 6) sc_law_twofold.nd rfl (by first | exact Or.inl rfl | exact Or.inr rfl) (pe_lst pa_nil))
      (pss_cons (ps_for PassesOwn.never rfl (pi_list (pv 5)) (pg_name (i := 7) sc_law_twofold.nd rfl (by first | exact Or.inl rfl | exact Or.inr rfl))
        (pss_cons (ps_if (PW.pt (pw_and (pt_val (pe_bf call_isi T.f_isinstance (pa_cons (pv 7) (pa_cons (pe_ty (T := "tuple") T.f_tuple) pa_nil)))) (pw_and1 (pt_cmpR op_gt (pe_fn h_law_take hr (by decide) rfl (pa_cons (pv 0) (pa_cons pe_int pa_nil))) pe_int (nomark _)))))
          (pss_one (ps_set (i := 7) sc_law_twofold.nd rfl (by first | exact Or.inl rfl | exact Or.inr rfl) (pe_tup (pa_cons pe_str (pa_cons (pe_op op_add (pe_ix ix_tup (pv 7) pe_int (fun _ _ => rfl)) (pv 3)) pa_nil)))))
          pss_nil)
        (pss_one (ps_expr (pe_bm PySem.F.plainAttrs_list PySem.F.slot_list_append PySem.F.type_list_append mt_append (pv 6) (pa_cons (pv 7) pa_nil))))))
      (pss_one (ps_expr (pe_bm PySem.F.plainAttrs_list PySem.F.slot_list_append PySem.F.type_list_append mt_append (pv 4) (pa_cons (pv 6) pa_nil)))))))
    (pss_cons (ps_set (i := 8) sc_law_twofold.nd rfl (by first | exact Or.inl rfl | exact Or.inr rfl) (pe_ix ix_list (pv 4) (pe_fn h_law_take hr (by decide) rfl (pa_cons (pv 0) (pa_cons (pv 3) pa_nil))) (fun _ _ => rfl)))
    (pss_cons (ps_if (PW.pt (pw_and (pt_cmpR (op_neD hr.units) (pv 8) (pe_lst pa_nil) (nomark _)) (pw_and1 (pt_cmpR op_eq (pe_fn h_law_take hr (by decide) rfl (pa_cons (pv 0) (pa_cons pe_int pa_nil))) pe_int (nomark _)))))
      (pss_one (ps_asg (pe_fn h_law_leaf hr (by decide) rfl (pa_cons (pv 0) pa_nil)) (pg_sub (pv 8) (pe_fn h_law_take hr (by decide) rfl (pa_cons (pv 0) (pa_cons (pe_bf call_len_seq T.f_len (pa_cons (pv 8) pa_nil)) pa_nil))) set_list)))
      pss_nil)
    (pss_one (ps_ret (pe_op op_cat (pv 2) (pv 4))))))))), ?_⟩
    walk_at "go"
    refine ⟨b, n, rfl, n0, n9, hb, fun H1 l1 as1 c1 k1 hb1 C1 => ?_⟩
    walk_at "go"
    refine ⟨l1, _, rfl, .inl (SqL.of C1.at_.1), ?_⟩
    have lc1 := plen C1.at_.2
    rw [List.length_map, ← lc1]
    walk_at "go"
    refine ⟨by show 0 ≤ sizeLine; decide, fun F hF => ?_⟩
    walk_at "go"
    refine ⟨_, _, rfl, ?_⟩
    have k2 : Kp [b] H (upd H1 F (.lst [])) := k1.new' hF
    have nbF : b ≠ F := hb1.ne hF
    have hF0 : H F = none := k1.free (fun z => nbF (List.mem_singleton.mp z).symm) hF
    have hb2 : BagAt (upd H1 F (.lst [])) b := hb1.kp0 (Kp.new hF)
    have LL2 : LstsAt (upd H1 F (.lst [])) l1 as1 c1 := C1.at_.kp0 (Kp.new hF)
    have nlb : ¬ l1 ∈ [b] := fun z => hb.ne C1.fl (List.mem_singleton.mp z).symm
    have nab : ∀ a ∈ as1, ¬ a ∈ [b] := fun a ha z => hb.ne (C1.fa a ha) (List.mem_singleton.mp z).symm
    have nFl : F ≠ l1 := fun z => by have := C1.at_.1; rw [← z, hF] at this; cases this
    have nFa1 : ∀ a ∈ as1, F ≠ a := fun a ha z => by obtain ⟨r, _, ws, e9, _⟩ := pmem C1.at_.2 ha; rw [← z, hF] at e9; cases e9
    walk_at "go"
    refine ⟨⟨_, SqL.of LL2.1⟩, ?_⟩
    generalize eH2 : upd H1 F (.lst []) = H2 at k2 hb2 LL2
    have e2F : H2 F = some (.lst []) := by rw [← eH2]; exact upd_same
    have hmm : c1.length ≤ n := C1.hi
    refine ForW.it (walk_list (xs := as1.map V.ref)) (fun i σ H' => ∃ z5 z6 z7 z8 as c, σ = [some (.ref b), some (.int (n : Nat)), some (.ref l1), some (.int ((c1.length : Nat) : Int)), some (.ref F), z5, z6, z7, z8] ∧ Kp [b] H H' ∧ BagAt H' b ∧ LstsAt H' l1 as1 c1 ∧ LstsAt H' F as c ∧ as.Nodup ∧ ¬ F ∈ as ∧ (∀ a ∈ as, H a = none ∧ ¬ a ∈ l1 :: as1) ∧ c.length = i ∧ (∀ r ∈ c, r.length ≤ 3) ∧ ∀ r ∈ c, ∀ it ∈ r, ItOk (2 * c1.length) it)
      ⟨_, _, _, _, [], [], rfl, k2, hb2, LL2, ⟨e2F, .nil⟩, List.nodup_nil, (fun z => nomatch z), (fun _ z => nomatch z), rfl, (fun _ z => nomatch z), fun _ z => nomatch z⟩ (fun i σ H' _ z => ?_) ?_ ?_
    · obtain ⟨_, _, _, _, _, _, _, _, _, L, _⟩ := z
      exact SqL.of L.1
    · rintro i x σ H3 H4 hi ⟨z5, z6, z7, z8, as, c, rfl, k3, hb3, L3, M3, nd3, nF3, fr3, lc3, l33, ok3⟩ ⟨rfl, hx⟩
      rw [List.getElem?_map] at hx
      obtain ⟨a1, ea1, rfl⟩ := Option.map_eq_some_iff.mp hx
      have ma1 := List.mem_of_getElem? ea1
      obtain ⟨r1, er1, ws, ew, pw⟩ := pgetR L3.2 ea1
      have hr1 : r1.length ≤ 3 := C1.len r1 (List.mem_of_getElem? er1)
      have hok1 := C1.ok r1 (List.mem_of_getElem? er1)
      walk_at "go"
      refine ⟨by show 0 ≤ sizeLine; decide, fun a ha => ?_⟩
      walk_at "go"
      have ka : Kp [] H4 (upd H4 a (.lst [])) := Kp.new ha
      have nba : b ≠ a := hb3.ne ha
      have nab1 : ¬ a ∈ [b] := fun z => nba (List.mem_singleton.mp z).symm
      have ha0 : H a = none := k3.free nab1 ha
      have nal : ¬ a ∈ l1 :: as1 := fun z => by
        rcases List.mem_cons.mp z with z | z
        · have := L3.1; rw [← z, ha] at this; cases this
        · obtain ⟨r, _, ws, e9, _⟩ := pmem L3.2 z; rw [ha] at e9; cases e9
      have ew5 := ka.at0 ew
      have na1a : a1 ≠ a := fun z => nal (List.mem_cons_of_mem _ (z ▸ ma1))
      refine ⟨⟨_, SqL.of ew5⟩, ?_⟩
      refine ForW.it (walk_list (xs := ws)) (fun j σ H' => ∃ z7 r, σ = [some (.ref b), some (.int (n : Nat)), some (.ref l1), some (.int ((c1.length : Nat) : Int)), some (.ref F), some (.ref a1), some (.ref a), z7, z8] ∧ Kp [b] H H' ∧ Kp [b] H4 H' ∧ BagAt H' b ∧ RowAt H' r a ∧ r.length = j ∧ ∀ it ∈ r, ItOk (2 * c1.length) it)
        ⟨_, [], rfl, k3.trans ka.of0, ka.of0, hb3.kp0 ka, ⟨[], upd_same, .nil⟩, rfl, fun _ z => nomatch z⟩ (fun j σ H' _ z => ?_) ?_ ?_
      · obtain ⟨_, _, _, _, k, _⟩ := z
        exact SqL.of (k.k _ _ (nab a1 ma1) ew)
      · rintro j x σ H6 H7 hj ⟨z7, r, rfl, K7, K47, hb7, ⟨vs, ev, pv⟩, lr, okr⟩ ⟨rfl, hx⟩
        obtain ⟨it, eit, iv⟩ := pgetR pw hx
        have iv7 := iv.kp K47
        have hit := hok1 it (List.mem_of_getElem? eit)
        have lws := plen pw
        have lv : vs.length < sizeLine := by rw [← plen pv, lr]; exact Nat.lt_of_lt_of_le (by omega : j < 4) (by decide)
        -- an item is put behind the row
        have put : ∀ (H8 : Hp) (it : It) (v : V), Kp [b] H7 H8 → BagAt H8 b → ItV H8 it v → ItOk (2 * c1.length) it → ∀ (NX : L2.St → Hp → Prop), (∀ σ' H', (∃ z7 r, σ' = [some (.ref b), some (.int (n : Nat)), some (.ref l1), some (.int ((c1.length : Nat) : Int)), some (.ref F), some (.ref a1), some (.ref a), z7, z8] ∧ Kp [b] H H' ∧ Kp [b] H4 H' ∧ BagAt H' b ∧ RowAt H' r a ∧ r.length = j + 1 ∧ ∀ it ∈ r, ItOk (2 * c1.length) it) → NX σ' H') →
            ∀ z, (∃ (p : Addr) (xs : List V) (w : V), V.ref a = .ref p ∧ [v] = [w] ∧ H8 p = some (.lst xs) ∧ xs.length < sizeLine ∧ NX [some (.ref b), some (.int (n : Nat)), some (.ref l1), some (.int ((c1.length : Nat) : Int)), some (.ref F), some (.ref a1), some (.ref a), z, z8] (upd H8 p (.lst (xs ++ [w])))) := by
          intro H8 it v k8 hb8 iv ok8 NX hNX z
          have e8 := k8.k a _ nab1 ev
          have k9 : Kp [a] H8 (upd H8 a (.lst (vs ++ [v]))) := Kp.wr (List.mem_singleton.mpr rfl) e8 (fun _ z => nomatch z)
          refine ⟨a, vs, v, rfl, rfl, e8, lv, hNX _ _ ⟨z, r ++ [it], rfl, (K7.trans k8).via k9 fun b hb => .inr (List.mem_singleton.mp hb ▸ ha0), (K47.trans k8).via k9 fun b hb => .inr (List.mem_singleton.mp hb ▸ ha), hb8.kp k9 (fun z => nba (List.mem_singleton.mp z)), ⟨_, upd_same, psnoc (pmap pv fun _ _ z => (z.kp k8).kp k9) (iv.kp k9)⟩, by rw [List.length_append, lr]; rfl, fun it' hit => ?_⟩⟩
          rcases List.mem_append.mp hit with h | h
          · exact okr it' h
          · rw [List.mem_singleton.mp h]; exact ok8
        have same : ∀ (H8 : Hp), Kp [b] H7 H8 → ItV H8 it x := fun H8 k8 => iv7.kp k8
        walk_at "go"
        cases it with
        | i y =>
          refine isi iv7.kd (b := false) rfl ?_
          walk_at "go"
          refine ⟨ty_list ev, ?_⟩
          walk_at "go"
          exact put _ _ x (Kp.refl _ _) hb7 iv7 trivial _ (fun _ _ z => z) _
        | w y =>
          refine isi iv7.kd (b := false) rfl ?_
          walk_at "go"
          refine ⟨ty_list ev, ?_⟩
          walk_at "go"
          exact put _ _ x (Kp.refl _ _) hb7 iv7 hit _ (fun _ _ z => z) _
        | b y =>
          refine isi iv7.kd (b := true) rfl ?_
          walk_at "go"
          refine ⟨b, 8, rfl, by decide, by decide, hb7, fun H8 m3 hm3 k8 hb8 => ?_⟩
          walk_at "go"
          refine iteB (fun hz => ?_) (fun hz => ?_)
          · obtain ⟨t, rfl, et⟩ := iv7.kp k8
            walk_at "go"
            refine i_ixT et rfl ?_
            walk_at "go"
            refine ⟨by show 2 ≤ sizeLine; decide, fun t2 ht2 => ?_⟩
            have k9 : Kp [b] H8 (upd H8 t2 (.tup [.str "box", .int (((y : Nat) : Int) + ((c1.length : Nat) : Int))])) := (Kp.new ht2).of0
            walk_at "go"
            refine ⟨ty_list (k9.k a _ nab1 (k8.k a _ nab1 ev)), ?_⟩
            walk_at "go"
            exact put _ (.b (y + c1.length)) (.ref t2) (k8.trans k9) (hb8.kp0 (Kp.new ht2)) ⟨t2, rfl, upd_same⟩ (by have : y < c1.length := hit; show y + c1.length < 2 * c1.length; omega) _ (fun _ _ z => z) _
          · walk_at "go"
            refine ⟨ty_list (k8.k a _ nab1 ev), ?_⟩
            walk_at "go"
            exact put _ _ x k8 hb8 (same _ k8) (ItOk.mono (by omega) hit) _ (fun _ _ z => z) _
      · rintro σ H6 ⟨z7, r, rfl, K6, K46, hb6, R6, lr, okr⟩
        have nFa : F ≠ a := ne_of_none M3.1 ha
        have nFb : ¬ F ∈ [b] := fun z => nbF (List.mem_singleton.mp z).symm
        have M6 : LstsAt H6 F as c := M3.kp K46 nFb fun a' ha' z => hb.ne (fr3 a' ha').1 (List.mem_singleton.mp z).symm
        have L6 : LstsAt H6 l1 as1 c1 := L3.kp K46 nlb nab
        walk_at "go"
        refine ⟨ty_list M6.1, ?_⟩
        walk_at "go"
        have lc6 := plen M3.2
        have li : i < c1.length := by rw [List.length_map, ← lc1] at hi; exact hi
        have lws := plen pw
        refine ⟨F, _, _, rfl, rfl, M6.1, by rw [List.length_map, ← lc6, lc3]; exact Nat.lt_of_lt_of_le (show i < 101 by omega) (by decide), ?_⟩
        have k7 : Kp [F] H6 (upd H6 F (.lst (as.map V.ref ++ [.ref a]))) := Kp.wr (List.mem_singleton.mpr rfl) M6.1 (fun _ z => nomatch z)
        have fra : ¬ a ∈ as := fun z => by
          obtain ⟨r, _, ws, e9, _⟩ := pmem M3.2 z
          rw [ha] at e9; cases e9
        refine ⟨_, _, _, _, as ++ [a], c ++ [r], rfl, K6.via k7 fun b hb => .inr (List.mem_singleton.mp hb ▸ hF0), hb6.kp k7 (fun z => nbF (List.mem_singleton.mp z)), L6.kp k7 (fun z => nFl (List.mem_singleton.mp z).symm) (fun a' ha' z => nFa1 a' ha' (List.mem_singleton.mp z).symm), ⟨by rw [upd_same, List.map_append]; rfl, psnoc (pmapm M6.2 fun _ a' ha' z => z.kp k7 fun y => nF3 (List.mem_singleton.mp y ▸ ha')) (R6.kp k7 fun y => nFa (List.mem_singleton.mp y).symm)⟩, ?_, ?_, ?_, by rw [List.length_append, lc3]; rfl, ?_, ?_⟩
        · exact List.nodup_append.mpr ⟨nd3, by simp, fun x hx y hy e => fra (by rw [List.mem_singleton] at hy; rw [← hy, ← e]; exact hx)⟩
        · intro z
          rcases List.mem_append.mp z with z | z
          · exact nF3 z
          · exact nFa (List.mem_singleton.mp z)
        · intro a' z
          rcases List.mem_append.mp z with z | z
          · exact fr3 a' z
          · rw [List.mem_singleton.mp z]; exact ⟨ha0, nal⟩
        · intro r' z
          rcases List.mem_append.mp z with z | z
          · exact l33 r' z
          · rw [List.mem_singleton.mp z]; omega
        · intro r' z
          rcases List.mem_append.mp z with z | z
          · exact ok3 r' z
          · rw [List.mem_singleton.mp z]; exact okr
    · rintro σ H3 ⟨z5, z6, z7, z8, as, c, rfl, k3, hb3, L3, M3, nd3, nF3, fr3, lc3, l33, ok3⟩
      rw [List.length_map, ← lc1] at lc3
      have fin : ∀ (H5 : Hp) (c' : Ctn), Kp [b] H H5 → BagAt H5 b → LstsAt H5 l1 as1 c1 → LstsAt H5 F as c' → c'.length = c1.length → (∀ r ∈ c', r.length ≤ 3) → (∀ r ∈ c', ∀ it ∈ r, ItOk (2 * c1.length) it) → rCat (.ref l1) (.ref F) H5 Q := by
        intro H5 c' k5 hb5 L5 M5 lc' l3' ok'
        have la := plen M5.2
        refine ⟨l1, F, _, _, rfl, rfl, L5.1, M5.1, ?_, fun p hp => ?_⟩
        · rw [List.length_map, List.length_map, ← lc1, ← la, lc']
          exact Nat.le_trans (show c1.length + c1.length ≤ 200 by omega) (by decide)
        · have k6 : Kp [] H5 (upd H5 p (.lst (as1.map V.ref ++ as.map V.ref))) := Kp.new hp
          have np : ∀ a, H5 a ≠ none → a ≠ p := fun a h z => h (z ▸ hp)
          have nbp : b ≠ p := hb5.ne hp
          have hp0 : H p = none := k5.free (fun z => nbp (List.mem_singleton.mp z).symm) hp
          refine q _ p (as1 ++ as) (c1 ++ c') (k5.trans k6.of0) (hb5.kp0 k6) ⟨⟨by rw [upd_same, List.map_append], papp (pmap L5.2 fun _ _ z => z.kp k6 fun y => nomatch y) (pmap M5.2 fun _ _ z => z.kp k6 fun y => nomatch y)⟩, List.nodup_append.mpr ⟨C1.nd, nd3, fun x hx y hy e => (fr3 y hy).2 (List.mem_cons_of_mem _ (e ▸ hx))⟩, fun z => ?_, hp0, fun a z => ?_, by rw [List.length_append]; have := C1.lo; omega, by rw [List.length_append]; omega, fun r z => ?_, fun r z => ?_⟩
          · rcases List.mem_append.mp z with z | z
            · obtain ⟨r, _, ws, e9, _⟩ := pmem L5.2 z; rw [hp] at e9; cases e9
            · obtain ⟨r, _, ws, e9, _⟩ := pmem M5.2 z; rw [hp] at e9; cases e9
          · rcases List.mem_append.mp z with z | z
            · exact C1.fa a z
            · exact (fr3 a z).1
          · rcases List.mem_append.mp z with z | z
            · exact C1.len r z
            · exact l3' r z
          · rw [List.length_append, lc']
            intro it hit
            rcases List.mem_append.mp z with z | z
            · exact ItOk.mono (by omega) (C1.ok r z it hit)
            · have := ok' r z it hit
              rwa [Nat.two_mul] at this
      walk_at "go"
      have c0 : 0 < c1.length := C1.lo
      refine ⟨b, c1.length, rfl, c0, Nat.lt_of_le_of_lt (show c1.length ≤ 100 by omega) (by decide), hb3, fun H4 j hj k4 hb4 => ?_⟩
      have nFb : ¬ F ∈ [b] := fun z => nbF (List.mem_singleton.mp z).symm
      have nasb : ∀ a ∈ as, ¬ a ∈ [b] := fun a ha z => hb.ne (fr3 a ha).1 (List.mem_singleton.mp z).symm
      have M4 : LstsAt H4 F as c := M3.kp k4 nFb nasb
      have L4 : LstsAt H4 l1 as1 c1 := L3.kp k4 nlb nab
      obtain ⟨a, ea, ws, ew, pw⟩ := M4.row (i := j) (by omega)
      refine i_ixL M4.1 (atI_nat (by rw [List.getElem?_map, ea]; rfl)) ?_
      walk_at "go"
      refine ⟨by show 0 ≤ sizeLine; decide, fun p hp => ?_⟩
      have k5 : Kp [] H4 (upd H4 p (.lst [])) := Kp.new hp
      have ma := List.mem_of_getElem? ea
      have mr : rw c j ∈ c := by
        unfold rw
        rw [List.getD_eq_getElem?_getD, List.getElem?_eq_getElem (by omega)]
        exact List.getElem_mem _
      have okw := ok3 _ mr
      have lrow := l33 _ mr
      have ew5 := k5.at0 ew
      have pw5 := pmap pw fun _ _ z => z.kp k5
      have M5 := M4.kp0 k5
      have L5 := L4.kp0 k5
      have hb5 := hb4.kp0 k5
      have K5 : Kp [b] H _ := (k3.trans k4).trans k5.of0
      refine ⟨_, _, .lst (SqL.of ew5) (dpAll_items pw5), .lst (SqL.of upd_same) .nil, shaped_items okw, by decide +kernel, ?_⟩
      generalize upd H4 p (.lst []) = H5 at k5 ew5 pw5 M5 L5 hb5 K5
      have lw := plen pw5
      have leave : rCat (.ref l1) (.ref F) H5 Q := fin H5 c K5 hb5 L5 M5 lc3 l33 ok3
      walk_at "go"
      refine iteB (fun hz => ?_) (fun hz => ?_)
      · have hne : (rw c j).length ≠ 0 := fun z => by
          rw [List.length_eq_zero_iff.mp z] at hz
          revert hz
          decide +kernel
        walk_at "go"
        refine ⟨b, 2, rfl, by decide, by decide, hb5, fun H6 m6 hm6 k6 hb6 => ?_⟩
        have M6 := M5.kp k6 nFb nasb
        have L6 := L5.kp k6 nlb nab
        have K6 := K5.trans k6
        walk_at "go"
        refine iteB (fun hz => ?_) (fun hz => ?_)
        · walk_at "go"
          refine ⟨b, rfl, hb6, fun H7 it v k7 hb7 iv lf => ?_⟩
          walk_at "go"
          have ew7 := k7.k _ _ (nasb a ma) (k6.k _ _ (nasb a ma) ew5)
          refine ⟨a, _, rfl, .inl (SqL.of ew7), ?_⟩
          walk_at "go"
          refine ⟨b, ws.length, rfl, by omega, Nat.lt_of_le_of_lt (show ws.length ≤ 3 by omega) (by decide), hb7, fun H8 j8 hj8 k8 hb8 => ?_⟩
          have K68 := (k6.trans k7).trans k8
          have K8 := K5.trans K68
          have ew8 := k8.k _ _ (nasb a ma) ew7
          refine ⟨a, ws, _, j8, rfl, rfl, ew8, ixN_nat hj8, ?_⟩
          have k9 : Kp [a] H8 (upd H8 a (.lst (ws.set j8 v))) := Kp.wr (List.mem_singleton.mpr rfl) ew8 (fun _ z => nomatch z)
          have M8 := M5.kp K68 nFb nasb
          have L8 := L5.kp K68 nlb nab
          have nFa : F ≠ a := fun z => nF3 (z ▸ ma)
          have pw8 : Paired (ItV H8) (rw c j) ws := pmap pw5 fun _ _ z => z.kp K68
          have hRow : RowAt (upd H8 a (.lst (ws.set j8 v))) ((rw c j).set j8 it) a := ⟨_, upd_same, pset (pmap pw8 fun _ _ z => z.kp k9) j8 ((iv.kp k8).kp k9)⟩
          walk_at "go"
          refine fin _ (c.set j ((rw c j).set j8 it)) (K8.via k9 fun b' hb' => .inr (List.mem_singleton.mp hb' ▸ (fr3 a ma).1)) (hb8.kp k9 fun z => nasb a ma (by rw [List.mem_singleton.mp z]; exact List.mem_singleton.mpr rfl)) (L8.kp k9 (fun z => (fr3 a ma).2 (by rw [← List.mem_singleton.mp z]; exact List.mem_cons_self ..)) fun a' ha' z => (fr3 a ma).2 (by rw [← List.mem_singleton.mp z]; exact List.mem_cons_of_mem _ ha'))
            ⟨k9.k _ _ (fun z => nFa (List.mem_singleton.mp z)) M8.1, prow_set M8.2 nd3 ea k9 hRow⟩ (by rw [List.length_set]; exact lc3) (fun r hr => ?_) fun r hr it' hit => ?_
          · rcases List.mem_or_eq_of_mem_set hr with h | h
            · exact l33 r h
            · rw [h, List.length_set]; exact lrow
          · rcases List.mem_or_eq_of_mem_set hr with h | h
            · exact ok3 r h it' hit
            · rw [h] at hit
              rcases List.mem_or_eq_of_mem_set hit with h | h
              · exact okw it' h
              · rw [h]; exact lf _
        · walk_at "go"
          exact fin H6 c K6 hb6 L6 M6 lc3 l33 ok3
      · walk_at "go"
        exact leave
end
end Rk
set_option Elab.async false
set_option linter.all false
set_option maxRecDepth 100000
set_option maxHeartbeats 1000000
/-! ordered contents -/
namespace Rk
open PySem PySem.Spec PyProof.Rows L2
local macro_rules | `(tactic| walk_at "go") => `(tactic| ((try dsimp only); repeat (first
  | with_reducible apply i_seq
  | ((with_reducible apply i_var); exact rfl)
  | with_reducible apply i_c
  | with_reducible apply i_cons
  | with_reducible apply i_nil
  | with_reducible apply i_call
  | with_reducible apply i_cb
  | with_reducible apply i_meth
  | with_reducible apply i_fld
  | with_reducible apply i_op
  | with_reducible apply i_rI0
  | with_reducible apply i_eqI
  | with_reducible apply i_neI
  | with_reducible apply i_eqS
  | with_reducible apply i_neS
  | with_reducible apply i_if
  | with_reducible apply i_test
  | with_reducible apply i_b
  | with_reducible apply i_bl
  | with_reducible apply i_int
  | with_reducible apply i_and
  | with_reducible apply i_or
  | with_reducible apply i_not
  | with_reducible apply i_andV
  | with_reducible apply i_orV
  | with_reducible apply i_notV
  | with_reducible apply i_ifE
  | with_reducible apply i_itt
  | with_reducible apply i_itf
  | with_reducible apply i_nt
  | with_reducible apply i_nf
  | with_reducible apply i_asg
  | with_reducible apply i_name
  | with_reducible apply i_ret
  | with_reducible apply i_retN
  | with_reducible apply i_drop
  | with_reducible apply i_next
  | with_reducible apply i_break
  | with_reducible apply i_un
  | with_reducible apply i_rU
  | with_reducible apply i_tup
  | with_reducible apply i_lst
  | with_reducible apply i_par
  | with_reducible apply i_chain
  | with_reducible apply i_gcons
  | with_reducible apply i_gnil
  | with_reducible apply i_prop
  | with_reducible apply i_make
  | ((with_reducible apply i_aug); exact rfl)
  | with_reducible apply i_ipI
  | with_reducible apply i_sl
  | with_reducible apply i_noPart
  | with_reducible apply i_part
  | with_reducible apply i_bm
  | with_reducible apply i_bm0
  | with_reducible apply i_lc
  | with_reducible apply i_for
  | with_reducible apply i_iStr
  | with_reducible apply i_iList
  | with_reducible apply i_iTup
  | with_reducible apply i_rng1
  | with_reducible apply i_rng2
  | with_reducible apply i_yes
  | with_reducible apply i_refE
  | with_reducible apply i_strE
  | with_reducible apply i_sfld
  | with_reducible apply i_dput
  | with_reducible apply i_dget
  | with_reducible apply i_din
  | with_reducible apply i_dnotin
  | with_reducible apply i_dnew
  | with_reducible apply i_augS
  | with_reducible apply i_gsub
  | with_reducible apply i_asg2
  | with_reducible apply i_disp1
  | with_reducible apply i_ar
  | with_reducible apply i_sfldaug
  | with_reducible apply i_gfld
  | with_reducible apply i_ckw
  | with_reducible apply i_rAdd
  | with_reducible apply i_par3
  | with_reducible apply i_iZip)))
abbrev N_law_ordered_contents : List Str := ["_law_bag_here", "_law_most", "_law_contents_here", "_law_kind", "_law_row", "_law_spot"]
theorem sc_law_ordered_contents : FnScope N_law_ordered_contents ["_law_bag_here", "_law_most"] (defScope s_law_ordered_contents) := ⟨rfl, rfl, rfl, by decide +kernel, rfl, by decide +kernel, by decide +kernel⟩
/-- the contents while rows are changed: those before i are done -/
structure OrdI (H0 H : Hp) (b l : Addr) (as : List Addr) (n i : Nat) (c : Ctn) : Prop where
  kp : Kp [b] H0 H
  hb : BagAt H b
  at_ : LstsAt H l as c
  lc : c.length = n
  len : ∀ j r, c[j]? = some r → r.length ≤ if j < i then 4 else 3
  ok : ∀ r ∈ c, ∀ it ∈ r, ItOk n it
theorem OrdI.tk {H0 H H' : Hp} {b l : Addr} {as : List Addr} {n i : Nat} {c : Ctn} (h : OrdI H0 H b l as n i c) (k : Kp [b] H H') (hb : BagAt H' b) (n1 : b ≠ l) (n2 : ∀ a ∈ as, b ≠ a) : OrdI H0 H' b l as n i c :=
  ⟨h.kp.trans k, hb, h.at_.kp k (fun z => n1 (List.mem_singleton.mp z).symm) (fun a ha z => n2 a ha (List.mem_singleton.mp z).symm), h.lc, h.len, h.ok⟩
theorem rw_some {c : Ctn} {i : Nat} (h : i < c.length) : c[i]? = some (rw c i) := by
  unfold rw
  rw [List.getD_eq_getElem?_getD, List.getElem?_eq_getElem h]
  rfl
theorem OrdI.set {H0 H : Hp} {b l a : Addr} {as : List Addr} {n i i' : Nat} {c : Ctn} {r' : List It} {vs' : List V} (h : OrdI H0 H b l as n i c) (nd : as.Nodup) (nl : ¬ l ∈ as) (fa : H0 a = none) (n2 : b ≠ a) (ea : as[i]? = some a) (hi : i < n) {vs : List V} (ev : H a = some (.lst vs))
    (pv : Paired (ItV H) r' vs') (hi' : i ≤ i' ∧ i' ≤ i + 1) (hr : r'.length ≤ if i < i' then 4 else 3) (ok : ∀ it ∈ r', ItOk n it) : OrdI H0 (upd H a (.lst vs')) b l as n i' (c.set i r') := by
  have k : Kp [a] H (upd H a (.lst vs')) := Kp.wr (List.mem_singleton.mpr rfl) ev (fun _ z => nomatch z)
  have ma := List.mem_of_getElem? ea
  refine ⟨h.kp.via k fun b hb => .inr (List.mem_singleton.mp hb ▸ fa), h.hb.kp k (fun z => n2 (List.mem_singleton.mp z)), ⟨k.k _ _ (fun z => nl (List.mem_singleton.mp z ▸ ma)) h.at_.1, prow_set h.at_.2 nd ea k ⟨_, upd_same, pmap pv fun _ _ z => z.kp k⟩⟩, by rw [List.length_set]; exact h.lc, fun j r e => ?_, fun r hm it hit => ?_⟩
  · rw [List.getElem?_set] at e
    by_cases z : i = j
    · subst z
      rw [if_pos rfl] at e
      split at e
      · cases e; exact hr
      · cases e
    · rw [if_neg z] at e
      have := h.len j r e
      split at this <;> split <;> omega
  · rcases List.mem_or_eq_of_mem_set hm with z | z
    · exact h.ok r z it hit
    · rw [z] at hit; exact ok it hit
theorem abc_ok {m : Nat} (h : m < 4) : OkW (cutS "abc" none (some ((m : Nat) : Int))) := by
  match m, h with
  | 0, _ => exact okw_of (by decide +kernel) (by decide +kernel)
  | 1, _ => exact okw_of (by decide +kernel) (by decide +kernel)
  | 2, _ => exact okw_of (by decide +kernel) (by decide +kernel)
  | 3, _ => exact okw_of (by decide +kernel) (by decide +kernel)
theorem two_at {k : Nat} (h : k < 2) (x y : V) : ∃ v, atI [x, y] ((k : Nat) : Int) = some v ∧ (v = x ∨ v = y) := by
  match k, h with
  | 0, _ => exact ⟨x, rfl, .inl rfl⟩
  | 1, _ => exact ⟨y, rfl, .inr rfl⟩
section
variable {P : Program} {w : World} {K : PySem.W.Frag} {mg : Str → Option Value} {base : Heap} {cV cO cH : Addr}
theorem ok_law_ordered_contents (T : Txt K mg cV cO cH) : Fn0 P w K mg base 5 "_law_ordered_contents" ["_law_bag_here", "_law_most"] spOrdC := by
  have h_law_take := ok_law_take (P := P) (w := w) (base := base) T
  have h_law_twofold := ok_law_twofold (P := P) (w := w) (base := base) T
  refine T.d_law_ordered_contents.ok sc_law_ordered_contents (fun vs H Q E h => ?_) (fun _ _ _ _ _ _ us hl => match us, hl with | [_, _], _ => rfl) (fun f cdv A outer s H vs Q E hr h => ?_)
  · obtain ⟨_, _, rfl, _⟩ := h
    rfl
  · obtain ⟨b, n, rfl, n0, n9, hb, q⟩ := h
    refine ⟨_, (pss_cons (ps_par (i := 2) (j := 3) rfl sc_law_ordered_contents.nd rfl rfl (by decide) rfl rfl (pa_cons (pe_fn h_law_twofold hr (by decide) rfl (pa_cons (pv 0) (pa_cons (pv 1) pa_nil))) (pa_cons (pe_fn h_law_take hr (by decide) rfl (pa_cons (pv 0) (pa_cons pe_int pa_nil))) pa_nil)) (by rfl))
    (pss_cons (ps_for PassesOwn.never rfl (pi_list (pv 2)) (pg_name (i := 4) sc_law_ordered_contents.nd rfl (by first | exact Or.inl rfl | exact Or.inr rfl))
      (pss_cons (ps_for PassesOwn.never rfl (pi_range1 rfl T.f_range (pa_cons (pe_bf call_len_seq T.f_len (pa_cons (pv 4) pa_nil)) pa_nil)) (pg_name (i := 5) sc_law_ordered_contents.nd rfl (by first | exact Or.inl rfl | exact Or.inr rfl))
        (pss_one (ps_if (PW.pt (pw_and (pt_cmpR op_lt (pv 3) pe_int (nomark _)) (pw_and1 (pt_not (pt_val (pe_bf call_isi T.f_isinstance (pa_cons (pe_ix ix_list (pv 4) (pv 5) (fun _ _ => rfl)) (pa_cons (pe_ty (T := "tuple") T.f_tuple) pa_nil))))))))
          (pss_one (ps_asg (pe_ix ix_list (pe_lst (pa_cons (pe_op op_sub (pe_fn h_law_take hr (by decide) rfl (pa_cons (pv 0) (pa_cons pe_int pa_nil))) pe_int) (pa_cons (pe_slice sl_str pe_str po_none (po_some (pe_fn h_law_take hr (by decide) rfl (pa_cons (pv 0) (pa_cons pe_int pa_nil))))) pa_nil))) (pv 3) (fun _ _ => rfl)) (pg_sub (pv 4) (pv 5) set_list)))
          pss_nil)))
      (pss_one (ps_if (pt_cmpR op_eq (pe_fn h_law_take hr (by decide) rfl (pa_cons (pv 0) (pa_cons pe_int pa_nil))) pe_int (nomark _))
        (pss_one (ps_expr (pe_bm PySem.F.plainAttrs_list PySem.F.slot_list_append PySem.F.type_list_append mt_append (pv 4) (pa_cons (pe_ix ix_list (pe_lst (pa_cons (pe_fn h_law_take hr (by decide) rfl (pa_cons (pv 0) (pa_cons pe_int pa_nil))) (pa_cons pe_str pa_nil))) (pe_op op_mod (pv 3) pe_int) (fun _ _ => rfl)) pa_nil))))
        pss_nil))))
    (pss_one (ps_ret (pv 2))))), ?_⟩
    walk_at "go"
    refine ⟨b, n, rfl, n0, n9, hb, fun H1 l as c k1 hb1 C1 => ?_⟩
    walk_at "go"
    refine ⟨b, 3, rfl, by decide, by decide, hb1, fun H2 kd hkd k2 hb2 => ?_⟩
    walk_at "go"
    refine ⟨_, _, rfl, ?_⟩
    have nbl : b ≠ l := hb.ne C1.fl
    have nba : ∀ a ∈ as, b ≠ a := fun a ha => hb.ne (C1.fa a ha)
    have O2 : OrdI H H2 b l as c.length 0 c := ⟨k1.trans k2, hb2, C1.at_.kp k2 (fun z => nbl (List.mem_singleton.mp z).symm) (fun a ha z => nba a ha (List.mem_singleton.mp z).symm), rfl, fun j r e => by rw [if_neg (by omega)]; exact C1.len r (List.mem_of_getElem? e), C1.ok⟩
    walk_at "go"
    refine ⟨⟨_, SqL.of O2.at_.1⟩, ?_⟩
    have la := plen O2.at_.2
    refine ForW.it (walk_list (xs := as.map V.ref)) (fun i σ H' => ∃ z4 z5 c', σ = [some (.ref b), some (.int (n : Nat)), some (.ref l), some (.int (kd : Nat)), z4, z5] ∧ OrdI H H' b l as c.length i c')
      ⟨_, _, c, rfl, O2⟩ (fun i σ H' _ z => ?_) ?_ ?_
    · obtain ⟨_, _, _, _, O⟩ := z
      exact SqL.of O.at_.1
    · rintro i x σ H3 H4 hi ⟨z4, z5, c3, rfl, O3⟩ ⟨rfl, hx⟩
      rw [List.length_map, ← la] at hi
      rw [List.getElem?_map] at hx
      obtain ⟨a, ea, rfl⟩ := Option.map_eq_some_iff.mp hx
      have ma := List.mem_of_getElem? ea
      obtain ⟨r, er, vs, ev, pv⟩ := pgetR O3.at_.2 ea
      have hr3 := O3.len i r er
      rw [if_neg (by omega)] at hr3
      walk_at "go"
      refine ⟨a, _, rfl, .inl (SqL.of ev), ?_⟩
      rw [← plen pv]
      walk_at "go"
      refine ⟨_, rfl, by omega, by omega, ?_⟩
      rw [Int.toNat_natCast]
      refine ForW.it walk_range (fun j σ H' => ∃ z5 c', σ = [some (.ref b), some (.int (n : Nat)), some (.ref l), some (.int (kd : Nat)), some (.ref a), z5] ∧ OrdI H H' b l as c.length i c' ∧ ∃ r', c'[i]? = some r' ∧ r'.length = r.length)
        ⟨_, c3, rfl, O3, r, er, rfl⟩ (fun _ _ _ _ _ => trivial) ?_ ?_
      · rintro j x σ H5 H6 hj ⟨z5, c5, rfl, O5, r5, er5, lr5⟩ ⟨rfl, rfl⟩
        obtain ⟨r5', er5', ws, ew, pw⟩ := pgetR O5.at_.2 ea
        rw [er5] at er5'
        cases er5'
        obtain ⟨it, eit⟩ : ∃ it, r5[j]? = some it := ⟨_, List.getElem?_eq_getElem (by omega)⟩
        obtain ⟨y, ey, iv⟩ := pgetL pw eit
        have ok5 := O5.ok r5 (List.mem_of_getElem? er5)
        have lw := plen pw
        have e0 : (0 : Int) + ((j : Nat) : Int) = ((j : Nat) : Int) := by omega
        dsimp only
        rw [e0]
        have keep : ∀ (NX : L2.St → Hp → Prop), (∀ σ' H', (∃ z5 c', σ' = [some (.ref b), some (.int (n : Nat)), some (.ref l), some (.int (kd : Nat)), some (.ref a), z5] ∧ OrdI H H' b l as c.length i c' ∧ ∃ r', c'[i]? = some r' ∧ r'.length = r.length) → NX σ' H') → ∀ z, NX [some (.ref b), some (.int (n : Nat)), some (.ref l), some (.int (kd : Nat)), some (.ref a), z] H6 := fun NX h z => h _ _ ⟨z, c5, rfl, O5, r5, er5, lr5⟩
        walk_at "go"
        refine iteB (fun hz => ?_) (fun hz => ?_)
        · have hk2 : kd < 2 := by have := of_decide_eq_true hz; omega
          walk_at "go"
          refine i_ixL ew (atI_nat ey) ?_
          walk_at "go"
          have put : ∀ (H7 : Hp) (NX : L2.St → Hp → Prop), (∀ σ' H', (∃ z5 c', σ' = [some (.ref b), some (.int (n : Nat)), some (.ref l), some (.int (kd : Nat)), some (.ref a), z5] ∧ OrdI H H' b l as c.length i c' ∧ ∃ r', c'[i]? = some r' ∧ r'.length = r.length) → NX σ' H') → ∀ (it' : It) (v : V) (k7 : Kp [b] H6 H7), BagAt H7 b → ItV H7 it' v → IsLf it' → ∀ z, NX [some (.ref b), some (.int (n : Nat)), some (.ref l), some (.int (kd : Nat)), some (.ref a), z] (upd H7 a (.lst (ws.set j v))) := by
            intro H7 NX hNX it' v k7 hb7 iv' lf z
            have O7 := O5.tk k7 hb7 nbl nba
            have ew7 := k7.k a _ (fun z => nba a ma (List.mem_singleton.mp z).symm) ew
            refine hNX _ _ ⟨z, c5.set i (r5.set j it'), rfl, O7.set C1.nd C1.nl (C1.fa a ma) (nba a ma) ea hi ew7 (pset (pmap pw fun _ _ z => z.kp k7) j iv') ⟨Nat.le_refl _, by omega⟩ (by rw [if_neg (by omega), List.length_set, lr5]; exact hr3) fun it hit => ?_, r5.set j it', ?_, by rw [List.length_set]; exact lr5⟩
            · rcases List.mem_or_eq_of_mem_set hit with z | z
              · exact ok5 it z
              · rw [z]; exact lf _
            · rw [List.getElem?_set, if_pos rfl, if_pos (by rw [O5.lc]; exact hi)]
          have go : ∀ (kdb : Bool), (kdb = false → True) → True := fun _ _ => trivial
          cases it with
          | b y' =>
            refine isi iv.kd (b := true) rfl ?_
            walk_at "go"
            exact keep _ (fun _ _ z => z) _
          | i y' =>
            refine isi iv.kd (b := false) rfl ?_
            walk_at "go"
            refine ⟨b, 4, rfl, by decide, by decide, O5.hb, fun H7 m7 hm7 k7 hb7 => ?_⟩
            walk_at "go"
            refine ⟨b, 4, rfl, by decide, by decide, hb7, fun H8 m8 hm8 k8 hb8 => ?_⟩
            walk_at "go"
            refine ⟨"abc", rfl, by decide, ?_⟩
            walk_at "go"
            refine ⟨by show 2 ≤ sizeLine; decide, fun p hp => ?_⟩
            have k9 : Kp [] H8 (upd H8 p (.lst [.int (((m7 : Nat) : Int) - 1), .str (cutS "abc" none (some ((m8 : Nat) : Int)))])) := Kp.new hp
            obtain ⟨v, e9, hv⟩ := two_at hk2 (.int (((m7 : Nat) : Int) - 1)) (.str (cutS "abc" none (some ((m8 : Nat) : Int))))
            walk_at "go"
            refine i_ixL upd_same e9 ?_
            walk_at "go"
            have K9 := (k7.trans k8).trans k9.of0
            have ew9 := K9.k a _ (fun z => nba a ma (List.mem_singleton.mp z).symm) ew
            refine ⟨a, ws, _, j, rfl, rfl, ew9, ixN_nat (by omega), ?_⟩
            walk_at "go"
            rcases hv with rfl | rfl
            · exact put _ _ (fun _ _ z => z) (.i _) _ K9 (hb8.kp0 k9) rfl (lf_i _) _
            · exact put _ _ (fun _ _ z => z) (.w _) _ K9 (hb8.kp0 k9) rfl (lf_w (abc_ok hm8)) _
          | w y' =>
            refine isi iv.kd (b := false) rfl ?_
            walk_at "go"
            refine ⟨b, 4, rfl, by decide, by decide, O5.hb, fun H7 m7 hm7 k7 hb7 => ?_⟩
            walk_at "go"
            refine ⟨b, 4, rfl, by decide, by decide, hb7, fun H8 m8 hm8 k8 hb8 => ?_⟩
            walk_at "go"
            refine ⟨"abc", rfl, by decide, ?_⟩
            walk_at "go"
            refine ⟨by show 2 ≤ sizeLine; decide, fun p hp => ?_⟩
            have k9 : Kp [] H8 (upd H8 p (.lst [.int (((m7 : Nat) : Int) - 1), .str (cutS "abc" none (some ((m8 : Nat) : Int)))])) := Kp.new hp
            obtain ⟨v, e9, hv⟩ := two_at hk2 (.int (((m7 : Nat) : Int) - 1)) (.str (cutS "abc" none (some ((m8 : Nat) : Int))))
            walk_at "go"
            refine i_ixL upd_same e9 ?_
            walk_at "go"
            have K9 := (k7.trans k8).trans k9.of0
            have ew9 := K9.k a _ (fun z => nba a ma (List.mem_singleton.mp z).symm) ew
            refine ⟨a, ws, _, j, rfl, rfl, ew9, ixN_nat (by omega), ?_⟩
            walk_at "go"
            rcases hv with rfl | rfl
            · exact put _ _ (fun _ _ z => z) (.i _) _ K9 (hb8.kp0 k9) rfl (lf_i _) _
            · exact put _ _ (fun _ _ z => z) (.w _) _ K9 (hb8.kp0 k9) rfl (lf_w (abc_ok hm8)) _
        · walk_at "go"
          exact keep _ (fun _ _ z => z) _
      · rintro σ H5 ⟨z5, c5, rfl, O5, r5, er5, lr5⟩
        obtain ⟨r5', er5', ws, ew, pw⟩ := pgetR O5.at_.2 ea
        rw [er5] at er5'
        cases er5'
        have ok5 := O5.ok r5 (List.mem_of_getElem? er5)
        have lw := plen pw
        have same : ∀ {H6 : Hp} {c6 : Ctn}, OrdI H H6 b l as c.length i c6 → OrdI H H6 b l as c.length (i + 1) c6 := fun O => ⟨O.kp, O.hb, O.at_, O.lc, fun j r e => by
          have := O.len j r e
          split at this <;> split <;> omega, O.ok⟩
        walk_at "go"
        refine ⟨b, 8, rfl, by decide, by decide, O5.hb, fun H6 m6 hm6 k6 hb6 => ?_⟩
        have O6 := O5.tk k6 hb6 nbl nba
        walk_at "go"
        refine iteB (fun hz => ?_) (fun hz => ?_)
        · walk_at "go"
          have ew6 := k6.k a _ (fun z => nba a ma (List.mem_singleton.mp z).symm) ew
          refine ⟨ty_list ew6, ?_⟩
          walk_at "go"
          refine ⟨b, 3, rfl, by decide, by decide, hb6, fun H7 m7 hm7 k7 hb7 => ?_⟩
          walk_at "go"
          refine ⟨by show 2 ≤ sizeLine; decide, fun p hp => ?_⟩
          have k8 : Kp [] H7 (upd H7 p (.lst [.int ((m7 : Nat) : Int), .str "b"])) := Kp.new hp
          walk_at "go"
          refine i_rI (by decide) ?_
          obtain ⟨v, e9, hv⟩ := two_at (Nat.mod_lt kd (by decide : 0 < 2)) (.int ((m7 : Nat) : Int)) (.str "b")
          refine i_ixL upd_same (i := ((kd : Nat) : Int) % 2) (by rw [← e9]; rfl) ?_
          walk_at "go"
          have K8 := k7.trans k8.of0
          have O8 := O6.tk K8 (hb7.kp0 k8) nbl nba
          have ew8 := K8.k a _ (fun z => nba a ma (List.mem_singleton.mp z).symm) ew6
          have pw8 := pmap pw fun _ _ z => z.kp (k6.trans K8)
          have lws : ws.length < sizeLine := Nat.lt_of_le_of_lt (show ws.length ≤ 3 by omega) (by decide)
          refine ⟨a, ws, v, rfl, rfl, ew8, lws, ?_⟩
          have fin : ∀ it', ItV (upd H7 p (.lst [.int ((m7 : Nat) : Int), .str "b"])) it' v → IsLf it' → OrdI H (upd (upd H7 p (.lst [.int ((m7 : Nat) : Int), .str "b"])) a (.lst (ws ++ [v]))) b l as c.length (i + 1) (c5.set i (r5 ++ [it'])) := fun it' iv lf =>
            O8.set C1.nd C1.nl (C1.fa a ma) (nba a ma) ea hi ew8 (psnoc pw8 iv) ⟨by omega, Nat.le_refl _⟩ (by rw [if_pos (by omega), List.length_append, lr5]; show r.length + 1 ≤ 4; omega) fun it hit => by
              rcases List.mem_append.mp hit with z | z
              · exact ok5 it z
              · rw [List.mem_singleton.mp z]; exact lf _
          rcases hv with rfl | rfl
          · exact ⟨_, _, _, rfl, fin (.i _) rfl (lf_i _)⟩
          · exact ⟨_, _, _, rfl, fin (.w _) rfl (lf_w (okw_of (by decide +kernel) (by decide +kernel)))⟩
        · walk_at "go"
          exact ⟨_, _, c5, rfl, same O6⟩
    · rintro σ H3 ⟨z4, z5, c3, rfl, O3⟩
      rw [List.length_map, ← la] at O3
      walk_at "go"
      refine q H3 l as c3 O3.kp O3.hb ⟨O3.at_, C1.nd, C1.nl, C1.fl, C1.fa, by rw [O3.lc]; exact C1.lo, by rw [O3.lc]; exact C1.hi, fun r hr => ?_, by rw [O3.lc]; exact O3.ok⟩
      obtain ⟨j, hj, rfl⟩ := List.mem_iff_getElem.mp hr
      have := O3.len j _ (List.getElem?_eq_getElem hj)
      split at this <;> omega
end
end Rk
set_option Elab.async false
set_option linter.all false
set_option maxRecDepth 100000
set_option maxHeartbeats 1000000
/-! shown, told -/
namespace Rk
open PySem PySem.Spec PyProof.Rows L2
local macro_rules | `(tactic| walk_at "go") => `(tactic| ((try dsimp only); repeat (first
  | with_reducible apply i_seq
  | ((with_reducible apply i_var); exact rfl)
  | with_reducible apply i_c
  | with_reducible apply i_cons
  | with_reducible apply i_nil
  | with_reducible apply i_call
  | with_reducible apply i_cb
  | with_reducible apply i_meth
  | with_reducible apply i_fld
  | with_reducible apply i_op
  | with_reducible apply i_rI0
  | with_reducible apply i_eqI
  | with_reducible apply i_neI
  | with_reducible apply i_eqS
  | with_reducible apply i_neS
  | with_reducible apply i_if
  | with_reducible apply i_test
  | with_reducible apply i_b
  | with_reducible apply i_bl
  | with_reducible apply i_int
  | with_reducible apply i_and
  | with_reducible apply i_or
  | with_reducible apply i_not
  | with_reducible apply i_andV
  | with_reducible apply i_orV
  | with_reducible apply i_notV
  | with_reducible apply i_ifE
  | with_reducible apply i_itt
  | with_reducible apply i_itf
  | with_reducible apply i_nt
  | with_reducible apply i_nf
  | with_reducible apply i_asg
  | with_reducible apply i_name
  | with_reducible apply i_ret
  | with_reducible apply i_retN
  | with_reducible apply i_drop
  | with_reducible apply i_next
  | with_reducible apply i_break
  | with_reducible apply i_un
  | with_reducible apply i_rU
  | with_reducible apply i_tup
  | with_reducible apply i_lst
  | with_reducible apply i_par
  | with_reducible apply i_chain
  | with_reducible apply i_gcons
  | with_reducible apply i_gnil
  | with_reducible apply i_prop
  | with_reducible apply i_make
  | ((with_reducible apply i_aug); exact rfl)
  | with_reducible apply i_ipI
  | with_reducible apply i_sl
  | with_reducible apply i_noPart
  | with_reducible apply i_part
  | with_reducible apply i_bm
  | with_reducible apply i_bm0
  | with_reducible apply i_lc
  | with_reducible apply i_for
  | with_reducible apply i_iStr
  | with_reducible apply i_iList
  | with_reducible apply i_iTup
  | with_reducible apply i_rng1
  | with_reducible apply i_rng2
  | with_reducible apply i_yes
  | with_reducible apply i_refE
  | with_reducible apply i_strE
  | with_reducible apply i_sfld
  | with_reducible apply i_dput
  | with_reducible apply i_dget
  | with_reducible apply i_din
  | with_reducible apply i_dnotin
  | with_reducible apply i_dnew
  | with_reducible apply i_augS
  | with_reducible apply i_gsub
  | with_reducible apply i_asg2
  | with_reducible apply i_disp1
  | with_reducible apply i_ar
  | with_reducible apply i_sfldaug
  | with_reducible apply i_gfld
  | with_reducible apply i_ckw
  | with_reducible apply i_rAdd
  | with_reducible apply i_par3
  | with_reducible apply i_iZip)))
abbrev N_law_shown : List Str := ["_law_found"]
theorem sc_law_shown : FnScope N_law_shown ["_law_found"] (defScope s_law_shown) := ⟨rfl, rfl, rfl, by decide +kernel, rfl, by decide +kernel, by decide +kernel⟩
abbrev N_law_told : List Str := ["_law_word", "_law_steps", "_law_deep", "_law_number"]
theorem sc_law_told : FnScope N_law_told ["_law_word", "_law_steps", "_law_deep", "_law_number"] (defScope s_law_told) := ⟨rfl, rfl, rfl, by decide +kernel, rfl, by decide +kernel, by decide +kernel⟩
/-- the words that an order ends with -/
def wds : List Str := ["yes", "no", "no order", "endless"]
def oN : Option Nat → PyData
  | none => .none
  | some n => .int (n : Nat)
def vN : Option Nat → V
  | none => .non
  | some n => .int (n : Nat)
theorem dp_N {K : PySem.W.Frag} {H : Hp} : ∀ o : Option Nat, Dp K H (vN o) (oN o)
  | none => .non
  | some n => .int _
/-- what is shown of an outcome -/
def d5 (wd : Str) (o : Option (Nat × Nat)) : PyData := .tuple [.str wd, oN (o.map (·.1)), oN (o.map (·.2)), .none, .bool (!decide (wd = sEnd))]
def Small5 (o : Option (Nat × Nat)) : Prop := ∀ x, o = some x → x.1 < 2 ^ 1900 ∧ x.2 < 2 ^ 1900
theorem oN_show {o : Option Nat} (h : ∀ n, o = some n → n < 2 ^ 1900) : (oN o).showable = true ∧ (oN o).hasDict = false ∧ (oN o).depth ≤ 1 ∧ (oN o).shown.length ≤ 2000 := by
  match o, h with
  | none, _ => exact ⟨rfl, rfl, by simp [oN, PyData.depth], by decide +kernel⟩
  | some n, h =>
    have hn := h n rfl
    have hl : ((n : Nat) : Int).natAbs.log2 < 1900 := PySem.Flt.log2_lt_of (by decide) (by rw [Int.natAbs_natCast]; exact hn)
    refine ⟨?_, rfl, by simp [oN, PyData.depth], ?_⟩
    · simp only [oN, PyData.showable]
      exact decide_eq_true (by omega)
    · have e := int_text_length_le (k := 1900) (by decide) hl
      show (Str.ofString (toString ((n : Nat) : Int))).length ≤ 2000
      rw [PySem.ofString_length]
      omega
theorem d5_show {wd : Str} {o : Option (Nat × Nat)} (hw : wd ∈ wds) (h : Small5 o) : (d5 wd o).showable = true ∧ (d5 wd o).hasDict = false ∧ (d5 wd o).depth < 60 ∧ (d5 wd o).shown.length ≤ sizeLine := by
  obtain ⟨a1, a2, a3, a4⟩ := oN_show (o := o.map (·.1)) fun n e => by
    obtain ⟨x, ex, rfl⟩ := Option.map_eq_some_iff.mp e
    exact (h x ex).1
  obtain ⟨b1, b2, b3, b4⟩ := oN_show (o := o.map (·.2)) fun n e => by
    obtain ⟨x, ex, rfl⟩ := Option.map_eq_some_iff.mp e
    exact (h x ex).2
  have w4 : (PyData.str wd).shown.length ≤ 100 := by
    simp only [wds, List.mem_cons, List.not_mem_nil, or_false] at hw
    rcases hw with rfl | rfl | rfl | rfl <;> decide +kernel
  have e4 : (PyData.bool (!decide (wd = sEnd))).shown.length ≤ 100 := by
    cases (!decide (wd = sEnd)) <;> decide +kernel
  have n4 : PyData.none.shown.length ≤ 100 := by decide +kernel
  refine ⟨?_, ?_, ?_, ?_⟩
  · simp only [d5, PyData.showable, PyData.showableAll, a1, b1]
    rfl
  · simp only [d5, PyData.hasDict, PyData.hasDictAll, a2, b2]
    rfl
  · simp only [d5, PyData.depth, PyData.depthAll]
    omega
  · show (tupleText (PyData.shownAll [.str wd, oN (o.map (·.1)), oN (o.map (·.2)), .none, .bool (!decide (wd = sEnd))])).length ≤ _
    refine Nat.le_trans (fmt_text _) ?_
    simp only [PyData.shownAll]
    rw [piled_cons, piled_cons, piled_cons, piled_cons, piled_cons, piled_nil]
    have : sizeLine = 16777216 := by decide
    omega
def spTold : Sp := fun vs H Q _ => ∃ (wd : Str) (o : Option (Nat × Nat)), vs = [.str wd, vN (o.map (·.1)), vN (o.map (·.2)), .non] ∧ wd ∈ wds ∧ Small5 o ∧ ∀ H', Kp [] H H' → Q (.str (d5 wd o).shown) H'
def spShown (cV cO : Addr) : Sp := fun vs H Q _ => ∃ (oo v d l : Addr) (as : List Addr) (c : Ctn) (kn : List Pr) (D : Nat) (rows : List Rw) (wd : Str) (loop : Option Nat) (o : Option (Nat × Nat)), vs = [.ref oo] ∧ OutAt cV cO H oo v d l as c kn D rows wd loop ∧ wd ∈ wds ∧ Small5 o ∧
  o = (if wd = sEnd then none else some (meS c rows, meD c 0 rows)) ∧ ∀ H', Kp [] H H' → Q (.str (d5 wd o).shown) H'
theorem dp5 {K : PySem.W.Frag} {H : Hp} {t : Addr} {wd : Str} {o : Option (Nat × Nat)} (e : H t = some (.tup [.str wd, vN (o.map (·.1)), vN (o.map (·.2)), .non, .bl (!decide (wd = sEnd))])) : Dp K H (.ref t) (d5 wd o) :=
  .tup (SqT.of e) (.cons (.str _) (.cons (dp_N _) (.cons (dp_N _) (.cons .non (.cons (.bl _) .nil)))))
section
variable {P : Program} {w : World} {K : PySem.W.Frag} {mg : Str → Option Value} {base : Heap} {cV cO cH : Addr}
theorem ok_law_told (T : Txt K mg cV cO cH) : FnG P w K mg base 1 "_law_told" ["_law_word", "_law_steps", "_law_deep", "_law_number"] spTold := by
  refine T.d_law_told.okG sc_law_told (fun vs H Q E h => ?_) (fun _ _ _ _ _ _ us hl => match us, hl with | [_, _, _, _], _ => rfl) (fun f cdv A outer s H vs Q E hr hg h => ?_)
  · obtain ⟨_, _, rfl, _⟩ := h
    rfl
  · have hu := hr.units
    obtain ⟨wd, o, rfl, hw, hs, q⟩ := h
    obtain ⟨s1, s2, s3, s4⟩ := d5_show hw hs
    refine ⟨_, (pss_one (ps_ret (pe_bf (call_reprD hg hu) T.f_repr (pa_cons (pe_tup (pa_cons (pv 0) (pa_cons (pv 1) (pa_cons (pv 2) (pa_cons (pv 3) (pa_cons (pe_cmpR op_ne (pv 0) pe_str (nomark _)) pa_nil)))))) pa_nil)))), ?_⟩
    walk_at "go"
    refine ⟨by show 5 ≤ sizeLine; decide, fun t ht => ?_⟩
    walk_at "go"
    refine ⟨t, d5 wd o, rfl, dp5 upd_same, s2, s1, s3, s4, ?_⟩
    exact q _ (Kp.new ht)
theorem ok_law_shown (T : Txt K mg cV cO cH) : FnG P w K mg base 3 "_law_shown" ["_law_found"] (spShown cV cO) := by
  have h_ends := ok_Outcome_ends (P := P) (w := w) (base := base) T
  refine T.d_law_shown.okG sc_law_shown (fun vs H Q E h => ?_) (fun _ _ _ _ _ _ us hl => match us, hl with | [_], _ => rfl) (fun f cdv A outer s H vs Q E hr hg h => ?_)
  · obtain ⟨_, _, _, _, _, _, _, _, _, _, _, _, rfl, _⟩ := h
    rfl
  · have hu := hr.units
    obtain ⟨oo, v, d, l, as, c, kn, D, rows, wd, loop, o, rfl, O, hw, hs, eo, q⟩ := h
    obtain ⟨s1, s2, s3, s4⟩ := d5_show hw hs
    obtain ⟨dx, cr, st, dp, ex, _, hh⟩ := O.ex
    have hst : st = vN (o.map (·.1)) ∧ dp = vN (o.map (·.2)) := by
      rcases hh with ⟨e, e1, e2⟩ | ⟨e, _, _, e1, e2⟩
      · rw [if_pos e] at eo
        subst eo
        exact ⟨e1, e2⟩
      · rw [if_neg e] at eo
        subst eo
        exact ⟨e1, e2⟩
    refine ⟨_, (pss_one (ps_ret (pe_bf (call_reprD hg hu) T.f_repr (pa_cons (pe_tup (pa_cons (pe_fld (pv 0) rfl) (pa_cons (pe_fld (pv 0) rfl) (pa_cons (pe_fld (pv 0) rfl) (pa_cons (pe_fld (pv 0) rfl) (pa_cons (pe_prp (pv 0) T.clO h_ends hr (by decide)) pa_nil)))))) pa_nil)))), ?_⟩
    walk_at "go"
    refine ⟨_, _, _, _, _, rfl, ex, T.clO, T.nO_word, of_word _ _ _ _ _ _ _, ?_⟩
    walk_at "go"
    refine ⟨_, _, _, _, _, rfl, ex, T.clO, T.nO_steps, of_st _ _ _ _ _ _ _, ?_⟩
    walk_at "go"
    refine ⟨_, _, _, _, _, rfl, ex, T.clO, T.nO_depth, of_dp _ _ _ _ _ _ _, ?_⟩
    walk_at "go"
    refine ⟨_, _, _, _, _, rfl, ex, T.clO, T.nO_number, of_num _ _ _ _ _ _ _, ?_⟩
    walk_at "go"
    refine ⟨_, _, _, rfl, ex, ?_⟩
    refine ⟨oo, v, d, l, as, c, kn, D, rows, wd, loop, rfl, O, ?_⟩
    walk_at "go"
    refine ⟨by show 5 ≤ sizeLine; decide, fun t ht => ?_⟩
    walk_at "go"
    refine ⟨t, d5 wd o, rfl, dp5 (by rw [upd_same, hst.1, hst.2]), s2, s1, s3, s4, ?_⟩
    exact q _ (Kp.new ht)
end
end Rk
set_option Elab.async false
set_option linter.all false
set_option maxRecDepth 100000
set_option maxHeartbeats 1000000
/-! due -/
namespace Rk
open PySem PySem.Spec PyProof.Rows L2
local macro_rules | `(tactic| walk_at "go") => `(tactic| ((try dsimp only); repeat (first
  | with_reducible apply i_seq
  | ((with_reducible apply i_var); exact rfl)
  | with_reducible apply i_c
  | with_reducible apply i_cons
  | with_reducible apply i_nil
  | with_reducible apply i_call
  | with_reducible apply i_cb
  | with_reducible apply i_meth
  | with_reducible apply i_fld
  | with_reducible apply i_op
  | with_reducible apply i_rI0
  | with_reducible apply i_eqI
  | with_reducible apply i_neI
  | with_reducible apply i_eqS
  | with_reducible apply i_neS
  | with_reducible apply i_if
  | with_reducible apply i_test
  | with_reducible apply i_b
  | with_reducible apply i_bl
  | with_reducible apply i_int
  | with_reducible apply i_and
  | with_reducible apply i_or
  | with_reducible apply i_not
  | with_reducible apply i_andV
  | with_reducible apply i_orV
  | with_reducible apply i_notV
  | with_reducible apply i_ifE
  | with_reducible apply i_itt
  | with_reducible apply i_itf
  | with_reducible apply i_nt
  | with_reducible apply i_nf
  | with_reducible apply i_asg
  | with_reducible apply i_name
  | with_reducible apply i_ret
  | with_reducible apply i_retN
  | with_reducible apply i_drop
  | with_reducible apply i_next
  | with_reducible apply i_break
  | with_reducible apply i_un
  | with_reducible apply i_rU
  | with_reducible apply i_tup
  | with_reducible apply i_lst
  | with_reducible apply i_par
  | with_reducible apply i_chain
  | with_reducible apply i_gcons
  | with_reducible apply i_gnil
  | with_reducible apply i_prop
  | with_reducible apply i_make
  | ((with_reducible apply i_aug); exact rfl)
  | with_reducible apply i_ipI
  | with_reducible apply i_sl
  | with_reducible apply i_noPart
  | with_reducible apply i_part
  | with_reducible apply i_bm
  | with_reducible apply i_bm0
  | with_reducible apply i_lc
  | with_reducible apply i_for
  | with_reducible apply i_iStr
  | with_reducible apply i_iList
  | with_reducible apply i_iTup
  | with_reducible apply i_rng1
  | with_reducible apply i_rng2
  | with_reducible apply i_yes
  | with_reducible apply i_refE
  | with_reducible apply i_strE
  | with_reducible apply i_sfld
  | with_reducible apply i_dput
  | with_reducible apply i_dget
  | with_reducible apply i_din
  | with_reducible apply i_dnotin
  | with_reducible apply i_dnew
  | with_reducible apply i_augS
  | with_reducible apply i_gsub
  | with_reducible apply i_asg2
  | with_reducible apply i_disp1
  | with_reducible apply i_ar
  | with_reducible apply i_sfldaug
  | with_reducible apply i_gfld
  | with_reducible apply i_ckw
  | with_reducible apply i_rAdd
  | with_reducible apply i_par3
  | with_reducible apply i_iZip)))
abbrev N_law_due : List Str := ["_law_heap_here", "_law_pairs", "_law_tails", "_law_mark", "_law_steps", "_law_deep", "_law_x", "_law_y", "_law_one", "_law_other", "_law_pair"]
theorem sc_law_due : FnScope N_law_due ["_law_heap_here", "_law_pairs", "_law_tails", "_law_mark"] (defScope s_law_due) := ⟨rfl, rfl, rfl, by decide +kernel, rfl, by decide +kernel, by decide +kernel⟩
/-- two boxes of pairs of boxes and then leaves -/
structure Sit (c : Ctn) (m : Nat) (p0 : Pr) (pairs : List Pr) (t0 t1 : Int) (n : Nat) : Prop where
  hL : Lim c
  low : Low c m
  hm : m ≤ c.length
  hz : zp c p0 = refsOf pairs t0 t1
  h0 : ¬ (p0.1 < m ∧ p0.2 < m)
  rg : ∀ q ∈ pairs, q.1 < m ∧ q.2 < m
  n1 : (rw c p0.1).length = n
  n2 : (rw c p0.2).length = n
  pl : pairs.length ≤ 4
theorem diff_mem {q : Pr} {pairs : List Pr} (h : q ∈ diff pairs) : q ∈ pairs ∧ q.1 ≠ q.2 := by
  obtain ⟨h1, h2⟩ := List.mem_filter.mp h
  exact ⟨h1, by simpa using h2⟩
theorem diff_len {pairs : List Pr} : (diff pairs).length ≤ pairs.length := List.length_filter_le ..
theorem diff_snoc {ps : List Pr} {q : Pr} : diff (ps ++ [q]) = diff ps ++ (if q.1 = q.2 then [] else [q]) := by
  unfold diff
  rw [List.filter_append, List.filter_cons, List.filter_nil]
  by_cases h : q.1 = q.2 <;> simp [h]
/-- [pair for pair in pairs if pair[0] != pair[1]] -/
theorem lc_diff {K : PySem.W.Frag} {lp E : Addr} {ps : List Pr} {σ : L2.St} {H : Hp} {Qd : Hp → Prop} {j : Nat} {vs : List Nat} {tt : TT} (htt : tt = tTest (tOp rNe (tOp (rIxT K) (tVar j) (tC (.int 0))) (tOp (rIxT K) (tVar j) (tC (.int 1))))) (hp : PrsAt H ps lp) (hl : ps.length < sizeLine) (hE : H E = none)
    (hj : j ∈ vs) (jl : j < σ.length) (q : ∀ H', Kp [] H H' → PrsAt H' (diff ps) E → Qd H') : LcW (Itl K lp) (gName j) tt (tVar j) vs σ H E Qd := by
  subst htt
  obtain ⟨ts, h1, h2⟩ := hp
  have lt := plen h2
  refine LcW.it (walk_list (xs := ts.map V.ref)) (fun i H' => Kp [E] H H' ∧ PrsAt H' (diff (ps.take i)) E) ⟨Kp.new hE, [], upd_same, .nil⟩ (fun i H' _ z => z.1.sqL (nin h1 hE) (SqL.of h1)) ?_ ?_
  · rintro i x H1 H2 hi ⟨k1, us, e1, p1⟩ ⟨rfl, hx⟩
    rw [List.getElem?_map] at hx
    obtain ⟨t, et, rfl⟩ := Option.map_eq_some_iff.mp hx
    obtain ⟨p, ep, hpt⟩ := pgetR h2 et
    have hpt2 : PrAt H2 t p := PrAt.kp hpt k1
    have s1 : ((wipe σ vs).set j (some (V.ref t)))[j]? = some (some (V.ref t)) := List.getElem?_set_self (by rw [wipe_length]; exact jl)
    refine i_name ⟨wipe_one hj, i_test (i_op (i_op (i_var s1 (i_c (i_ixT (v := .int p.1) hpt2 rfl (i_op (i_var s1 (i_c (i_ixT (v := .int p.2) hpt2 rfl (i_neI (i_bl ?_)))))))))))⟩
    rw [take_snoc ep, diff_snoc]
    by_cases h : p.1 = p.2
    · rw [if_pos h]
      refine iteF (by simp [h]) ?_
      rw [List.append_nil]
      exact ⟨k1, us, e1, p1⟩
    · rw [if_neg h]
      refine iteT (by simp; omega) (i_var s1 ?_)
      have lx : (us.map V.ref).length < sizeLine := by
        rw [List.length_map, ← plen p1]
        have := diff_len (pairs := ps.take i)
        rw [List.length_take] at this
        omega
      have k3 : Kp [E] H2 (upd H2 E (.lst (us.map V.ref ++ [.ref t]))) := Kp.wr (List.mem_singleton.mpr rfl) e1 (fun _ z => nomatch z)
      exact ⟨_, e1, lx, k1.trans k3, us ++ [t], by rw [upd_same, List.map_append]; rfl, psnoc (pmap p1 fun _ _ z => PrAt.kp z k3) (PrAt.kp hpt2 k3)⟩
  · rintro H1 ⟨k1, hP⟩
    rw [List.length_map, ← lt, List.take_length] at hP
    exact q H1 (k1.drop hE) hP
theorem stI_refl {sg : Str} (hs : sg ∈ (["<", "<=", ">", ">="] : List Str)) (a b : Int) : stI sg a a = stI sg b b := by
  simp only [List.mem_cons, List.not_mem_nil, or_false] at hs
  rcases hs with rfl | rfl | rfl | rfl
  · rw [st_lt, st_lt, decide_eq_false (by omega), decide_eq_false (by omega)]
  · rw [st_le, st_le, decide_eq_true (by omega), decide_eq_true (by omega)]
  · rw [st_gt, st_gt, decide_eq_false (by omega), decide_eq_false (by omega)]
  · rw [st_ge, st_ge, decide_eq_true (by omega), decide_eq_true (by omega)]
theorem tail_yn {sg : Str} (hs : sg ∈ (["<", "<=", ">", ">="] : List Str)) (t0 t1 : Int) (n : Nat) : tailW (woS sg) (anS sg) t0 t1 n = yn (stI sg t0 t1) := by
  unfold tailW
  by_cases h : t0 = t1
  · rw [if_pos h, h]
    unfold anS
    rw [stI_refl hs (n : Int) t1]
  · rw [if_neg h]
    rfl
theorem yn_ne {b : Bool} : ¬ yn b = sEnd := by cases b <;> decide +kernel
/-- the verdict and what is known -/
theorem vv_en {c : Ctn} {q : Pr} (h : (VV c q).w = .en) : Vc c q = none := by
  rw [V_fix]
  unfold Vd.fin
  rw [h]
theorem vv_un {c : Ctn} {q : Pr} (h : (VV c q).w = .un) : ∃ v, Vc c q = some v ∧ v.un = true := by
  rw [V_fix]
  unfold Vd.fin
  rw [h]
  exact ⟨_, rfl, rfl⟩
theorem vv_eq {c : Ctn} {q : Pr} (h : (VV c q).w = .eq) : ∃ v, Vc c q = some v ∧ ¬ v.un = true := by
  rw [V_fix]
  unfold Vd.fin
  rw [h]
  exact ⟨_, rfl, fun z => Bool.noConfusion z⟩
theorem meS_one {c : Ctn} {q : Pr} {v : Fv} (h : Vc c q = some v) : meS c [(0, [q])] = v.s := by
  unfold meS sumS
  simp [h, meS]
theorem meD_one {c : Ctn} {q : Pr} {v : Fv} (h : Vc c q = some v) : meD c 0 [(0, [q])] = v.d := by
  unfold meD maxD
  simp [h, meD]
/-- the course's first row -/
theorem meS_cons {c : Ctn} {F : List Pr} {i : Nat} {q : Pr} {v : Fv} {rows : List Rw} (hi : F[i]? = some q) (hv : Vc c q = some v) : meS c ((1, F.take (i + 1)) :: rows) = 1 + sumS c (F.take i) + v.s + meS c rows := by
  show 1 + sumS c (F.take (i + 1)) + meS c rows = _
  rw [take_snoc hi, sumS_snoc hv]
  omega
theorem meD_cons {c : Ctn} {F : List Pr} {i : Nat} {q : Pr} {v : Fv} {rows : List Rw} (hi : F[i]? = some q) (hv : Vc c q = some v) (hne : rows ≠ []) : meD c 0 ((1, F.take (i + 1)) :: rows) = max (max (maxD c (F.take i) + 1) (v.d + 1)) (meD c 0 rows + 1) := by
  show max (0 + 1 + maxD c (F.take (i + 1))) (meD c (0 + 1) rows) = _
  rw [meD_succ rows 0 hne, take_snoc hi, maxD_snoc hv]
  omega
theorem maxD_le {c : Ctn} {i : Nat} {F : List Pr} {q : Pr} {v : Fv} (hi : F[i]? = some q) (hv : Vc c q = some v) : maxD c (F.take (i + 1)) = max (maxD c (F.take i)) v.d := by
  rw [take_snoc hi, maxD_snoc hv]
theorem mx (a b : Nat) : (if ((b : Nat) : Int) > ((a : Nat) : Int) then ((b : Nat) : Int) else ((a : Nat) : Int)) = ((max a b : Nat) : Int) := by
  split <;> omega
/-- what is due: the answer, the steps, the depth -/
def spDue (cH : Addr) : Sp := fun vs H Q _ => ∃ (h l lp tt : Addr) (as : List Addr) (c : Ctn) (sg : Str) (m n : Nat) (p0 : Pr) (pairs : List Pr) (t0 t1 : Int), vs = [.ref h, .ref lp, .ref tt, .str sg] ∧ sg ∈ (["<", "<=", ">", ">="] : List Str) ∧ HpS H cH h l as c ∧ Sit c m p0 pairs t0 t1 n ∧ PrsAt H pairs lp ∧ H tt = some (.tup [.int t0, .int t1]) ∧
  ∀ H' t wd rows loop, Kp [] H H' → Ch c (woS sg) (anS sg) [] p0 wd rows loop → H' t = some (.tup [.str wd, vN ((if wd = sEnd then none else some (meS c rows, meD c 0 rows)).map (·.1)), vN ((if wd = sEnd then none else some (meS c rows, meD c 0 rows)).map (·.2))]) → Q (.ref t) H'
section
variable {P : Program} {w : World} {K : PySem.W.Frag} {mg : Str → Option Value} {base : Heap} {cV cO cH : Addr}
theorem ok_law_due (T : Txt K mg cV cO cH) : Fn0 P w K mg base 11 "_law_due" ["_law_heap_here", "_law_pairs", "_law_tails", "_law_mark"] (spDue cH) := by
  have h_equality := ok_equality (P := P) (w := w) (base := base) T
  have h_ordering := ok_ordering (P := P) (w := w) (base := base) T
  have h_ends := ok_Outcome_ends (P := P) (w := w) (base := base) T
  have h_law_by_mark := ok_law_by_mark (P := P) (w := w) (base := base) T
  refine T.d_law_due.ok sc_law_due (fun vs H Q E h => ?_) (fun _ _ _ _ _ _ us hl => match us, hl with | [_, _, _, _], _ => rfl) (fun f cdv A outer s H vs Q E hr h => ?_)
  · obtain ⟨_, _, _, _, _, _, _, _, _, _, _, _, _, rfl, _⟩ := h
    rfl
  · obtain ⟨h, l, lp, tt, as, c, sg, m, n, p0, pairs, t0, t1, rfl, hsg, hS, S, hp, ht, q⟩ := h
    refine ⟨_, (pss_cons (ps_asg (pe_tup (pa_cons pe_int (pa_cons pe_int pa_nil))) (pg_tup rfl (pgs_cons (pg_name (i := 4) sc_law_due.nd rfl (by first | exact Or.inl rfl | exact Or.inr rfl)) (pgs_cons (pg_name (i := 5) sc_law_due.nd rfl (by first | exact Or.inl rfl | exact Or.inr rfl)) pgs_nil))))
    (pss_cons (ps_for PassesOwn.never rfl (pi_list (pe_lc (own := [("_law_pair", 10)]) rfl sc_law_due.nd (pi_list (pv 1)) (blkOk_by (own := [("_law_pair", 10)]) (N := N_law_due) (sc := defScope s_law_due) (by decide +kernel)) (by intro _ _ _ _ _; exact (pg_name (i := 10) sc_law_due.nd rfl (by first | exact Or.inl rfl | exact Or.inr rfl))) (by intro _ _ _ _ _; exact (pts_one (pt_cmpR op_ne (pe_ix (ix_tupK (K := K) rfl) (pv 10) pe_int (fun _ _ => rfl)) (pe_ix (ix_tupK (K := K) rfl) (pv 10) pe_int (fun _ _ => rfl)) (nomark _)))) (by intro _ _ _ _ _; exact (pv 10)))) (pg_tup rfl (pgs_cons (pg_name (i := 6) sc_law_due.nd rfl (by first | exact Or.inl rfl | exact Or.inr rfl)) (pgs_cons (pg_name (i := 7) sc_law_due.nd rfl (by first | exact Or.inl rfl | exact Or.inr rfl)) pgs_nil)))
      (pss_cons (ps_set (i := 8) sc_law_due.nd rfl (by first | exact Or.inl rfl | exact Or.inr rfl) (pe_fn h_equality hr (by decide) rfl (pa_cons (pv 0) (pa_cons (pv 6) (pa_cons (pv 7) pa_nil)))))
      (pss_cons (ps_if (pt_not (pt_val (pe_prp (pv 8) T.clO h_ends hr (by decide))))
        (pss_one (ps_ret (pe_tup (pa_cons pe_str (pa_cons pe_non (pa_cons pe_non pa_nil))))))
        pss_nil)
      (pss_cons (ps_par (i := 4) (j := 5) rfl sc_law_due.nd rfl rfl (by decide) rfl rfl (pa_cons (pe_op op_add (pv 4) (pe_fld (pv 8) rfl)) (pa_cons (pe_bf (call_max2 rfl) T.f_max (pa_cons (pv 5) (pa_cons (pe_op op_add (pe_fld (pv 8) rfl) pe_int) pa_nil))) pa_nil)) (by rfl))
      (pss_one (ps_if (pt_cmpR op_eq (pe_fld (pv 8) rfl) pe_str (nomark _))
        (pss_cons (ps_set (i := 9) sc_law_due.nd rfl (by first | exact Or.inl rfl | exact Or.inr rfl) (pe_fn h_ordering hr (by decide) rfl (pa_cons (pv 0) (pa_cons (pv 6) (pa_cons (pv 7) (pa_cons (pv 3) pa_nil))))))
        (pss_cons (ps_if (pt_not (pt_val (pe_prp (pv 9) T.clO h_ends hr (by decide))))
          (pss_one (ps_ret (pe_tup (pa_cons pe_str (pa_cons pe_non (pa_cons pe_non pa_nil))))))
          pss_nil)
        (pss_one (ps_ret (pe_tup (pa_cons (pe_fld (pv 9) rfl) (pa_cons (pe_op op_add (pv 4) (pe_fld (pv 9) rfl)) (pa_cons (pe_bf (call_max2 rfl) T.f_max (pa_cons (pv 5) (pa_cons (pe_op op_add (pe_fld (pv 9) rfl) pe_int) pa_nil))) pa_nil))))))))
        pss_nil))))))
    (pss_one (ps_ret (pe_tup (pa_cons (pe_fn h_law_by_mark hr (by decide) rfl (pa_cons (pe_ix ix_tup (pv 2) pe_int (fun _ _ => rfl)) (pa_cons (pe_ix ix_tup (pv 2) pe_int (fun _ _ => rfl)) (pa_cons (pv 3) pa_nil)))) (pa_cons (pv 4) (pa_cons (pv 5) pa_nil)))))))), ?_⟩
    walk_at "go"
    refine ⟨by show 2 ≤ sizeLine; decide, fun z hz => ?_⟩
    have kz : Kp [] H (upd H z (.tup [.int 1, .int 1])) := Kp.new hz
    refine ⟨z, _, rfl, SqT.of upd_same, rfl, ?_⟩
    walk_at "go"
    obtain ⟨ts, hp1, hp2⟩ := hp.kp kz (fun y => nomatch y)
    refine ⟨⟨_, SqL.of hp1⟩, fun E hE => ?_⟩
    refine lc_diff rfl (hp.kp kz (fun y => nomatch y)) (Nat.lt_of_le_of_lt S.pl (by decide)) hE (by decide) (by show 10 < 11; decide) fun H1 k1z hF => ?_
    have k1 := kz.trans k1z
    obtain ⟨us, hF1, hF2⟩ := hF
    have hS1 := hS.kp0 k1
    have lF := plen hF2
    walk_at "go"
    refine ⟨⟨_, SqL.of hF1⟩, ?_⟩
    refine ForW.it (walk_list (xs := us.map V.ref)) (fun i σ H' => ∃ z6 z7 z8 z9 z10, σ = [some (.ref h), some (.ref lp), some (.ref tt), some (.str sg), some (.int ((1 + sumS c ((diff pairs).take i) : Nat) : Int)), some (.int ((maxD c ((diff pairs).take i) + 1 : Nat) : Int)), z6, z7, z8, z9, z10] ∧ Kp [] H1 H' ∧ EqTo c (diff pairs) i)
      ⟨_, _, _, _, _, rfl, Kp.refl _ _, fun j q hj => absurd hj (Nat.not_lt_zero _)⟩ (fun i σ H' _ z => ?_) ?_ ?_
    · obtain ⟨_, _, _, _, _, _, k, _⟩ := z
      exact SqL.of (k.at0 hF1)
    · rintro i x σ H2 H3 hi ⟨z6, z7, z8, z9, z10, rfl, k2, he⟩ ⟨rfl, hx⟩
      rw [List.getElem?_map] at hx
      obtain ⟨t, et, rfl⟩ := Option.map_eq_some_iff.mp hx
      obtain ⟨p, ep, hpt⟩ := pgetR hF2 et
      have hpt3 : PrAt H3 t p := PrAt.kp hpt k2
      obtain ⟨mp, pne⟩ := diff_mem (List.mem_of_getElem? ep)
      have rp := S.rg p mp
      have rp' : p.1 < c.length ∧ p.2 < c.length := ⟨Nat.lt_of_lt_of_le rp.1 S.hm, Nat.lt_of_lt_of_le rp.2 S.hm⟩
      have hS3 := hS1.kp0 k2
      refine ⟨t, _, rfl, SqT.of hpt3, rfl, ?_⟩
      walk_at "go"
      refine ⟨h, l, as, c, p.1, p.2, rfl, hS3, S.hL, rp'.1, rp'.2, fun H4 o v d l' as' kn D k4 _ O => ?_⟩
      have K4 := (k1.trans k2).trans k4
      have hS4 := hS3.kp0 k4
      obtain ⟨dx, cr, st, dp, ex, _, hh⟩ := O.ex
      walk_at "go"
      refine ⟨_, _, _, rfl, ex, ?_⟩
      refine ⟨o, v, d, l', as', c, kn, D, _, _, none, rfl, O, ?_⟩
      cases hw : (VV c p).w with
      | en =>
        have e0 : wdS (VV c p).w = sEnd := by rw [hw]; rfl
        refine ⟨_, rfl, ?_⟩
        refine iteT (by rw [← hw, e0]; decide +kernel) ?_
        walk_at "go"
        refine ⟨by show 3 ≤ sizeLine; decide, fun t2 ht2 => ?_⟩
        refine q _ t2 sEnd _ none (K4.trans (Kp.new ht2)) (law_end S.hz ep he (vv_en hw)) ?_
        rw [upd_same, if_pos rfl]
        rfl
      | un =>
        obtain ⟨v', hv, hu⟩ := vv_un hw
        rcases hh with ⟨e, _⟩ | ⟨_, _, _, rfl, rfl⟩
        · exact absurd (show wdS (VV c p).w = sEnd from e) (by rw [hw]; decide +kernel)
        have eS : ((1 + sumS c ((diff pairs).take i) : Nat) : Int) + ((meS c [(0, [(p.1, p.2)])] : Nat) : Int) = ((1 + sumS c ((diff pairs).take i) + v'.s : Nat) : Int) := by
          rw [meS_one (q := (p.1, p.2)) hv]; omega
        have eD : (if ((meD c 0 [(0, [(p.1, p.2)])] : Nat) : Int) + 1 > ((maxD c ((diff pairs).take i) + 1 : Nat) : Int) then ((meD c 0 [(0, [(p.1, p.2)])] : Nat) : Int) + 1 else ((maxD c ((diff pairs).take i) + 1 : Nat) : Int)) = ((max (maxD c ((diff pairs).take i) + 1) (v'.d + 1) : Nat) : Int) := by
          rw [meD_one (q := (p.1, p.2)) hv]; split <;> omega
        refine ⟨_, rfl, iteF (by decide +kernel) ?_⟩
        walk_at "go"
        refine ⟨_, _, _, _, _, rfl, ex, T.clO, T.nO_steps, of_st _ _ _ _ _ _ _, ?_⟩
        walk_at "go"
        rw [eS]
        refine ⟨_, _, _, _, _, rfl, ex, T.clO, T.nO_depth, of_dp _ _ _ _ _ _ _, ?_⟩
        walk_at "go"
        refine ⟨_, _, rfl, ?_⟩
        rw [eD]
        walk_at "go"
        refine ⟨_, _, rfl, ?_⟩
        walk_at "go"
        refine ⟨_, _, _, _, _, rfl, ex, T.clO, T.nO_word, of_word _ _ _ _ _ _ _, ?_⟩
        walk_at "go"
        refine iteT (decide_eq_true (show wdS (VV c p).w = "unlike" from by rw [hw]; rfl)) ?_
        walk_at "go"
        refine ⟨h, l, as, c, p.1, p.2, sg, rfl, hsg, hS4, S.hL, rp'.1, rp'.2, fun H5 o2 v2 d2 l2 as2 kn2 D2 rows wd loop k5 _ O2 ch => ?_⟩
        have K5 := K4.trans k5
        have ch2 := law_unl S.low S.hz S.h0 ep he hv hu rp ch
        have hne := ch.ne (fun z => nomatch z)
        obtain ⟨dx2, cr2, st2, dp2, ex2, _, hh2⟩ := O2.ex
        walk_at "go"
        refine ⟨_, _, _, rfl, ex2, ?_⟩
        refine ⟨o2, v2, d2, l2, as2, c, kn2, D2, _, _, loop, rfl, O2, ?_⟩
        refine ⟨_, rfl, ?_⟩
        rcases hh2 with ⟨e, rfl, rfl⟩ | ⟨e, _, _, rfl, rfl⟩
        · refine iteT (by simp [e]) ?_
          walk_at "go"
          refine ⟨by show 3 ≤ sizeLine; decide, fun t2 ht2 => ?_⟩
          refine q _ t2 wd _ _ (K5.trans (Kp.new ht2)) ch2 ?_
          rw [upd_same, if_pos e, e]
          rfl
        · refine iteF (by simp [e]) ?_
          walk_at "go"
          refine ⟨_, _, _, _, _, rfl, ex2, T.clO, T.nO_word, of_word _ _ _ _ _ _ _, ?_⟩
          walk_at "go"
          refine ⟨_, _, _, _, _, rfl, ex2, T.clO, T.nO_steps, of_st _ _ _ _ _ _ _, ?_⟩
          walk_at "go"
          refine ⟨_, _, _, _, _, rfl, ex2, T.clO, T.nO_depth, of_dp _ _ _ _ _ _ _, ?_⟩
          walk_at "go"
          refine ⟨_, _, rfl, ?_⟩
          refine ⟨by show 3 ≤ sizeLine; decide, fun t2 ht2 => ?_⟩
          refine q _ t2 wd _ _ (K5.trans (Kp.new ht2)) ch2 ?_
          have e1 : ((1 + sumS c ((diff pairs).take i) + v'.s : Nat) : Int) + ((meS c rows : Nat) : Int) = ((1 + sumS c ((diff pairs).take i) + v'.s + meS c rows : Nat) : Int) := by omega
          have e2 : (if ((meD c 0 rows : Nat) : Int) + 1 > ((max (maxD c ((diff pairs).take i) + 1) (v'.d + 1) : Nat) : Int) then ((meD c 0 rows : Nat) : Int) + 1 else ((max (maxD c ((diff pairs).take i) + 1) (v'.d + 1) : Nat) : Int)) = ((max (max (maxD c ((diff pairs).take i) + 1) (v'.d + 1)) (meD c 0 rows + 1) : Nat) : Int) := by
            split <;> omega
          rw [upd_same, if_neg e, meS_cons ep hv, meD_cons ep hv hne, e1, e2]
          rfl
      | eq =>
        obtain ⟨v', hv, hu⟩ := vv_eq hw
        rcases hh with ⟨e, _⟩ | ⟨_, _, _, rfl, rfl⟩
        · exact absurd (show wdS (VV c p).w = sEnd from e) (by rw [hw]; decide +kernel)
        have eS : ((1 + sumS c ((diff pairs).take i) : Nat) : Int) + ((meS c [(0, [(p.1, p.2)])] : Nat) : Int) = ((1 + sumS c ((diff pairs).take (i + 1)) : Nat) : Int) := by
          rw [meS_one (q := (p.1, p.2)) hv, take_snoc ep, sumS_snoc hv]; omega
        have eD : (if ((meD c 0 [(0, [(p.1, p.2)])] : Nat) : Int) + 1 > ((maxD c ((diff pairs).take i) + 1 : Nat) : Int) then ((meD c 0 [(0, [(p.1, p.2)])] : Nat) : Int) + 1 else ((maxD c ((diff pairs).take i) + 1 : Nat) : Int)) = ((maxD c ((diff pairs).take (i + 1)) + 1 : Nat) : Int) := by
          rw [meD_one (q := (p.1, p.2)) hv, maxD_le ep hv]; split <;> omega
        refine ⟨_, rfl, iteF (by decide +kernel) ?_⟩
        walk_at "go"
        refine ⟨_, _, _, _, _, rfl, ex, T.clO, T.nO_steps, of_st _ _ _ _ _ _ _, ?_⟩
        walk_at "go"
        rw [eS]
        refine ⟨_, _, _, _, _, rfl, ex, T.clO, T.nO_depth, of_dp _ _ _ _ _ _ _, ?_⟩
        walk_at "go"
        refine ⟨_, _, rfl, ?_⟩
        rw [eD]
        walk_at "go"
        refine ⟨_, _, rfl, ?_⟩
        walk_at "go"
        refine ⟨_, _, _, _, _, rfl, ex, T.clO, T.nO_word, of_word _ _ _ _ _ _ _, ?_⟩
        walk_at "go"
        refine iteF (decide_eq_false (show ¬ wdS (VV c p).w = "unlike" from by rw [hw]; decide +kernel)) ?_
        walk_at "go"
        refine ⟨_, _, _, _, _, rfl, k2.trans k4, fun j q' hj hq => ?_⟩
        rcases Nat.lt_or_ge j i with z | z
        · exact he j q' z hq
        · have : j = i := by omega
          subst this
          rw [ep] at hq
          cases hq
          exact ⟨v', hv, hu⟩
    · rintro σ H2 ⟨z6, z7, z8, z9, z10, rfl, k2, he⟩
      rw [List.length_map, ← lF] at he ⊢
      rw [List.take_length]
      have ht2 := (k1.trans k2).t _ _ ht
      walk_at "go"
      refine i_ixT ht2 rfl ?_
      walk_at "go"
      refine i_ixT ht2 rfl ?_
      walk_at "go"
      refine ⟨t0, t1, sg, rfl, hsg, fun H3 k3 => ?_⟩
      walk_at "go"
      refine ⟨by show 3 ≤ sizeLine; decide, fun t2 ht2 => ?_⟩
      have ch := law_all (wo := woS sg) (an := anS sg) S.hz S.n1 S.n2 he
      rw [tail_yn hsg] at ch
      refine q _ t2 _ _ none (((k1.trans k2).trans k3).trans (Kp.new ht2)) ch ?_
      have e1 : meS c [(1, diff pairs)] = 1 + sumS c (diff pairs) := rfl
      have e2 : meD c 0 [(1, diff pairs)] = maxD c (diff pairs) + 1 := by
        show max (0 + 1 + maxD c (diff pairs)) 0 = _
        omega
      rw [upd_same, if_neg yn_ne, e1, e2]
      rfl
end
end Rk
set_option Elab.async false
set_option linter.all false
set_option maxRecDepth 100000
set_option maxHeartbeats 1000000
/-! the law: at a limit -/
namespace Rk
open PySem PySem.Spec PyProof.Rows L2
local macro_rules | `(tactic| walk_at "go") => `(tactic| ((try dsimp only); repeat (first
  | with_reducible apply i_seq
  | ((with_reducible apply i_var); exact rfl)
  | with_reducible apply i_c
  | with_reducible apply i_cons
  | with_reducible apply i_nil
  | with_reducible apply i_call
  | with_reducible apply i_cb
  | with_reducible apply i_meth
  | with_reducible apply i_fld
  | with_reducible apply i_op
  | with_reducible apply i_rI0
  | with_reducible apply i_eqI
  | with_reducible apply i_neI
  | with_reducible apply i_eqS
  | with_reducible apply i_neS
  | with_reducible apply i_if
  | with_reducible apply i_test
  | with_reducible apply i_b
  | with_reducible apply i_bl
  | with_reducible apply i_int
  | with_reducible apply i_and
  | with_reducible apply i_or
  | with_reducible apply i_not
  | with_reducible apply i_andV
  | with_reducible apply i_orV
  | with_reducible apply i_notV
  | with_reducible apply i_ifE
  | with_reducible apply i_itt
  | with_reducible apply i_itf
  | with_reducible apply i_nt
  | with_reducible apply i_nf
  | with_reducible apply i_asg
  | with_reducible apply i_name
  | with_reducible apply i_ret
  | with_reducible apply i_retN
  | with_reducible apply i_drop
  | with_reducible apply i_next
  | with_reducible apply i_break
  | with_reducible apply i_un
  | with_reducible apply i_rU
  | with_reducible apply i_tup
  | with_reducible apply i_lst
  | with_reducible apply i_par
  | with_reducible apply i_chain
  | with_reducible apply i_gcons
  | with_reducible apply i_gnil
  | with_reducible apply i_prop
  | with_reducible apply i_make
  | ((with_reducible apply i_aug); exact rfl)
  | with_reducible apply i_ipI
  | with_reducible apply i_sl
  | with_reducible apply i_noPart
  | with_reducible apply i_part
  | with_reducible apply i_bm
  | with_reducible apply i_bm0
  | with_reducible apply i_lc
  | with_reducible apply i_for
  | with_reducible apply i_iStr
  | with_reducible apply i_iList
  | with_reducible apply i_iTup
  | with_reducible apply i_rng1
  | with_reducible apply i_rng2
  | with_reducible apply i_yes
  | with_reducible apply i_refE
  | with_reducible apply i_strE
  | with_reducible apply i_sfld
  | with_reducible apply i_dput
  | with_reducible apply i_dget
  | with_reducible apply i_din
  | with_reducible apply i_dnotin
  | with_reducible apply i_dnew
  | with_reducible apply i_augS
  | with_reducible apply i_gsub
  | with_reducible apply i_asg2
  | with_reducible apply i_disp1
  | with_reducible apply i_ar
  | with_reducible apply i_sfldaug
  | with_reducible apply i_gfld
  | with_reducible apply i_ckw
  | with_reducible apply i_rAdd
  | with_reducible apply i_par3
  | with_reducible apply i_iZip)))
abbrev N_law_at : List Str := ["_law_heap_here", "_law_pairs", "_law_tails", "_law_mark", "_law_room", "_law_steps", "_law_x", "_law_y", "_law_word", "_law_more", "_law_pair"]
theorem sc_law_at : FnScope N_law_at ["_law_heap_here", "_law_pairs", "_law_tails", "_law_mark", "_law_room"] (defScope s_law_at) := ⟨rfl, rfl, rfl, by decide +kernel, rfl, by decide +kernel, by decide +kernel⟩
/-- what is due at a limit: what the order comes to at it -/
def spLAt (cH : Addr) : Sp := fun vs H Q _ => ∃ (h l lp tt : Addr) (as : List Addr) (c : Ctn) (sg : Str) (m n : Nat) (p0 : Pr) (pairs : List Pr) (t0 t1 : Int) (wd : Str) (rows : List Rw) (loop : Option Nat) (room : Nat), vs = [.ref h, .ref lp, .ref tt, .str sg, .int (room : Nat)] ∧ sg ∈ (["<", "<=", ">", ">="] : List Str) ∧ HpS H cH h l as c ∧ Sit c m p0 pairs t0 t1 n ∧ PrsAt H pairs lp ∧ H tt = some (.tup [.int t0, .int t1]) ∧
  Ch c (woS sg) (anS sg) [] p0 wd rows loop ∧ 1 ≤ room ∧ room ≤ 10 ^ 30 ∧ ∀ H' t w' s', Kp [] H H' → At c wd rows loop 0 room (w', s') → H' t = some (.tup [.str w', .int ((s' : Nat) : Int)]) → Q (.ref t) H'
section
variable {P : Program} {w : World} {K : PySem.W.Frag} {mg : Str → Option Value} {base : Heap} {cV cO cH : Addr}
theorem ok_law_at (T0 : Txt K mg cV cO cH) : Fn0 P w K mg base 11 "_law_at" ["_law_heap_here", "_law_pairs", "_law_tails", "_law_mark", "_law_room"] (spLAt cH) := by
  have h_equality := ok_equality (P := P) (w := w) (base := base) T0
  have h_ordering := ok_ordering (P := P) (w := w) (base := base) T0
  have h_at := ok_Outcome_at (P := P) (w := w) (base := base) T0
  have h_law_by_mark := ok_law_by_mark (P := P) (w := w) (base := base) T0
  refine T0.d_law_at.ok sc_law_at (fun vs H Q E h => ?_) (fun _ _ _ _ _ _ us hl => match us, hl with | [_, _, _, _, _], _ => rfl) (fun f cdv A outer s H vs Q E hr h => ?_)
  · obtain ⟨_, _, _, _, _, _, _, _, _, _, _, _, _, _, _, _, _, rfl, _⟩ := h
    rfl
  · obtain ⟨h, l, lp, tt, as, c, sg, m, n, p0, pairs, t0, t1, wd, rows, loop, room, rfl, hsg, hS, S, hp, ht, ch, hr1, hr2, q⟩ := h
    refine ⟨_, (pss_cons (ps_set (i := 5) sc_law_at.nd rfl (by first | exact Or.inl rfl | exact Or.inr rfl) pe_int)
    (pss_cons (ps_for PassesOwn.never rfl (pi_list (pe_lc (own := [("_law_pair", 10)]) rfl sc_law_at.nd (pi_list (pv 1)) (blkOk_by (own := [("_law_pair", 10)]) (N := N_law_at) (sc := defScope s_law_at) (by decide +kernel)) (by intro _ _ _ _ _; exact (pg_name (i := 10) sc_law_at.nd rfl (by first | exact Or.inl rfl | exact Or.inr rfl))) (by intro _ _ _ _ _; exact (pts_one (pt_cmpR op_ne (pe_ix (ix_tupK (K := K) rfl) (pv 10) pe_int (fun _ _ => rfl)) (pe_ix (ix_tupK (K := K) rfl) (pv 10) pe_int (fun _ _ => rfl)) (nomark _)))) (by intro _ _ _ _ _; exact (pv 10)))) (pg_tup rfl (pgs_cons (pg_name (i := 6) sc_law_at.nd rfl (by first | exact Or.inl rfl | exact Or.inr rfl)) (pgs_cons (pg_name (i := 7) sc_law_at.nd rfl (by first | exact Or.inl rfl | exact Or.inr rfl)) pgs_nil)))
      (pss_cons (ps_if (pt_cmpR op_eq (pv 4) pe_int (nomark _))
        (pss_one (ps_ret (pe_tup (pa_cons pe_str (pa_cons (pv 5) pa_nil)))))
        pss_nil)
      (pss_cons (ps_asg (pe_mtd (pe_fn h_equality hr (by decide) rfl (pa_cons (pv 0) (pa_cons (pv 6) (pa_cons (pv 7) pa_nil)))) T0.clO h_at hr (by decide) (pa_cons (pe_op op_sub (pv 4) pe_int) pa_nil)) (pg_tup rfl (pgs_cons (pg_name (i := 8) sc_law_at.nd rfl (by first | exact Or.inl rfl | exact Or.inr rfl)) (pgs_cons (pg_name (i := 9) sc_law_at.nd rfl (by first | exact Or.inl rfl | exact Or.inr rfl)) pgs_nil))))
      (pss_cons (ps_set (i := 5) sc_law_at.nd rfl (by first | exact Or.inl rfl | exact Or.inr rfl) (pe_op op_add (pv 5) (pv 9)))
      (pss_cons (ps_if (pt_cmpR op_eq (pv 8) pe_str (nomark _))
        (pss_cons (ps_asg (pe_mtd (pe_fn h_ordering hr (by decide) rfl (pa_cons (pv 0) (pa_cons (pv 6) (pa_cons (pv 7) (pa_cons (pv 3) pa_nil))))) T0.clO h_at hr (by decide) (pa_cons (pe_op op_sub (pv 4) pe_int) pa_nil)) (pg_tup rfl (pgs_cons (pg_name (i := 8) sc_law_at.nd rfl (by first | exact Or.inl rfl | exact Or.inr rfl)) (pgs_cons (pg_name (i := 9) sc_law_at.nd rfl (by first | exact Or.inl rfl | exact Or.inr rfl)) pgs_nil))))
        (pss_one (ps_ret (pe_tup (pa_cons (pv 8) (pa_cons (pe_op op_add (pv 5) (pv 9)) pa_nil))))))
        pss_nil)
      (pss_one (ps_if (pt_cmpR op_ne (pv 8) pe_str (nomark _))
        (pss_one (ps_ret (pe_tup (pa_cons (pv 8) (pa_cons (pv 5) pa_nil)))))
        pss_nil)))))))
    (pss_one (ps_ret (pe_tup (pa_cons (pe_fn h_law_by_mark hr (by decide) rfl (pa_cons (pe_ix ix_tup (pv 2) pe_int (fun _ _ => rfl)) (pa_cons (pe_ix ix_tup (pv 2) pe_int (fun _ _ => rfl)) (pa_cons (pv 3) pa_nil)))) (pa_cons (pv 5) pa_nil))))))), ?_⟩
    walk_at "go"
    obtain ⟨ts, hp1, hp2⟩ := hp
    refine ⟨⟨_, SqL.of hp1⟩, fun E hE => ?_⟩
    refine lc_diff rfl ⟨ts, hp1, hp2⟩ (Nat.lt_of_le_of_lt S.pl (by decide)) hE (by decide) (by show 10 < 11; decide) fun H1 k1 hF => ?_
    obtain ⟨us, hF1, hF2⟩ := hF
    have hS1 := hS.kp0 k1
    have lF := plen hF2
    walk_at "go"
    refine ⟨⟨_, SqL.of hF1⟩, ?_⟩
    refine ForW.it (walk_list (xs := us.map V.ref)) (fun i σ H' => ∃ z6 z7 z8 z9 z10, σ = [some (.ref h), some (.ref lp), some (.ref tt), some (.str sg), some (.int (room : Nat)), some (.int ((1 + sumS c ((diff pairs).take i) : Nat) : Int)), z6, z7, z8, z9, z10] ∧ Kp [] H1 H' ∧ EqTo c (diff pairs) i ∧ maxD c ((diff pairs).take i) ≤ room - 1)
      ⟨_, _, _, _, _, rfl, Kp.refl _ _, (fun j q hj => absurd hj (Nat.not_lt_zero _)), Nat.zero_le _⟩ (fun i σ H' _ z => ?_) ?_ ?_
    · obtain ⟨_, _, _, _, _, _, k, _⟩ := z
      exact SqL.of (k.at0 hF1)
    · rintro i x σ H2 H3 hi ⟨z6, z7, z8, z9, z10, rfl, k2, he, hd⟩ ⟨rfl, hx⟩
      rw [List.getElem?_map] at hx
      obtain ⟨t, et, rfl⟩ := Option.map_eq_some_iff.mp hx
      obtain ⟨p, ep, hpt⟩ := pgetR hF2 et
      have hpt3 : PrAt H3 t p := PrAt.kp hpt k2
      obtain ⟨mp, pne⟩ := diff_mem (List.mem_of_getElem? ep)
      have rp := S.rg p mp
      have rp' : p.1 < c.length ∧ p.2 < c.length := ⟨Nat.lt_of_lt_of_le rp.1 S.hm, Nat.lt_of_lt_of_le rp.2 S.hm⟩
      have hS3 := hS1.kp0 k2
      refine ⟨t, _, rfl, SqT.of hpt3, rfl, ?_⟩
      walk_at "go"
      refine iteB (fun e1 => ?_) (fun e1 => ?_)
      · have r1 : room = 1 := by
          have := of_decide_eq_true e1
          omega
        have A1 := out_stop ch S.hz ep he hd hr1 (fun v hv => by have := Vc_d1 hv; omega)
        rw [show room - 1 = 0 by omega] at A1
        walk_at "go"
        refine ⟨by show 2 ≤ sizeLine; decide, fun t2 ht2 => ?_⟩
        exact q _ t2 _ _ ((k1.trans k2).trans (Kp.new ht2)) A1 upd_same
      · walk_at "go"
        refine ⟨h, l, as, c, p.1, p.2, rfl, hS3, S.hL, rp'.1, rp'.2, fun H4 o v d l' as' kn D k4 f4 O => ?_⟩
        have K4 := (k1.trans k2).trans k4
        have hS4 := hS3.kp0 k4
        obtain ⟨dx, cr, st, dp, ex, _, _⟩ := O.ex
        have r1 : ¬ room = 1 := fun z => by
          have := of_decide_eq_false e1
          omega
        have er : ((room : Nat) : Int) - 1 = ((room - 1 : Nat) : Int) := by omega
        refine ⟨_, _, _, rfl, ex, rfl, ?_⟩
        walk_at "go"
        rw [er]
        refine ⟨o, v, d, l', as', c, kn, D, _, _, none, room - 1, rfl, O, by omega, by omega, fun H5 t5 wd5 s5 k5 V5 e5 A5 => ?_⟩
        have K35 : Kp [] H3 H5 := k4.via k5 fun b hb => .inr (f4 b hb)
        have K5 := (k1.trans k2).trans K35
        have hS5 := hS3.kp0 K35
        refine ⟨t5, _, rfl, SqT.of e5, rfl, ?_⟩
        walk_at "go"
        rcases fits_or c p (room - 1) with hq | ⟨v', hv, hd'⟩
        · -- too deep in a comparison
          have z := A5.one_deep hq
          cases z
          refine iteF (by decide +kernel) ?_
          walk_at "go"
          refine iteT (by decide +kernel) ?_
          walk_at "go"
          refine ⟨by show 2 ≤ sizeLine; decide, fun t2 ht2 => ?_⟩
          refine q _ t2 _ _ (K5.trans (Kp.new ht2)) (out_stop ch S.hz ep he hd hr1 hq) ?_
          rw [upd_same]
          have e2 : ((1 + sumS c ((diff pairs).take i) : Nat) : Int) + ((T c (room - 1) p : Nat) : Int) = ((1 + sumS c ((diff pairs).take i) + T c (room - 1) p : Nat) : Int) := by omega
          rw [e2]
        · have z := A5.one_fits hv hd'
          have eS : ((1 + sumS c ((diff pairs).take i) : Nat) : Int) + ((v'.s : Nat) : Int) = ((1 + sumS c ((diff pairs).take i) + v'.s : Nat) : Int) := by omega
          have hw := hv
          rw [V_fix] at hw
          unfold Vd.fin at hw
          cases hw2 : (VV c p).w with
          | en => rw [hw2] at hw; cases hw
          | un =>
            have hu : v'.un = true := by rw [hw2] at hw; cases hw; rfl
            have z : (wd5, s5) = ((("unlike" : Str)), v'.s) := by rw [z]; exact congrArg (fun x => (wdS x, v'.s)) hw2
            cases z
            refine iteT (by decide +kernel) ?_
            walk_at "go"
            refine ⟨h, l, as, c, p.1, p.2, sg, rfl, hsg, hS5, S.hL, rp'.1, rp'.2, fun H6 o2 v2 d2 l2 as2 kn2 D2 rows2 wd2 loop2 k6 f6 O2 ch2 => ?_⟩
            obtain ⟨dx2, cr2, st2, dp2, ex2, _, _⟩ := O2.ex
            refine ⟨_, _, _, rfl, ex2, rfl, ?_⟩
            walk_at "go"
            rw [er]
            refine ⟨o2, v2, d2, l2, as2, c, kn2, D2, _, _, loop2, room - 1, rfl, O2, by omega, by omega, fun H7 t7 wd7 s7 k7 V7 e7 A7 => ?_⟩
            have K57 : Kp [] H5 H7 := k6.via k7 fun b hb => .inr (f6 b (by
              rcases List.mem_cons.mp hb with z | z
              · exact z ▸ List.mem_cons_self ..
              · exact List.mem_cons_of_mem _ (List.mem_singleton.mp z ▸ List.mem_cons_self ..)))
            have ch3 := law_unl S.low S.hz S.h0 ep he hv hu rp ch2
            obtain ⟨rfl, rfl, rfl⟩ := ch.det ch3
            have A9 := at_go ep he hd hr1 hv hd' (ch2.ne (fun z => nomatch z)) A7
            refine ⟨t7, _, rfl, SqT.of e7, rfl, ?_⟩
            walk_at "go"
            refine ⟨by show 2 ≤ sizeLine; decide, fun t2 ht2 => ?_⟩
            refine q _ t2 _ _ ((K5.trans K57).trans (Kp.new ht2)) A9 ?_
            rw [upd_same, eS]
            have e2 : ((1 + sumS c ((diff pairs).take i) + v'.s : Nat) : Int) + ((s7 : Nat) : Int) = ((1 + (sumS c ((diff pairs).take i) + v'.s) + s7 : Nat) : Int) := by omega
            rw [e2]
          | eq =>
            have hu : ¬ v'.un = true := by rw [hw2] at hw; cases hw; exact fun z => Bool.noConfusion z
            have z : (wd5, s5) = ((("equal" : Str)), v'.s) := by rw [z]; exact congrArg (fun x => (wdS x, v'.s)) hw2
            cases z
            refine iteF (by decide +kernel) ?_
            walk_at "go"
            refine iteF (by decide +kernel) ?_
            walk_at "go"
            rw [eS, show 1 + sumS c ((diff pairs).take i) + v'.s = 1 + sumS c ((diff pairs).take (i + 1)) by rw [take_snoc ep, sumS_snoc hv, ← Nat.add_assoc]]
            refine ⟨_, _, _, _, _, rfl, k2.trans K35, he.succ ep hv hu, ?_⟩
            rw [maxD_le ep hv]
            exact Nat.max_le.mpr ⟨hd, hd'⟩
    · rintro σ H2 ⟨z6, z7, z8, z9, z10, rfl, k2, he, hd⟩
      rw [List.length_map, ← lF] at he hd ⊢
      rw [List.take_length] at hd ⊢
      have ht2 := (k1.trans k2).t _ _ ht
      walk_at "go"
      refine i_ixT ht2 rfl ?_
      walk_at "go"
      refine i_ixT ht2 rfl ?_
      walk_at "go"
      refine ⟨t0, t1, sg, rfl, hsg, fun H3 k3 => ?_⟩
      walk_at "go"
      refine ⟨by show 2 ≤ sizeLine; decide, fun t2 ht2 => ?_⟩
      have ch2 := law_all (wo := woS sg) (an := anS sg) S.hz S.n1 S.n2 he
      rw [tail_yn hsg] at ch2
      obtain ⟨rfl, rfl, rfl⟩ := ch.det ch2
      exact q _ t2 _ _ (((k1.trans k2).trans k3).trans (Kp.new ht2)) (at_all he hd hr1) upd_same
end
end Rk
set_option Elab.async false
set_option linter.all false
set_option maxRecDepth 100000
set_option maxHeartbeats 1000000
/-! the law: what is kept -/
namespace Rk
open PySem PySem.Spec PyProof.Rows L2
local macro_rules | `(tactic| walk_at "go") => `(tactic| ((try dsimp only); repeat (first
  | with_reducible apply i_seq
  | ((with_reducible apply i_var); exact rfl)
  | with_reducible apply i_c
  | with_reducible apply i_cons
  | with_reducible apply i_nil
  | with_reducible apply i_call
  | with_reducible apply i_cb
  | with_reducible apply i_meth
  | with_reducible apply i_fld
  | with_reducible apply i_op
  | with_reducible apply i_rI0
  | with_reducible apply i_eqI
  | with_reducible apply i_neI
  | with_reducible apply i_eqS
  | with_reducible apply i_neS
  | with_reducible apply i_if
  | with_reducible apply i_test
  | with_reducible apply i_b
  | with_reducible apply i_bl
  | with_reducible apply i_int
  | with_reducible apply i_and
  | with_reducible apply i_or
  | with_reducible apply i_not
  | with_reducible apply i_andV
  | with_reducible apply i_orV
  | with_reducible apply i_notV
  | with_reducible apply i_ifE
  | with_reducible apply i_itt
  | with_reducible apply i_itf
  | with_reducible apply i_nt
  | with_reducible apply i_nf
  | with_reducible apply i_asg
  | with_reducible apply i_name
  | with_reducible apply i_ret
  | with_reducible apply i_retN
  | with_reducible apply i_drop
  | with_reducible apply i_next
  | with_reducible apply i_break
  | with_reducible apply i_un
  | with_reducible apply i_rU
  | with_reducible apply i_tup
  | with_reducible apply i_lst
  | with_reducible apply i_par
  | with_reducible apply i_chain
  | with_reducible apply i_gcons
  | with_reducible apply i_gnil
  | with_reducible apply i_prop
  | with_reducible apply i_make
  | ((with_reducible apply i_aug); exact rfl)
  | with_reducible apply i_ipI
  | with_reducible apply i_sl
  | with_reducible apply i_noPart
  | with_reducible apply i_part
  | with_reducible apply i_bm
  | with_reducible apply i_bm0
  | with_reducible apply i_lc
  | with_reducible apply i_for
  | with_reducible apply i_iStr
  | with_reducible apply i_iList
  | with_reducible apply i_iTup
  | with_reducible apply i_rng1
  | with_reducible apply i_rng2
  | with_reducible apply i_yes
  | with_reducible apply i_refE
  | with_reducible apply i_strE
  | with_reducible apply i_sfld
  | with_reducible apply i_dput
  | with_reducible apply i_dget
  | with_reducible apply i_din
  | with_reducible apply i_dnotin
  | with_reducible apply i_dnew
  | with_reducible apply i_augS
  | with_reducible apply i_gsub
  | with_reducible apply i_asg2
  | with_reducible apply i_disp1
  | with_reducible apply i_ar
  | with_reducible apply i_sfldaug
  | with_reducible apply i_gfld
  | with_reducible apply i_ckw
  | with_reducible apply i_rAdd
  | with_reducible apply i_par3
  | with_reducible apply i_iZip)))
abbrev N_law : List Str := ["_law_script", "_law_k", "_law_bag_here", "_law_heap_here", "_law_turn", "_law_pairs", "_law_tails", "_law_each", "_law_one", "_law_two", "_law_x", "_law_y", "_law_mark", "_law_found", "_law_due_here", "_law_room"]
theorem sc_law : FnScope N_law ["_law_script"] (defScope s_law) := ⟨rfl, rfl, rfl, by decide +kernel, rfl, by decide +kernel, by decide +kernel⟩
/-! ### words and sizes -/
theorem yn_wds (b : Bool) : yn b ∈ wds := by cases b <;> decide +kernel
theorem wo_wds (sg : Str) : ∀ a b : It, woS sg a b ∈ wds
  | .i _, .i _ => yn_wds _
  | .w _, .w _ => yn_wds _
  | .i _, .w _ => by show ("no order" : Str) ∈ wds; decide +kernel
  | .i _, .b _ => by show ("no order" : Str) ∈ wds; decide +kernel
  | .w _, .i _ => by show ("no order" : Str) ∈ wds; decide +kernel
  | .w _, .b _ => by show ("no order" : Str) ∈ wds; decide +kernel
  | .b _, .i _ => by show ("no order" : Str) ∈ wds; decide +kernel
  | .b _, .w _ => by show ("no order" : Str) ∈ wds; decide +kernel
  | .b _, .b _ => by show ("no order" : Str) ∈ wds; decide +kernel
theorem end_wds : sEnd ∈ wds := by decide +kernel
theorem Ch.wds {c : Ctn} {sg : Str} {seen : List Pr} {p : Pr} {w : Str} {rows : List Rw} {l : Option Nat} (h : Ch c (woS sg) (anS sg) seen p w rows l) : w ∈ wds := by
  induction h with
  | again => exact end_wds
  | endl => exact end_wds
  | lens => exact yn_wds _
  | leaf => exact wo_wds _ _ _
  | next _ _ _ _ ih => exact ih
theorem At.word {c : Ctn} {w : Str} {rows : List Rw} {loop : Option Nat} {spot room : Nat} {x : Str × Nat} (h : At c w rows loop spot room x) : x.1 = w ∨ x.1 = tooDeep := by
  induction h with
  | done => exact .inl rfl
  | deep => exact .inr rfl
  | stop => exact .inr rfl
  | go _ _ _ _ ih => exact ih
theorem maxD_bd {c : Ctn} {B : Nat} : ∀ ps : List Pr, (∀ q ∈ ps, ∀ v, Vc c q = some v → v.d ≤ B) → maxD c ps ≤ B
  | [], _ => Nat.zero_le _
  | q :: r, h => by
    have ih := maxD_bd r fun q hq => h q (List.mem_cons_of_mem _ hq)
    have e : maxD c (q :: r) = max (((Vc c q).map (·.d)).getD 0) (maxD c r) := by
      unfold maxD
      rw [List.map_cons, List.foldr_cons]
    rw [e]
    refine Nat.max_le.mpr ⟨?_, ih⟩
    cases hv : Vc c q with
    | none => exact Nat.zero_le _
    | some v => exact h q (List.mem_cons_self ..) v hv
theorem meS_bd {c : Ctn} {B : Nat} : ∀ rows : List Rw, (∀ e ps, (e, ps) ∈ rows → e = 1 ∧ ps.length ≤ 4 ∧ ∀ q ∈ ps, ∀ v, Vc c q = some v → v.s ≤ B) → meS c rows ≤ rows.length * (1 + 4 * B)
  | [], _ => Nat.zero_le _
  | (e, ps) :: r, h => by
    have ih := meS_bd r fun e ps hm => h e ps (List.mem_cons_of_mem _ hm)
    obtain ⟨h1, h4, hb⟩ := h e ps (List.mem_cons_self ..)
    have h2 := sumS_le ps hb
    have h3 : ps.length * B ≤ 4 * B := Nat.mul_le_mul_right _ h4
    show e + sumS c ps + meS c r ≤ (r.length + 1) * (1 + 4 * B)
    rw [Nat.succ_mul]
    omega
theorem meD_bd {c : Ctn} {B : Nat} : ∀ (rows : List Rw) (o : Nat), (∀ e ps, (e, ps) ∈ rows → e = 1 ∧ ∀ q ∈ ps, ∀ v, Vc c q = some v → v.d ≤ B) → meD c o rows ≤ o + rows.length + B
  | [], _, _ => Nat.zero_le _
  | (e, ps) :: r, o, h => by
    have ih := meD_bd r (o + e) fun e ps hm => h e ps (List.mem_cons_of_mem _ hm)
    obtain ⟨h1, hb⟩ := h e ps (List.mem_cons_self ..)
    have h2 := maxD_bd ps hb
    show max (o + e + maxD c ps) (meD c (o + e) r) ≤ o + (r.length + 1) + B
    refine Nat.max_le.mpr ⟨?_, ?_⟩ <;> omega
theorem OutAt.small {cV cO : Addr} {H : Hp} {o v d l : Addr} {as : List Addr} {c : Ctn} {kn : List Pr} {D : Nat} {rows : List Rw} {wd : Str} {loop : Option Nat} {wo : It → It → Str} {an : Nat → Nat → Str} {p : Pr} (O : OutAt cV cO H o v d l as c kn D rows wd loop) (ch : Ch c wo an [] p wd rows loop) : Small5 (if wd = sEnd then none else some (meS c rows, meD c 0 rows)) := by
  intro x e
  split at e
  · cases e
  · cases e
    have hk : kn.length ≤ 484 := O.hM.le O.hL
    have hB : ∀ q ∈ kn, ∀ u, Vc c q = some u → u.s ≤ 5 ^ 484 ∧ u.d ≤ 484 := fun q hq u hu => by
      obtain ⟨b1, b2⟩ := O.hM.kb.bound O.hL.m hq hu
      exact ⟨Nat.le_trans b1 (Nat.pow_le_pow_right (by decide) hk), Nat.le_trans b2 hk⟩
    have h1 := meS_bd (c := c) (B := 5 ^ 484) rows fun e ps hm => ⟨ch.ones e ps hm, O.ok.h4 e ps hm, fun q hq u hu => (hB q (O.ok.hk e ps hm q hq) u hu).1⟩
    have h2 := meD_bd (c := c) (B := 484) rows 0 fun e ps hm => ⟨ch.ones e ps hm, fun q hq u hu => (hB q (O.ok.hk e ps hm q hq) u hu).2⟩
    have h3 : rows.length * (1 + 4 * 5 ^ 484) ≤ 1000 * (1 + 4 * 5 ^ 484) := Nat.mul_le_mul_right _ O.ok.rl
    have h4 : 1000 * (1 + 4 * 5 ^ 484) < 2 ^ 1900 := by decide +kernel
    have h5 : (1484 : Nat) < 2 ^ 1900 := by decide +kernel
    have h6 := O.ok.rl
    exact ⟨Nat.lt_of_le_of_lt (Nat.le_trans h1 h3) h4, Nat.lt_of_le_of_lt (Nat.le_trans h2 (by omega)) h5⟩
theorem shaped_at {w : Str} {s : Nat} (h : PyData.strOk w = true) : SeqAt.shaped (.tuple [.str w, .int ((s : Nat) : Int)]) = true := by
  simp [SeqAt.shaped, PyData.canLay0, PyData.canLayAll0, PyData.depth, PyData.depthAll, h]
theorem strOk_wds {w : Str} (h : w ∈ wds ∨ w = tooDeep) : PyData.strOk w = true := by
  rcases h with h | rfl
  · simp only [wds, List.mem_cons, List.not_mem_nil, or_false] at h
    rcases h with rfl | rfl | rfl | rfl <;> decide +kernel
  · decide +kernel
theorem eqv_at (w : Str) (s : Int) : PyData.eqv (.tuple [.str w, .int s]) (.tuple [.str w, .int s]) = true := by
  show ((w == w) && ((s == s) && true)) = true
  simp
/-! ### the boxes -/
structure CtOk (c : Ctn) (N : Nat) : Prop where
  lo : 1 ≤ c.length
  hi : c.length ≤ N
  len : ∀ r ∈ c, r.length ≤ 4
  ok : ∀ r ∈ c, ∀ it ∈ r, ItOk c.length it
theorem total_le : ∀ c : Ctn, (∀ r ∈ c, r.length ≤ 4) → total c ≤ 4 * c.length
  | [], _ => Nat.zero_le _
  | r :: t, h => by
    have ih := total_le t fun r hr => h r (List.mem_cons_of_mem _ hr)
    have h1 := h r (List.mem_cons_self ..)
    unfold total at ih ⊢
    rw [List.map_cons, List.sum_cons, List.length_cons]
    omega
theorem rw_mem {c : Ctn} {x : Nat} (h : x < c.length) : rw c x ∈ c := by
  unfold rw
  rw [List.getD_eq_getElem?_getD, List.getElem?_eq_getElem h]
  exact List.getElem_mem h
theorem rw_out {c : Ctn} {x : Nat} (h : ¬ x < c.length) : rw c x = [] := by
  unfold rw
  rw [List.getD_eq_getElem?_getD, List.getElem?_eq_none (by omega)]
  rfl
theorem CtOk.lim {c : Ctn} {N : Nat} (h : CtOk c N) (hN : N ≤ 22) : Lim c := by
  refine ⟨Nat.le_trans h.hi hN, fun x => ?_, fun x => ?_⟩
  · by_cases z : x < c.length
    · exact h.len _ (rw_mem z)
    · rw [rw_out z]; exact Nat.zero_le _
  · by_cases z : x < c.length
    · exact h.ok _ (rw_mem z)
    · rw [rw_out z]; exact fun _ y => nomatch y
def bL (q : Pr) : It := .b q.1
def bR (q : Pr) : It := .b q.2
/-- the boxes and two more -/
def two (c : Ctn) (r1 r2 : List It) : Ctn := c ++ [r1, r2]
section
variable {c : Ctn} {r1 r2 r : List It}
theorem two_len : (two c r1 r2).length = c.length + 2 := by unfold two; rw [List.length_append]; rfl
theorem two_1 : rw (two c r1 r2) c.length = r1 := by
  unfold rw two
  rw [List.getD_eq_getElem?_getD, List.getElem?_append_right (Nat.le_refl _), Nat.sub_self]
  rfl
theorem two_2 : rw (two c r1 r2) (c.length + 1) = r2 := by
  unfold rw two
  rw [List.getD_eq_getElem?_getD, List.getElem?_append_right (by omega : c.length ≤ c.length + 1), Nat.add_sub_cancel_left]
  rfl
theorem two_0 {x : Nat} (h : x < c.length) : rw (two c r1 r2) x = rw c x := by
  unfold rw two
  rw [List.getD_eq_getElem?_getD, List.getD_eq_getElem?_getD, List.getElem?_append_left h]
theorem two_s1 : (two c r1 r2).set c.length r = two c r r2 := by
  unfold two
  rw [List.set_append_right _ _ (Nat.le_refl _), Nat.sub_self]
  rfl
theorem two_s2 : (two c r1 r2).set (c.length + 1) r = two c r1 r := by
  unfold two
  rw [List.set_append_right _ _ (by omega : c.length ≤ c.length + 1), Nat.add_sub_cancel_left]
  rfl
theorem two_mem {x : List It} (h : x ∈ two c r1 r2) : x ∈ c ∨ x = r1 ∨ x = r2 := by
  unfold two at h
  rcases List.mem_append.mp h with h | h
  · exact .inl h
  · simp only [List.mem_cons, List.not_mem_nil, or_false] at h
    exact .inr h
theorem two_total {N : Nat} (h : CtOk c N) (hN : N ≤ 20) (h1 : r1.length ≤ 4) (h2 : r2.length ≤ 4) : (two c r1 r2).length ≤ 60 ∧ total (two c r1 r2) + 1 ≤ 300 := by
  have z := total_le (two c r1 r2) fun x hx => by
    rcases two_mem hx with hx | rfl | rfl
    · exact h.len x hx
    · exact h1
    · exact h2
  have := h.hi
  rw [two_len] at z ⊢
  omega
end
theorem zip_refs (t0 t1 : Int) : ∀ ps : List Pr, (ps.map bL ++ [It.i t0]).zip (ps.map bR ++ [It.i t1]) = refsOf ps t0 t1
  | [] => rfl
  | q :: r => by
    show ((bL q, bR q) :: (r.map bL ++ [It.i t0]).zip (r.map bR ++ [It.i t1])) = _
    rw [zip_refs t0 t1 r]
    rfl
theorem CtOk.add {c : Ctn} {N : Nat} {ps : List Pr} {t0 t1 : Int} (h : CtOk c N) (hp : ps.length ≤ 3) (rg : ∀ q ∈ ps, q.1 < c.length ∧ q.2 < c.length) : CtOk (two c (ps.map bL ++ [It.i t0]) (ps.map bR ++ [It.i t1])) (N + 2) := by
  have lo := h.lo
  have hi := h.hi
  refine ⟨by rw [two_len]; omega, by rw [two_len]; omega, fun r hr => ?_, fun r hr it hit => ?_⟩
  · rcases two_mem hr with hr | rfl | rfl
    · exact h.len r hr
    · rw [List.length_append, List.length_map]; show ps.length + 1 ≤ 4; omega
    · rw [List.length_append, List.length_map]; show ps.length + 1 ≤ 4; omega
  · rw [two_len]
    rcases two_mem hr with hr | rfl | rfl
    · exact (h.ok r hr it hit).mono (by omega)
    · rcases List.mem_append.mp hit with z | z
      · obtain ⟨q, hq, rfl⟩ := List.mem_map.mp z
        show q.1 < c.length + 2
        have := (rg q hq).1
        omega
      · rw [List.mem_singleton.mp z]; trivial
    · rcases List.mem_append.mp hit with z | z
      · obtain ⟨q, hq, rfl⟩ := List.mem_map.mp z
        show q.2 < c.length + 2
        have := (rg q hq).2
        omega
      · rw [List.mem_singleton.mp z]; trivial
theorem sit_of {c : Ctn} {N : Nat} {ps : List Pr} {t0 t1 : Int} (h : CtOk c N) (hN : N ≤ 20) (hp : ps.length ≤ 3) (rg : ∀ q ∈ ps, q.1 < c.length ∧ q.2 < c.length) : Sit (two c (ps.map bL ++ [It.i t0]) (ps.map bR ++ [It.i t1])) c.length (c.length, c.length + 1) ps t0 t1 (ps.length + 1) where
  hL := (h.add hp rg).lim (by omega)
  low := fun x hx it hit n e => by
    rw [two_0 hx] at hit
    have z := h.ok _ (rw_mem hx) it hit
    rw [e] at z
    exact z
  hm := by rw [two_len]; omega
  hz := by
    unfold zp
    rw [two_1, two_2]
    exact zip_refs t0 t1 ps
  h0 := fun z => Nat.lt_irrefl _ z.1
  rg := rg
  n1 := by rw [two_1, List.length_append, List.length_map]; rfl
  n2 := by rw [two_2, List.length_append, List.length_map]; rfl
  pl := by omega
/-! ### what is kept -/
theorem PrsAt.nb {H : Hp} {ps : List Pr} {lp b : Addr} (h : PrsAt H ps lp) (hb : BagAt H b) : lp ≠ b := fun z => by
  obtain ⟨ts, e1, _⟩ := h
  obtain ⟨L, M, _, e2⟩ := hb
  rw [z, e2] at e1
  cases ts with
  | nil => cases e1
  | cons t r => cases e1
theorem LstsAt.nb {H : Hp} {l b : Addr} {as : List Addr} {c : Ctn} (h : LstsAt H l as c) (hb : BagAt H b) : l ≠ b := fun z => by
  obtain ⟨L, M, _, e2⟩ := hb
  have e1 := h.1
  rw [z, e2] at e1
  cases as with
  | nil => cases e1
  | cons t r => cases e1
theorem RowC.kb {H H' : Hp} {b : Addr} {r : Rw} {x : V} (h : RowC H r x) (k : Kp [b] H H') (hb : BagAt H b) : RowC H' r x := by
  obtain ⟨t, lp, rfl, h1, h2⟩ := h
  have n := h2.nb hb
  exact ⟨t, lp, rfl, k.t _ _ h1, h2.kp k fun z => n (List.mem_singleton.mp z)⟩
theorem CrsAt.kb {H H' : Hp} {b cr : Addr} {rows : List Rw} (h : CrsAt H rows cr) (k : Kp [b] H H') (hb : BagAt H b) : CrsAt H' rows cr := by
  obtain ⟨xs, e1, p1⟩ := h
  refine ⟨xs, k.k _ _ (fun z => ?_) e1, pmap p1 fun _ _ z => z.kb k hb⟩
  obtain ⟨L, M, _, e2⟩ := hb
  rw [List.mem_singleton.mp z, e2] at e1
  cases e1
  cases p1 with
  | cons f _ =>
    obtain ⟨_, _, e, _⟩ := f
    cases e
theorem OutAt.kb {cV cO : Addr} {H H' : Hp} {o v d l b : Addr} {as : List Addr} {c : Ctn} {kn : List Pr} {D : Nat} {rows : List Rw} {wd : Str} {loop : Option Nat} (O : OutAt cV cO H o v d l as c kn D rows wd loop) (k : Kp [b] H H') (hb : BagAt H b) (na : ¬ b ∈ as) : OutAt cV cO H' o v d l as c kn D rows wd loop := by
  obtain ⟨dx, cr, st, dp, hO, hC, hw⟩ := O.ex
  have nl := O.hV.lst.nb hb
  have hb2 := hb
  obtain ⟨L, M, _, e2⟩ := hb2
  obtain ⟨dv, ev⟩ := O.hV.ins
  obtain ⟨kvs, ed, _⟩ := O.hV.dct
  have n1 : v ≠ b := ne_of ev e2 (fun z => nomatch z)
  have n2 : d ≠ b := ne_of ed e2 (fun z => nomatch z)
  have n3 : o ≠ b := ne_of hO e2 (fun z => nomatch z)
  exact ⟨⟨dx, cr, st, dp, k.k _ _ (fun z => n3 (List.mem_singleton.mp z)) hO, hC.kb k hb, hw⟩, O.hV.kp k (fun z => n1 (List.mem_singleton.mp z)) (fun z => n2 (List.mem_singleton.mp z)) (fun z => nl (List.mem_singleton.mp z)) (fun a ha z => na (List.mem_singleton.mp z ▸ ha)), O.hM, O.hL, O.ok⟩
theorem OutAt.kp0 {cV cO : Addr} {H H' : Hp} {o v d l : Addr} {as : List Addr} {c : Ctn} {kn : List Pr} {D : Nat} {rows : List Rw} {wd : Str} {loop : Option Nat} (O : OutAt cV cO H o v d l as c kn D rows wd loop) (k : Kp [] H H') : OutAt cV cO H' o v d l as c kn D rows wd loop := O.kp k.of0 (O.hV.kp0 k)
structure Ws (H0 H : Hp) (cH b h l : Addr) (as : List Addr) (c : Ctn) : Prop where
  kp : Kp [] H0 H
  fb : H0 b = none
  fl : H0 l = none
  fa : ∀ a ∈ as, H0 a = none
  nb : ¬ b ∈ as
  hb : BagAt H b
  hS : HpS H cH h l as c
section
variable {H0 H H' : Hp} {cH b h l x : Addr} {as : List Addr} {c c' : Ctn}
theorem HpS.hl (h1 : HpS H cH h l as c) : h ≠ l ∧ ¬ h ∈ as := by
  obtain ⟨dx, e⟩ := h1.ins
  refine ⟨ne_of e h1.lst.1 (fun z => nomatch z), fun z => ?_⟩
  obtain ⟨r, _, vs, e9, _⟩ := pmem h1.lst.2 z
  rw [e] at e9
  cases e9
theorem Ws.bl (W : Ws H0 H cH b h l as c) : l ≠ b := W.hS.lst.nb W.hb
theorem Ws.bh (W : Ws H0 H cH b h l as c) : h ≠ b := by
  obtain ⟨dx, e⟩ := W.hS.ins
  obtain ⟨L, M, _, e2⟩ := W.hb
  exact ne_of e e2 (fun z => nomatch z)
theorem Ws.kp0 (W : Ws H0 H cH b h l as c) (k : Kp [] H H') : Ws H0 H' cH b h l as c := ⟨W.kp.trans k, W.fb, W.fl, W.fa, W.nb, W.hb.kp0 k, W.hS.kp0 k⟩
theorem Ws.bag (W : Ws H0 H cH b h l as c) (k : Kp [b] H H') (hb : BagAt H' b) : Ws H0 H' cH b h l as c :=
  ⟨W.kp.via k fun y hy => .inr (List.mem_singleton.mp hy ▸ W.fb), W.fb, W.fl, W.fa, W.nb, hb, W.hS.kp k (fun z => W.bh (List.mem_singleton.mp z)) (fun z => W.bl (List.mem_singleton.mp z)) fun a ha z => W.nb (List.mem_singleton.mp z ▸ ha)⟩
theorem Ws.loc (W : Ws H0 H cH b h l as c) (k : Kp [x] H H') (fx : H0 x = none) (n1 : x ≠ b) (n2 : x ≠ l) (n3 : ¬ x ∈ as) (n4 : x ≠ h) : Ws H0 H' cH b h l as c :=
  ⟨W.kp.via k fun y hy => .inr (List.mem_singleton.mp hy ▸ fx), W.fb, W.fl, W.fa, W.nb, W.hb.kp k (fun z => n1 (List.mem_singleton.mp z).symm), W.hS.kp k (fun z => n4 (List.mem_singleton.mp z).symm) (fun z => n2 (List.mem_singleton.mp z).symm) fun a ha z => n3 (List.mem_singleton.mp z ▸ ha)⟩
theorem Ws.new {a : Addr} (W : Ws H0 H cH b h l as c) (k : Kp [l] H H') (hS : HpS H' cH h l (as ++ [a]) c') (fa : H a = none) : Ws H0 H' cH b h l (as ++ [a]) c' := by
  refine ⟨W.kp.via k fun y hy => .inr (List.mem_singleton.mp hy ▸ W.fl), W.fb, W.fl, fun y hy => ?_, fun z => ?_, W.hb.kp k (fun z => W.bl (List.mem_singleton.mp z).symm), hS⟩
  · rcases List.mem_append.mp hy with z | z
    · exact W.fa y z
    · rw [List.mem_singleton.mp z]; exact W.kp.free (fun z => nomatch z) fa
  · rcases List.mem_append.mp z with z | z
    · exact W.nb z
    · exact W.hb.ne fa (List.mem_singleton.mp z)
theorem Ws.add (W : Ws H0 H cH b h l as c) (k : Kp as H H') (hS : HpS H' cH h l as c') : Ws H0 H' cH b h l as c' :=
  ⟨W.kp.via k fun y hy => .inr (W.fa y hy), W.fb, W.fl, W.fa, W.nb, W.hb.kp k W.nb, hS⟩
/-- the list of pairs -/
structure Lq (H0 H : Hp) (h l lp : Addr) (as : List Addr) (ps : List Pr) : Prop where
  at_ : PrsAt H ps lp
  f : H0 lp = none
  nl : lp ≠ l
  na : ¬ lp ∈ as
  nh : lp ≠ h
theorem Lq.kp {S : List Addr} {lp : Addr} {ps : List Pr} (x : Lq H0 H h l lp as ps) (k : Kp S H H') (n : ¬ lp ∈ S) : Lq H0 H' h l lp as ps := ⟨x.at_.kp k n, x.f, x.nl, x.na, x.nh⟩
theorem Lq.kp0 {lp : Addr} {ps : List Pr} (x : Lq H0 H h l lp as ps) (k : Kp [] H H') : Lq H0 H' h l lp as ps := x.kp k fun z => nomatch z
theorem Lq.bag {lp : Addr} {ps : List Pr} (x : Lq H0 H h l lp as ps) (k : Kp [b] H H') (hb : BagAt H b) : Lq H0 H' h l lp as ps := x.kp k fun z => x.at_.nb hb (List.mem_singleton.mp z)
theorem Lq.mk0 {lp : Addr} (W : Ws H0 H cH b h l as c) (hlp : H lp = none) : Lq H0 (upd H lp (.lst [])) h l lp as [] := by
  refine ⟨⟨[], upd_same, .nil⟩, W.kp.free (fun z => nomatch z) hlp, fun z => ?_, fun z => ?_, fun z => ?_⟩
  · rw [z, W.hS.lst.1] at hlp; cases hlp
  · obtain ⟨r, _, vs, e9, _⟩ := pmem W.hS.lst.2 z
    rw [hlp] at e9; cases e9
  · obtain ⟨dx, e⟩ := W.hS.ins
    rw [z, e] at hlp; cases hlp
theorem Lq.new {lp r : Addr} {ps : List Pr} (x : Lq H0 H h l lp as ps) (k : Kp [l] H H') (fr : H r = none) : Lq H0 H' h l lp (as ++ [r]) ps := by
  refine ⟨x.at_.kp k fun z => x.nl (List.mem_singleton.mp z), x.f, x.nl, fun z => ?_, x.nh⟩
  rcases List.mem_append.mp z with z | z
  · exact x.na z
  · obtain ⟨ts, e, _⟩ := x.at_
    rw [List.mem_singleton.mp z, fr] at e; cases e
theorem Lq.put {lp t : Addr} {ps : List Pr} {ts : List Addr} {q : Pr} (x : Lq H0 H h l lp as ps) (W : Ws H0 H cH b h l as c) (e : H lp = some (.lst (ts.map V.ref))) (p : Paired (fun q t => PrAt H t q) ps ts) (ht : PrAt H t q) :
    Ws H0 (upd H lp (.lst (ts.map V.ref ++ [.ref t]))) cH b h l as c ∧ Lq H0 (upd H lp (.lst (ts.map V.ref ++ [.ref t]))) h l lp as (ps ++ [q]) := by
  have kw : Kp [lp] H (upd H lp (.lst (ts.map V.ref ++ [.ref t]))) := Kp.wr (List.mem_singleton.mpr rfl) e (fun _ z => nomatch z)
  exact ⟨W.loc kw x.f (x.at_.nb W.hb) x.nl x.na x.nh, ⟨ts ++ [t], by rw [upd_same, List.map_append]; rfl, psnoc (pmap p fun _ _ z => PrAt.kp z kw) (PrAt.kp ht kw)⟩, x.f, x.nl, x.na, x.nh⟩
end
theorem sgs {j : Nat} {x : V} (hx : ([.str "<", .str ">="] : List V)[j]? = some x) : ∃ sg : Str, x = .str sg ∧ sg ∈ (["<", "<=", ">", ">="] : List Str) := by
  have z := List.mem_of_getElem? hx
  simp only [List.mem_cons, List.not_mem_nil, or_false] at z
  rcases z with rfl | rfl
  · exact ⟨_, rfl, by decide +kernel⟩
  · exact ⟨_, rfl, by decide +kernel⟩
theorem rooms {j r4 r5 : Nat} {x : V} (h4 : r4 < 30) (h5 : r5 < 10 ^ 30) (hx : ([.int 1, .int 2, .int 3, .int (1 + ((r4 : Nat) : Int)), .int (1 + ((r5 : Nat) : Int))] : List V)[j]? = some x) : ∃ room : Nat, x = .int ((room : Nat) : Int) ∧ 1 ≤ room ∧ room ≤ 10 ^ 30 := by
  have z := List.mem_of_getElem? hx
  simp only [List.mem_cons, List.not_mem_nil, or_false] at z
  rcases z with rfl | rfl | rfl | rfl | rfl
  · exact ⟨1, rfl, by decide, by decide⟩
  · exact ⟨2, rfl, by decide, by decide⟩
  · exact ⟨3, rfl, by decide, by decide⟩
  · exact ⟨1 + r4, by rw [Int.natCast_add]; rfl, by omega, by omega⟩
  · exact ⟨1 + r5, by rw [Int.natCast_add]; rfl, by omega, by omega⟩
def spLaw (K : PySem.W.Frag) : Sp := fun vs H Q _ => ∃ (a : Addr) (ns : List Int), vs = [.ref a] ∧ SqL K H a (ns.map V.int) ∧ ∀ H', Q (.bl true) H'
end Rk
set_option Elab.async false
set_option linter.all false
set_option maxRecDepth 100000
set_option maxHeartbeats 0
/-! the law -/
namespace Rk
open PySem PySem.Spec PyProof.Rows L2
local macro_rules | `(tactic| walk_at "go") => `(tactic| ((try dsimp only); repeat (first
  | with_reducible apply i_seq
  | ((with_reducible apply i_var); exact rfl)
  | with_reducible apply i_c
  | with_reducible apply i_cons
  | with_reducible apply i_nil
  | with_reducible apply i_call
  | with_reducible apply i_cb
  | with_reducible apply i_meth
  | with_reducible apply i_fld
  | with_reducible apply i_op
  | with_reducible apply i_rI0
  | with_reducible apply i_eqI
  | with_reducible apply i_neI
  | with_reducible apply i_eqS
  | with_reducible apply i_neS
  | with_reducible apply i_if
  | with_reducible apply i_test
  | with_reducible apply i_b
  | with_reducible apply i_bl
  | with_reducible apply i_int
  | with_reducible apply i_and
  | with_reducible apply i_or
  | with_reducible apply i_not
  | with_reducible apply i_andV
  | with_reducible apply i_orV
  | with_reducible apply i_notV
  | with_reducible apply i_ifE
  | with_reducible apply i_itt
  | with_reducible apply i_itf
  | with_reducible apply i_nt
  | with_reducible apply i_nf
  | with_reducible apply i_asg
  | with_reducible apply i_name
  | with_reducible apply i_ret
  | with_reducible apply i_retN
  | with_reducible apply i_drop
  | with_reducible apply i_next
  | with_reducible apply i_break
  | with_reducible apply i_un
  | with_reducible apply i_rU
  | with_reducible apply i_tup
  | with_reducible apply i_lst
  | with_reducible apply i_par
  | with_reducible apply i_chain
  | with_reducible apply i_gcons
  | with_reducible apply i_gnil
  | with_reducible apply i_prop
  | with_reducible apply i_make
  | ((with_reducible apply i_aug); exact rfl)
  | with_reducible apply i_ipI
  | with_reducible apply i_sl
  | with_reducible apply i_noPart
  | with_reducible apply i_part
  | with_reducible apply i_bm
  | with_reducible apply i_bm0
  | with_reducible apply i_lc
  | with_reducible apply i_for
  | with_reducible apply i_iStr
  | with_reducible apply i_iList
  | with_reducible apply i_iTup
  | with_reducible apply i_rng1
  | with_reducible apply i_rng2
  | with_reducible apply i_yes
  | with_reducible apply i_refE
  | with_reducible apply i_strE
  | with_reducible apply i_sfld
  | with_reducible apply i_dput
  | with_reducible apply i_dget
  | with_reducible apply i_din
  | with_reducible apply i_dnotin
  | with_reducible apply i_dnew
  | with_reducible apply i_augS
  | with_reducible apply i_gsub
  | with_reducible apply i_asg2
  | with_reducible apply i_disp1
  | with_reducible apply i_ar
  | with_reducible apply i_sfldaug
  | with_reducible apply i_gfld
  | with_reducible apply i_ckw
  | with_reducible apply i_rAdd
  | with_reducible apply i_par3
  | with_reducible apply i_iZip)))
section
variable {P : Program} {w : World} {K : PySem.W.Frag} {mg : Str → Option Value} {base : Heap} {cV cO cH : Addr}
theorem ok_law (T0 : Txt K mg cV cO cH) : FnG P w K mg base 12 "law" ["_law_script"] (spLaw K) := by
  have h_law_bag := ok_law_bag (P := P) (w := w) (base := base) T0
  have h_law_heap := ok_law_heap (P := P) (w := w) (base := base) T0
  have h_law_ordered_contents := ok_law_ordered_contents (P := P) (w := w) (base := base) T0
  have h_law_take := ok_law_take (P := P) (w := w) (base := base) T0
  have h_size := ok_Heap_size (P := P) (w := w) (base := base) T0
  have h_new := ok_Heap_new (P := P) (w := w) (base := base) T0
  have h_add_last := ok_Heap_add_last (P := P) (w := w) (base := base) T0
  have h_law_due := ok_law_due (P := P) (w := w) (base := base) T0
  have h_ordering := ok_ordering (P := P) (w := w) (base := base) T0
  have h_law_shown := ok_law_shown (P := P) (w := w) (base := base) T0
  have h_law_told := ok_law_told (P := P) (w := w) (base := base) T0
  have h_at := ok_Outcome_at (P := P) (w := w) (base := base) T0
  have h_law_at := ok_law_at (P := P) (w := w) (base := base) T0
  refine T0.d_law.okG sc_law (fun vs H Q E h => ?_) (fun _ _ _ _ _ _ us hl => match us, hl with | [_], _ => rfl) (fun f cdv A outer s H vs Q E hr hg h => ?_)
  · obtain ⟨_, _, rfl, _⟩ := h
    rfl
  · obtain ⟨a, ns, rfl, hs, q⟩ := h
    refine ⟨_, (pss_cons (ps_for PassesOwn.never rfl (pi_range1 rfl T0.f_range (pa_cons (pe_bf (call_max2 rfl) T0.f_max (pa_cons pe_int (pa_cons (pe_bf (call_min2 rfl) T0.f_min (pa_cons pe_int (pa_cons (pe_bf call_len_seq T0.f_len (pa_cons (pv 0) pa_nil)) pa_nil))) pa_nil))) pa_nil)) (pg_name (i := 1) sc_law.nd rfl (by first | exact Or.inl rfl | exact Or.inr rfl))
      (pss_cons (ps_set (i := 2) sc_law.nd rfl (by first | exact Or.inl rfl | exact Or.inr rfl) (pe_fn h_law_bag hr (by decide) rfl (pa_cons (pv 0) (pa_cons (pv 1) pa_nil))))
      (pss_cons (ps_set (i := 3) sc_law.nd rfl (by first | exact Or.inl rfl | exact Or.inr rfl) (pe_fn h_law_heap hr (by decide) rfl (pa_cons (pe_fn h_law_ordered_contents hr (by decide) rfl (pa_cons (pv 2) (pa_cons pe_int pa_nil))) pa_nil)))
      (pss_one (ps_for PassesOwn.never rfl (pi_range1 rfl T0.f_range (pa_cons pe_int pa_nil)) (pg_name (i := 4) sc_law.nd rfl (by first | exact Or.inl rfl | exact Or.inr rfl))
        (pss_cons (ps_par (i := 5) (j := 6) rfl sc_law.nd rfl rfl (by decide) rfl rfl (pa_cons (pe_lst pa_nil) (pa_cons (pe_tup (pa_cons (pe_fn h_law_take hr (by decide) rfl (pa_cons (pv 2) (pa_cons pe_int pa_nil))) (pa_cons (pe_fn h_law_take hr (by decide) rfl (pa_cons (pv 2) (pa_cons pe_int pa_nil))) pa_nil))) pa_nil)) (by rfl))
        (pss_cons (ps_for PassesOwn.never rfl (pi_range1 rfl T0.f_range (pa_cons (pe_fn h_law_take hr (by decide) rfl (pa_cons (pv 2) (pa_cons pe_int pa_nil))) pa_nil)) (pg_name (i := 7) sc_law.nd rfl (by first | exact Or.inl rfl | exact Or.inr rfl))
          (pss_one (ps_expr (pe_bm PySem.F.plainAttrs_list PySem.F.slot_list_append PySem.F.type_list_append mt_append (pv 5) (pa_cons (pe_tup (pa_cons (pe_fn h_law_take hr (by decide) rfl (pa_cons (pv 2) (pa_cons (pe_prp (pv 3) T0.clH h_size hr (by decide)) pa_nil))) (pa_cons (pe_fn h_law_take hr (by decide) rfl (pa_cons (pv 2) (pa_cons (pe_prp (pv 3) T0.clH h_size hr (by decide)) pa_nil))) pa_nil))) pa_nil)))))
        (pss_cons (ps_par (i := 8) (j := 9) rfl sc_law.nd rfl rfl (by decide) rfl rfl (pa_cons (pe_new h_new hr (by decide) T0.clH (pv 3)) (pa_cons (pe_new h_new hr (by decide) T0.clH (pv 3)) pa_nil)) (by rfl))
        (pss_cons (ps_for PassesOwn.never rfl (pi_list (pv 5)) (pg_tup rfl (pgs_cons (pg_name (i := 10) sc_law.nd rfl (by first | exact Or.inl rfl | exact Or.inr rfl)) (pgs_cons (pg_name (i := 11) sc_law.nd rfl (by first | exact Or.inl rfl | exact Or.inr rfl)) pgs_nil)))
          (pss_cons (ps_expr (pe_mtd (pv 3) T0.clH h_add_last hr (by decide) (pa_cons (pv 8) (pa_cons (pe_tup (pa_cons pe_str (pa_cons (pv 10) pa_nil))) pa_nil))))
          (pss_one (ps_expr (pe_mtd (pv 3) T0.clH h_add_last hr (by decide) (pa_cons (pv 9) (pa_cons (pe_tup (pa_cons pe_str (pa_cons (pv 11) pa_nil))) pa_nil)))))))
        (pss_cons (ps_expr (pe_mtd (pv 3) T0.clH h_add_last hr (by decide) (pa_cons (pv 8) (pa_cons (pe_ix ix_tup (pv 6) pe_int (fun _ _ => rfl)) pa_nil))))
        (pss_cons (ps_expr (pe_mtd (pv 3) T0.clH h_add_last hr (by decide) (pa_cons (pv 9) (pa_cons (pe_ix ix_tup (pv 6) pe_int (fun _ _ => rfl)) pa_nil))))
        (pss_one (ps_for PassesOwn.never rfl (pi_tup (pe_tup (pa_cons pe_str (pa_cons pe_str pa_nil)))) (pg_name (i := 12) sc_law.nd rfl (by first | exact Or.inl rfl | exact Or.inr rfl))
          (pss_cons (ps_par (i := 13) (j := 14) rfl sc_law.nd rfl rfl (by decide) rfl rfl (pa_cons (pe_fn h_ordering hr (by decide) rfl (pa_cons (pv 3) (pa_cons (pv 8) (pa_cons (pv 9) (pa_cons (pv 12) pa_nil))))) (pa_cons (pe_fn h_law_due hr (by decide) rfl (pa_cons (pv 3) (pa_cons (pv 5) (pa_cons (pv 6) (pa_cons (pv 12) pa_nil))))) pa_nil)) (by rfl))
          (pss_cons (ps_if (pt_cmpR op_ne (pe_fnG h_law_shown hg hr (by decide) rfl (pa_cons (pv 13) pa_nil)) (pe_fnG h_law_told hg hr (by decide) rfl (pa_cons (pe_ix ix_tup (pv 14) pe_int (fun _ _ => rfl)) (pa_cons (pe_ix ix_tup (pv 14) pe_int (fun _ _ => rfl)) (pa_cons (pe_ix ix_tup (pv 14) pe_int (fun _ _ => rfl)) (pa_cons pe_non pa_nil))))) (nomark _))
            (pss_one (ps_ret pe_bl))
            pss_nil)
          (pss_one (ps_for PassesOwn.never rfl (pi_tup (pe_tup (pa_cons pe_int (pa_cons pe_int (pa_cons pe_int (pa_cons (pe_op op_add pe_int (pe_fn h_law_take hr (by decide) rfl (pa_cons (pv 2) (pa_cons pe_int pa_nil)))) (pa_cons (pe_op op_add pe_int (pe_fn h_law_take hr (by decide) rfl (pa_cons (pv 2) (pa_cons (pe_op op_pow pe_int pe_int) pa_nil)))) pa_nil))))))) (pg_name (i := 15) sc_law.nd rfl (by first | exact Or.inl rfl | exact Or.inr rfl))
            (pss_one (ps_if (pt_cmpR (op_neD hr.units) (pe_mtd (pv 13) T0.clO h_at hr (by decide) (pa_cons (pv 15) pa_nil)) (pe_fn h_law_at hr (by decide) rfl (pa_cons (pv 3) (pa_cons (pv 5) (pa_cons (pv 6) (pa_cons (pv 12) (pa_cons (pv 15) pa_nil)))))) (nomark _))
              (pss_one (ps_ret pe_bl))
              pss_nil)))))))))))))))))))
    (pss_one (ps_ret pe_bl))), ?_⟩
    walk_at "go"
    refine ⟨a, _, rfl, .inl hs, ?_⟩
    walk_at "go"
    refine ⟨_, _, rfl, ?_⟩
    walk_at "go"
    refine ⟨_, _, rfl, ?_⟩
    walk_at "go"
    refine ⟨_, rfl, by (repeat' split) <;> omega, by (repeat' split) <;> omega, ?_⟩
    refine ForW.it walk_range (fun i σ H' => ∃ z1 z2 z3 z4 z5 z6 z7 z8 z9 z10 z11 z12 z13 z14 z15, σ = [some (.ref a), z1, z2, z3, z4, z5, z6, z7, z8, z9, z10, z11, z12, z13, z14, z15] ∧ Kp [] H H') ⟨_, _, _, _, _, _, _, _, _, _, _, _, _, _, _, rfl, Kp.refl _ _⟩ (fun _ _ _ _ _ => trivial) ?_ ?_
    · rintro k x σ H1 H2 hk ⟨z1, z2, z3, z4, z5, z6, z7, z8, z9, z10, z11, z12, z13, z14, z15, rfl, k1⟩ ⟨rfl, rfl⟩
      have hk5 : k < 5 := by
        refine Nat.lt_of_lt_of_le hk ?_
        (repeat' split) <;> omega
      dsimp only
      rw [show (0 : Int) + ((k : Nat) : Int) = ((k : Nat) : Int) by omega]
      walk_at "go"
      refine ⟨a, ns, k, rfl, k1.sqL (fun z => nomatch z) hs, hk5, fun H3 b k3 hb3 fb => ?_⟩
      walk_at "go"
      refine ⟨b, 5, rfl, by decide, by decide, hb3, fun H4 l0 as0 c k4 hb4 C => ?_⟩
      walk_at "go"
      refine ⟨l0, as0, c, rfl, C.at_, C.ok, Nat.le_trans C.hi (by decide), ?_, fun H5 h l as k5 hS5 fh fl fa => ?_⟩
      · have := total_le c C.len
        have := C.hi
        omega
      have K34 : Kp [] H2 H4 := k3.via k4 fun y hy => .inr (List.mem_singleton.mp hy ▸ fb)
      have W5 : Ws H2 H5 cH b h l as c := ⟨K34.trans k5, fb, K34.free (fun z => nomatch z) fl, fun a ha => K34.free (fun z => nomatch z) (fa a ha), fun z => hb4.ne (fa b z) rfl, hb4.kp0 k5, hS5⟩
      have O5 : CtOk c 10 := ⟨C.lo, C.hi, C.len, C.ok⟩
      walk_at "go"
      refine ⟨_, rfl, by omega, by omega, ?_⟩
      refine ForW.it walk_range (fun i σ H' => ∃ as c z4 z5 z6 z7 z8 z9 z10 z11 z12 z13 z14 z15, σ = [some (.ref a), some (.int (k : Nat)), some (.ref b), some (.ref h), z4, z5, z6, z7, z8, z9, z10, z11, z12, z13, z14, z15] ∧ Ws H2 H' cH b h l as c ∧ CtOk c (10 + 2 * i))
        ⟨as, c, _, _, _, _, _, _, _, _, _, _, _, _, rfl, W5, O5⟩ (fun _ _ _ _ _ => trivial) ?_ ?_
      · clear W5 O5 hS5 C fa
        rintro i x σ H6 H7 hi ⟨as, c, z4, z5, z6, z7, z8, z9, z10, z11, z12, z13, z14, z15, rfl, W, O⟩ ⟨rfl, rfl⟩
        have hi6 : i < 6 := hi
        have cl : c.length ≤ 20 := by have := O.hi; omega
        have ct : total c ≤ 80 := by have := total_le c O.len; omega
        walk_at "go"
        refine ⟨Nat.zero_le _, fun lp hlp => ?_⟩
        have W8 := W.kp0 (Kp.new (o := .lst []) hlp)
        have L8 := Lq.mk0 W hlp
        generalize upd H7 lp (.lst []) = H8 at W8 L8
        walk_at "go"
        refine ⟨b, 4, rfl, by decide, by decide, W8.hb, fun H9 t0 ht0 k9 hb9 => ?_⟩
        walk_at "go"
        refine ⟨b, 4, rfl, by decide, by decide, hb9, fun H10 t1 ht1 k10 hb10 => ?_⟩
        walk_at "go"
        refine ⟨by show 2 ≤ sizeLine; decide, fun tt htt => ?_⟩
        have W11 := ((W8.bag k9 hb9).bag k10 hb10).kp0 (Kp.new (o := .tup [.int (t0 : Nat), .int (t1 : Nat)]) htt)
        have L11 := ((L8.bag k9 W8.hb).bag k10 hb9).kp0 (Kp.new (o := .tup [.int (t0 : Nat), .int (t1 : Nat)]) htt)
        have T11 : (upd H10 tt (.tup [.int (t0 : Nat), .int (t1 : Nat)])) tt = some (.tup [.int (t0 : Nat), .int (t1 : Nat)]) := upd_same
        generalize upd H10 tt (.tup [.int (t0 : Nat), .int (t1 : Nat)]) = H11 at W11 L11 T11
        walk_at "go"
        refine ⟨_, _, rfl, ?_⟩
        walk_at "go"
        refine ⟨b, 4, rfl, by decide, by decide, W11.hb, fun H12 nn hnn k12 hb12 => ?_⟩
        walk_at "go"
        refine ⟨_, rfl, by omega, by omega, ?_⟩
        rw [Int.toNat_natCast]
        refine ForW.it walk_range (fun j σ H' => ∃ ps z4 z7 z8 z9 z10 z11 z12 z13 z14 z15, σ = [some (.ref a), some (.int (k : Nat)), some (.ref b), some (.ref h), z4, some (.ref lp), some (.ref tt), z7, z8, z9, z10, z11, z12, z13, z14, z15] ∧ Ws H2 H' cH b h l as c ∧ Lq H2 H' h l lp as ps ∧ H' tt = some (.tup [.int (t0 : Nat), .int (t1 : Nat)]) ∧ ps.length = j ∧ ∀ q ∈ ps, q.1 < c.length ∧ q.2 < c.length)
          ⟨[], _, _, _, _, _, _, _, _, _, _, rfl, W11.bag k12 hb12, L11.bag k12 W11.hb, k12.t _ _ T11, rfl, fun _ z => nomatch z⟩ (fun _ _ _ _ _ => trivial) ?_ ?_
        · rintro j x σ H13 H14 hj ⟨ps, z4, z7, z8, z9, z10, z11, z12, z13, z14, z15, rfl, W14, L14, T14, lps, rg⟩ ⟨rfl, rfl⟩
          obtain ⟨_, el0, _⟩ := L14.at_
          obtain ⟨dxh, eh⟩ := W14.hS.ins
          walk_at "go"
          refine ⟨ty_list el0, ?_⟩
          walk_at "go"
          refine ⟨_, _, _, rfl, eh, ?_⟩
          refine ⟨h, l, as, c, rfl, W14.hS, ?_⟩
          walk_at "go"
          refine ⟨b, c.length, rfl, O.lo, Nat.lt_of_le_of_lt cl (by decide), W14.hb, fun H15 x1 hx1 k15 hb15 => ?_⟩
          have W15 := W14.bag k15 hb15
          have L15 := L14.bag k15 W14.hb
          obtain ⟨dxh2, eh2⟩ := W15.hS.ins
          walk_at "go"
          refine ⟨_, _, _, rfl, eh2, ?_⟩
          refine ⟨h, l, as, c, rfl, W15.hS, ?_⟩
          walk_at "go"
          refine ⟨b, c.length, rfl, O.lo, Nat.lt_of_le_of_lt cl (by decide), W15.hb, fun H16 y1 hy1 k16 hb16 => ?_⟩
          walk_at "go"
          refine ⟨by show 2 ≤ sizeLine; decide, fun t ht => ?_⟩
          have W17 := (W15.bag k16 hb16).kp0 (Kp.new (o := .tup [.int (x1 : Nat), .int (y1 : Nat)]) ht)
          have L17 := (L15.bag k16 W15.hb).kp0 (Kp.new (o := .tup [.int (x1 : Nat), .int (y1 : Nat)]) ht)
          have T17 := (Kp.new (S := []) (o := .tup [.int (x1 : Nat), .int (y1 : Nat)]) ht).t _ _ (k16.t _ _ (k15.t _ _ T14))
          have P17 : PrAt (upd H16 t (.tup [.int (x1 : Nat), .int (y1 : Nat)])) t (x1, y1) := upd_same
          generalize upd H16 t (.tup [.int (x1 : Nat), .int (y1 : Nat)]) = H17 at W17 L17 T17 P17
          obtain ⟨ts, el, pl⟩ := L17.at_
          have lts := plen pl
          walk_at "go"
          have hj4 : j < 4 := Nat.lt_trans hj hnn
          refine ⟨lp, _, _, rfl, rfl, el, by rw [List.length_map, ← lts, lps]; exact Nat.lt_trans hj4 (by decide), ?_⟩
          obtain ⟨W18, L18⟩ := L17.put W17 el pl P17
          have T18 := (Kp.wr (S := [lp]) (o := .lst (ts.map V.ref ++ [.ref t])) (List.mem_singleton.mpr rfl) el (fun _ z => nomatch z)).t _ _ T17
          refine ⟨ps ++ [(x1, y1)], _, _, _, _, _, _, _, _, _, _, rfl, W18, L18, T18, by rw [List.length_append, lps]; rfl, fun q hq => ?_⟩
          rcases List.mem_append.mp hq with z | z
          · exact rg q z
          · rw [List.mem_singleton.mp z]; exact ⟨hx1, hy1⟩
        · rintro σ H13 ⟨ps, z4, z7, z8, z9, z10, z11, z12, z13, z14, z15, rfl, W13, L13, T13, lps, rg⟩
          have lp3 : ps.length ≤ 3 := by omega
          obtain ⟨dxh, eh⟩ := W13.hS.ins
          walk_at "go"
          walk_at "go"
          refine ⟨_, _, _, rfl, eh, rfl, ?_⟩
          refine ⟨h, l, as, c, rfl, W13.hS, by omega, by omega, fun H14 r1 k14 hS14 fr1 => ?_⟩
          have W14 := W13.new k14 hS14 fr1
          have L14 := L13.new k14 fr1
          obtain ⟨dxh2, eh2⟩ := W14.hS.ins
          walk_at "go"
          walk_at "go"
          refine ⟨_, _, _, rfl, eh2, rfl, ?_⟩
          refine ⟨h, l, as ++ [r1], c ++ [[]], rfl, W14.hS, by rw [List.length_append, List.length_singleton]; omega, by rw [total_snoc, List.length_nil]; omega, fun H15 r2 k15 hS15 fr2 => ?_⟩
          have W15 := W14.new k15 hS15 fr2
          have L15 := L14.new k15 fr2
          have T15 := k15.t _ _ (k14.t _ _ T13)
          rw [show c ++ [[]] ++ [[]] = two c [] [] by unfold two; rw [List.append_assoc]; rfl] at W15
          have lc1 : List.length (c ++ [[]] : Ctn) = c.length + 1 := by rw [List.length_append]; rfl
          rw [lc1]
          generalize as ++ [r1] ++ [r2] = as2 at W15 L15
          walk_at "go"
          refine ⟨_, _, rfl, ?_⟩
          obtain ⟨ts, el, pl⟩ := L15.at_
          have lts := plen pl
          walk_at "go"
          refine ⟨⟨_, SqL.of el⟩, ?_⟩
          have n1 : ∀ j, ((ps.take j).map bL).length ≤ 4 ∧ ((ps.take j).map bR).length ≤ 4 := fun j => by
            rw [List.length_map, List.length_map, List.length_take]; omega
          have N10 : 10 + 2 * i ≤ 20 := by omega
          refine ForW.it (walk_list (xs := ts.map V.ref)) (fun j σ H' => ∃ z4 z7 z10 z11 z12 z13 z14 z15, σ = [some (.ref a), some (.int (k : Nat)), some (.ref b), some (.ref h), z4, some (.ref lp), some (.ref tt), z7, some (.int ((c.length : Nat) : Int)), some (.int ((c.length + 1 : Nat) : Int)), z10, z11, z12, z13, z14, z15] ∧ Ws H2 H' cH b h l as2 (two c ((ps.take j).map bL) ((ps.take j).map bR)) ∧ Kp as2 H15 H')
            ⟨_, _, _, _, _, _, _, _, rfl, W15, Kp.refl _ _⟩ (fun j σ H' _ z => ?_) ?_ ?_
          · obtain ⟨_, _, _, _, _, _, _, _, _, _, kk⟩ := z
            exact SqL.of (kk.k _ _ L15.na el)
          · rintro j x σ H16 H17 hj ⟨z4, z7, z10, z11, z12, z13, z14, z15, rfl, W17, K17⟩ ⟨rfl, hx⟩
            rw [List.getElem?_map] at hx
            obtain ⟨t, et, rfl⟩ := Option.map_eq_some_iff.mp hx
            obtain ⟨p, ep, hpt⟩ := pgetR pl et
            have rp := rg p (List.mem_of_getElem? ep)
            refine ⟨t, _, rfl, SqT.of (PrAt.kp hpt K17), rfl, ?_⟩
            obtain ⟨dx1, e1⟩ := W17.hS.ins
            walk_at "go"
            refine ⟨_, _, _, rfl, e1, rfl, ?_⟩
            walk_at "go"
            refine ⟨by show 2 ≤ sizeLine; decide, fun u hu => ?_⟩
            have W18 := W17.kp0 (Kp.new (o := .tup [.str "box", .int (p.1 : Nat)]) hu)
            have K18 := K17.trans (Kp.new (S := as2) (o := .tup [.str "box", .int (p.1 : Nat)]) hu)
            have I18 : ItV (upd H17 u (.tup [.str "box", .int (p.1 : Nat)])) (.b p.1) (.ref u) := ⟨u, rfl, upd_same⟩
            generalize upd H17 u (.tup [.str "box", .int (p.1 : Nat)]) = H18 at W18 K18 I18
            walk_at "go"
            obtain ⟨b1, b2⟩ := two_total O N10 (n1 j).1 (n1 j).2
            refine ⟨h, l, as2, _, c.length, .b p.1, .ref u, rfl, W18.hS, by rw [two_len]; omega, I18, ?_, b1, b2, fun H19 k19 hS19 => ?_⟩
            · rw [two_len]; show p.1 < c.length + 2; omega
            rw [two_1, two_s1] at hS19
            have W19 := W18.add k19 hS19
            have K19 := K18.trans k19
            obtain ⟨dx2, e2⟩ := W19.hS.ins
            walk_at "go"
            refine ⟨_, _, _, rfl, e2, rfl, ?_⟩
            walk_at "go"
            refine ⟨by show 2 ≤ sizeLine; decide, fun u2 hu2 => ?_⟩
            have W20 := W19.kp0 (Kp.new (o := .tup [.str "box", .int (p.2 : Nat)]) hu2)
            have K20 := K19.trans (Kp.new (S := as2) (o := .tup [.str "box", .int (p.2 : Nat)]) hu2)
            have I20 : ItV (upd H19 u2 (.tup [.str "box", .int (p.2 : Nat)])) (.b p.2) (.ref u2) := ⟨u2, rfl, upd_same⟩
            generalize upd H19 u2 (.tup [.str "box", .int (p.2 : Nat)]) = H20 at W20 K20 I20
            walk_at "go"
            have n2 : ((ps.take j).map bL ++ [It.b p.1]).length ≤ 4 := by
              rw [List.length_append, List.length_map, List.length_take, List.length_singleton]; omega
            obtain ⟨b3, b4⟩ := two_total O N10 n2 (n1 j).2
            refine ⟨h, l, as2, _, c.length + 1, .b p.2, .ref u2, rfl, W20.hS, by rw [two_len]; omega, I20, ?_, b3, b4, fun H21 k21 hS21 => ?_⟩
            · rw [two_len]; show p.2 < c.length + 2; omega
            rw [two_2, two_s2] at hS21
            have W21 := W20.add k21 hS21
            have K21 := K20.trans k21
            walk_at "go"
            refine ⟨_, _, _, _, _, _, _, _, rfl, ?_, K21⟩
            rw [take_snoc ep, List.map_append, List.map_append]
            exact W21
          · rintro σ H16 ⟨z4, z7, z10, z11, z12, z13, z14, z15, rfl, W16, K16⟩
            rw [List.length_map, ← lts, List.take_length] at W16
            have n3 : (ps.map bL).length ≤ 4 ∧ (ps.map bR).length ≤ 4 := by
              rw [List.length_map, List.length_map]; omega
            obtain ⟨dx1, e1⟩ := W16.hS.ins
            have T16 := K16.t _ _ T15
            have L16 := L15.kp K16 L15.na
            walk_at "go"
            refine ⟨_, _, _, rfl, e1, rfl, ?_⟩
            walk_at "go"
            refine i_ixT T16 rfl ?_
            walk_at "go"
            obtain ⟨b1, b2⟩ := two_total O N10 n3.1 n3.2
            refine ⟨h, l, as2, _, c.length, .i (t0 : Nat), .int (t0 : Nat), rfl, W16.hS, by rw [two_len]; omega, rfl, trivial, b1, b2, fun H17 k17 hS17 => ?_⟩
            rw [two_1, two_s1] at hS17
            have W17 := W16.add k17 hS17
            have L17 := L16.kp k17 L16.na
            have T17 := k17.t _ _ T16
            obtain ⟨dx2, e2⟩ := W17.hS.ins
            walk_at "go"
            refine ⟨_, _, _, rfl, e2, rfl, ?_⟩
            walk_at "go"
            refine i_ixT T17 rfl ?_
            walk_at "go"
            have n4 : (ps.map bL ++ [It.i (t0 : Nat)]).length ≤ 4 := by
              rw [List.length_append, List.length_map, List.length_singleton]; omega
            obtain ⟨b3, b4⟩ := two_total O N10 n4 n3.2
            refine ⟨h, l, as2, _, c.length + 1, .i (t1 : Nat), .int (t1 : Nat), rfl, W17.hS, by rw [two_len]; omega, rfl, trivial, b3, b4, fun H18 k18 hS18 => ?_⟩
            rw [two_2, two_s2] at hS18
            have W18 := W17.add k18 hS18
            have L18 := L17.kp k18 L17.na
            have T18 := k18.t _ _ T17
            have S := sit_of (t0 := (t0 : Nat)) (t1 := (t1 : Nat)) O N10 lp3 rg
            have O18 := O.add (t0 := (t0 : Nat)) (t1 := (t1 : Nat)) lp3 rg
            generalize ec' : two c (ps.map bL ++ [It.i (t0 : Nat)]) (ps.map bR ++ [It.i (t1 : Nat)]) = c' at S O18 W18
            have lc' : c'.length = c.length + 2 := by rw [← ec', two_len]
            clear W17 L17 T17 W16 L16 T16 W15 L15 T15 W14 L14 W13 L13 T13 hS18 hS17
            walk_at "go"
            refine ⟨by show 2 ≤ sizeLine; decide, fun mt hmt => ?_⟩
            have W19 := W18.kp0 (Kp.new (o := .tup [.str "<", .str ">="]) hmt)
            have L19 := L18.kp0 (Kp.new (o := .tup [.str "<", .str ">="]) hmt)
            have T19 := (Kp.new (S := []) (o := .tup [.str "<", .str ">="]) hmt).t _ _ T18
            have M19 : (upd H18 mt (.tup [.str "<", .str ">="])) mt = some (.tup [.str "<", .str ">="]) := upd_same
            generalize upd H18 mt (.tup [.str "<", .str ">="]) = H19 at W19 L19 T19 M19
            walk_at "go"
            refine ⟨⟨_, SqT.of M19⟩, ?_⟩
            refine ForW.it (walk_tup (xs := [.str "<", .str ">="])) (fun j σ H' => ∃ z4 z7 z10 z11 z12 z13 z14 z15, σ = [some (.ref a), some (.int (k : Nat)), some (.ref b), some (.ref h), z4, some (.ref lp), some (.ref tt), z7, some (.int ((c.length : Nat) : Int)), some (.int ((c.length + 1 : Nat) : Int)), z10, z11, z12, z13, z14, z15] ∧ Kp [b] H19 H' ∧ BagAt H' b)
              ⟨_, _, _, _, _, _, _, _, rfl, Kp.refl _ _, W19.hb⟩ (fun j σ H' _ z => ?_) ?_ ?_
            · obtain ⟨_, _, _, _, _, _, _, _, _, kk, _⟩ := z
              exact SqT.of (kk.t _ _ M19)
            · rintro j x σ H20 H21 hj ⟨z4, z7, z10, z11, z12, z13, z14, z15, rfl, K21, hb21⟩ ⟨rfl, hx⟩
              obtain ⟨sg, rfl, hsg⟩ := sgs hx
              have W21 := W19.bag K21 hb21
              have L21 := L19.bag K21 W19.hb
              have T21 := K21.t _ _ T19
              walk_at "go"
              refine ⟨h, l, as2, c', c.length, c.length + 1, sg, rfl, hsg, W21.hS, S.hL, by omega, by omega, fun H22 o v d l2 asv kn D rows wd loop k22 f22 O22 ch => ?_⟩
              have W22 := W21.kp0 k22
              have L22 := L21.kp0 k22
              have T22 := k22.t _ _ T21
              walk_at "go"
              refine ⟨h, l, lp, tt, as2, c', sg, c.length, ps.length + 1, (c.length, c.length + 1), ps, (t0 : Nat), (t1 : Nat), rfl, hsg, W22.hS, S, L22.at_, T22, fun H23 t wd2 rows2 loop2 k23 ch2 e23 => ?_⟩
              obtain ⟨rfl, rfl, rfl⟩ := ch.det ch2
              have O23 := O22.kp0 k23
              have nbv : ¬ b ∈ asv := fun z => W21.hb.ne (f22 b (by simp [z])) rfl
              have nvd : ∀ y ∈ [v, d], H21 y = none := fun y hy => f22 y (by
                rcases List.mem_cons.mp hy with z | z
                · exact z ▸ List.mem_cons_self ..
                · exact List.mem_cons_of_mem _ (List.mem_singleton.mp z ▸ List.mem_cons_self ..))
              walk_at "go"
              refine ⟨_, _, rfl, ?_⟩
              walk_at "go"
              refine ⟨o, v, d, l2, asv, c', kn, D, rows, wd, loop, _, rfl, O23, ch.wds, O23.small ch, rfl, fun H24 k24 => ?_⟩
              have e24 := k24.t _ _ e23
              walk_at "go"
              refine i_ixT e24 rfl ?_
              walk_at "go"
              refine i_ixT e24 rfl ?_
              walk_at "go"
              refine i_ixT e24 rfl ?_
              walk_at "go"
              refine ⟨wd, if wd = sEnd then none else some (meS c' rows, meD c' 0 rows), ?_, ch.wds, O23.small ch, fun H25 k25 => ?_⟩
              · rfl
              generalize (d5 wd (if wd = sEnd then none else some (meS c' rows, meD c' 0 rows))).shown = shn
              -- MARK1
              refine i_neS (i_bl (iteF (by simp) ?_))
              -- MARK2
              have k2225 := (k23.trans k24).trans k25
              have W25 := W22.kp0 k2225
              have O25 := O22.kp0 k2225
              have K25 : Kp [b] H19 H25 := K21.trans (k22.trans k2225).of0
              walk_at "go"
              refine ⟨b, 30, rfl, by decide, by decide, W25.hb, fun H26 r4 h4 k26 hb26 => ?_⟩
              have O26 := O25.kb k26 W25.hb nbv
              walk_at "go"
              refine i_rI ⟨by decide, by decide, by decide⟩ ?_
              walk_at "go"
              refine ⟨b, 10 ^ 30, congrArg (fun z => [V.ref b, V.int z]) (by decide : (10 : Int) ^ Int.toNat 30 = ((10 ^ 30 : Nat) : Int)), by decide, by decide, hb26, fun H27 r5 h5 k27 hb27 => ?_⟩
              have O27 := O26.kb k27 hb26 nbv
              have K27 := (K25.trans k26).trans k27
              walk_at "go"
              refine ⟨by show 5 ≤ sizeLine; decide, fun rt hrt => ?_⟩
              have k28 : Kp [] H27 (upd H27 rt (.tup [.int 1, .int 2, .int 3, .int (1 + ((r4 : Nat) : Int)), .int (1 + ((r5 : Nat) : Int))])) := Kp.new hrt
              have R28 : (upd H27 rt (.tup [.int 1, .int 2, .int 3, .int (1 + ((r4 : Nat) : Int)), .int (1 + ((r5 : Nat) : Int))])) rt = some (.tup [.int 1, .int 2, .int 3, .int (1 + ((r4 : Nat) : Int)), .int (1 + ((r5 : Nat) : Int))]) := upd_same
              have O28 := O27.kp0 k28
              have hb28 := hb27.kp0 k28
              have K28 := K27.trans k28.of0
              generalize upd H27 rt (.tup [.int 1, .int 2, .int 3, .int (1 + ((r4 : Nat) : Int)), .int (1 + ((r5 : Nat) : Int))]) = H28 at k28 R28 O28 hb28 K28
              walk_at "go"
              refine ⟨⟨_, SqT.of R28⟩, ?_⟩
              refine ForW.it (walk_tup (xs := [.int 1, .int 2, .int 3, .int (1 + ((r4 : Nat) : Int)), .int (1 + ((r5 : Nat) : Int))])) (fun j σ H' => ∃ z4 z7 z10 z11 z14 z15, σ = [some (.ref a), some (.int (k : Nat)), some (.ref b), some (.ref h), z4, some (.ref lp), some (.ref tt), z7, some (.int ((c.length : Nat) : Int)), some (.int ((c.length + 1 : Nat) : Int)), z10, z11, some (.str sg), some (.ref o), z14, z15] ∧ Kp [b] H19 H' ∧ BagAt H' b ∧ OutAt cV cO H' o v d l2 asv c' kn D rows wd loop ∧ H' rt = some (.tup [.int 1, .int 2, .int 3, .int (1 + ((r4 : Nat) : Int)), .int (1 + ((r5 : Nat) : Int))]))
                ⟨_, _, _, _, _, _, rfl, K28, hb28, O28, R28⟩ (fun j σ H' _ z => ?_) ?_ ?_
              · obtain ⟨_, _, _, _, _, _, _, _, _, _, rr⟩ := z
                exact SqT.of rr
              · rintro j2 x σ H29 H30 hj2 ⟨z4, z7, z10, z11, z14, z15, rfl, K30, hb30, O30, R30⟩ ⟨rfl, hx2⟩
                obtain ⟨room, rfl, hr1, hr2⟩ := rooms h4 h5 hx2
                have W30 := W19.bag K30 hb30
                have L30 := L19.bag K30 W19.hb
                have T30 := K30.t _ _ T19
                obtain ⟨dx, cr, st, dp, ex, _, _⟩ := O30.ex
                walk_at "go"
                refine ⟨_, _, _, rfl, ex, rfl, ?_⟩
                walk_at "go"
                refine ⟨o, v, d, l2, asv, c', kn, D, rows, wd, loop, room, rfl, O30, hr1, hr2, fun H31 t7 w7 s7 k31 V31 e31 A7 => ?_⟩
                have n19 : ∀ y ∈ [v, d], ¬ y ∈ [b] := fun y hy z => W21.hb.ne (nvd y hy) (List.mem_singleton.mp z).symm
                have f19 : ∀ y ∈ [v, d], H19 y = none := fun y hy => K21.free (n19 y hy) (nvd y hy)
                have K31 : Kp [b] H19 H31 := K30.via k31 fun y hy => .inr (f19 y hy)
                have hb31 : BagAt H31 b := hb30.kp k31 fun z => n19 b z (List.mem_singleton.mpr rfl)
                have W31 := W19.bag K31 hb31
                have L31 := L19.bag K31 W19.hb
                have T31 := K31.t _ _ T19
                have O31 := O30.kp k31 V31
                have R31 := k31.t _ _ R30
                walk_at "go"
                refine ⟨h, l, lp, tt, as2, c', sg, c.length, ps.length + 1, (c.length, c.length + 1), ps, (t0 : Nat), (t1 : Nat), wd, rows, loop, room, rfl, hsg, W31.hS, S, L31.at_, T31, ch, hr1, hr2, fun H32 t8 w8 s8 k32 A8 e32 => ?_⟩
                have z := A7.det A8
                cases z
                have hw := strOk_wds (show w7 ∈ wds ∨ w7 = tooDeep from A7.word.imp (fun z => by
                  have z : w7 = wd := z
                  rw [z]; exact ch.wds) id)
                refine ⟨_, _, .tup (SqT.of (k32.t _ _ e31)) (.cons (.str _) (.cons (.int _) .nil)), .tup (SqT.of e32) (.cons (.str _) (.cons (.int _) .nil)), shaped_at hw, shaped_at hw, ?_⟩
                rw [eqv_at]
                walk_at "go"
                exact ⟨_, _, _, _, _, _, rfl, K31.trans k32.of0, hb31.kp0 k32, O31.kp0 k32, k32.t _ _ R31⟩
              · rintro σ H29 ⟨z4, z7, z10, z11, z14, z15, rfl, K29, hb29, O29, R29⟩
                walk_at "go"
                exact ⟨_, _, _, _, _, _, _, _, rfl, K29, hb29⟩
            · rintro σ H20 ⟨z4, z7, z10, z11, z12, z13, z14, z15, rfl, K20, hb20⟩
              walk_at "go"
              exact ⟨as2, c', _, _, _, _, _, _, _, _, _, _, _, _, rfl, W19.bag K20 hb20, O18⟩
      · rintro σ H6 ⟨as, c, z4, z5, z6, z7, z8, z9, z10, z11, z12, z13, z14, z15, rfl, W, O⟩
        walk_at "go"
        exact ⟨_, _, _, _, _, _, _, _, _, _, _, _, _, _, _, rfl, k1.trans W.kp⟩
    · rintro σ H1 ⟨z1, z2, z3, z4, z5, z6, z7, z8, z9, z10, z11, z12, z13, z14, z15, rfl, k1⟩
      walk_at "go"
      exact q _
end
end Rk
set_option Elab.async false
set_option linter.all false
set_option maxRecDepth 100000
set_option maxHeartbeats 0
/-! The end: the text from the head, the law. -/
namespace Rk
open PySem PySem.Spec PyProof.Rows L2 RkHd
theorem txt_of {K : PySem.W.Frag} {h : Heap} {mg : Str → Option Value} (X : K.In h) (G : h.Ns mainGlobals mg) (c : Says K) : Txt K mg (He.ga K "Verdicts") (He.ga K "Outcome") (He.ga K "Heap") := by
  obtain ⟨m1, m⟩ := He.ba c.2
  obtain ⟨m2, m⟩ := He.ba m
  obtain ⟨m3, m⟩ := He.ba m
  obtain ⟨m4, m⟩ := He.ba m
  obtain ⟨m5, m⟩ := He.ba m
  obtain ⟨m6, m⟩ := He.ba m
  obtain ⟨m7, m8⟩ := He.ba m
  obtain ⟨f_d_is_integer, F_d_is_integer⟩ := c.1.def_ 0 (d := d_is_integer) rfl
  obtain ⟨f_d_is_within, F_d_is_within⟩ := c.1.def_ 1 (d := d_is_within) rfl
  obtain ⟨f_d_is_word, F_d_is_word⟩ := c.1.def_ 2 (d := d_is_word) rfl
  obtain ⟨f_d_is_leaf, F_d_is_leaf⟩ := c.1.def_ 3 (d := d_is_leaf) rfl
  obtain ⟨f_d_is_reference, F_d_is_reference⟩ := c.1.def_ 4 (d := d_is_reference) rfl
  obtain ⟨f_d_is_item, F_d_is_item⟩ := c.1.def_ 5 (d := d_is_item) rfl
  obtain ⟨f_d_is_box, F_d_is_box⟩ := c.1.def_ 6 (d := d_is_box) rfl
  obtain ⟨f_d_pair_of, F_d_pair_of⟩ := c.1.def_ 7 (d := d_pair_of) rfl
  obtain ⟨f_d_check_sign, F_d_check_sign⟩ := c.1.def_ 8 (d := d_check_sign) rfl
  obtain ⟨f_d_Verdicts_init, F_d_Verdicts_init⟩ := c.1.def_ 9 (d := d_Verdicts_init) rfl
  obtain ⟨f_d_Verdicts_of_pair, F_d_Verdicts_of_pair⟩ := c.1.def_ 10 (d := d_Verdicts_of_pair) rfl
  obtain ⟨f_d_Verdicts_go_on, F_d_Verdicts_go_on⟩ := c.1.def_ 11 (d := d_Verdicts_go_on) rfl
  obtain ⟨f_d_Verdicts_decide, F_d_Verdicts_decide⟩ := c.1.def_ 12 (d := d_Verdicts_decide) rfl
  obtain ⟨f_d_Verdicts_entered_from, F_d_Verdicts_entered_from⟩ := c.1.def_ 13 (d := d_Verdicts_entered_from) rfl
  obtain ⟨f_d_steps_until_deep, F_d_steps_until_deep⟩ := c.1.def_ 14 (d := d_steps_until_deep) rfl
  obtain ⟨f_d_Outcome_init, F_d_Outcome_init⟩ := c.1.def_ 15 (d := d_Outcome_init) rfl
  obtain ⟨f_d_Outcome_ends, F_d_Outcome_ends⟩ := c.1.def_ 16 (d := d_Outcome_ends) rfl
  obtain ⟨f_d_Outcome_measure, F_d_Outcome_measure⟩ := c.1.def_ 17 (d := d_Outcome_measure) rfl
  obtain ⟨f_d_Outcome_at, F_d_Outcome_at⟩ := c.1.def_ 18 (d := d_Outcome_at) rfl
  obtain ⟨f_d_Outcome_go_round, F_d_Outcome_go_round⟩ := c.1.def_ 19 (d := d_Outcome_go_round) rfl
  obtain ⟨f_d_equality, F_d_equality⟩ := c.1.def_ 20 (d := d_equality) rfl
  obtain ⟨f_d_stands, F_d_stands⟩ := c.1.def_ 21 (d := d_stands) rfl
  obtain ⟨f_d_answer, F_d_answer⟩ := c.1.def_ 22 (d := d_answer) rfl
  obtain ⟨f_d_first_unlike, F_d_first_unlike⟩ := c.1.def_ 23 (d := d_first_unlike) rfl
  obtain ⟨f_d_decided, F_d_decided⟩ := c.1.def_ 24 (d := d_decided) rfl
  obtain ⟨f_d_word_of, F_d_word_of⟩ := c.1.def_ 25 (d := d_word_of) rfl
  obtain ⟨f_d_ordering, F_d_ordering⟩ := c.1.def_ 26 (d := d_ordering) rfl
  obtain ⟨f_d_Heap_init, F_d_Heap_init⟩ := c.1.def_ 27 (d := d_Heap_init) rfl
  obtain ⟨f_d_Heap_of, F_d_Heap_of⟩ := c.1.def_ 28 (d := d_Heap_of) rfl
  obtain ⟨f_d_Heap_len, F_d_Heap_len⟩ := c.1.def_ 29 (d := d_Heap_len) rfl
  obtain ⟨f_d_Heap_has, F_d_Heap_has⟩ := c.1.def_ 30 (d := d_Heap_has) rfl
  obtain ⟨f_d_Heap_size, F_d_Heap_size⟩ := c.1.def_ 31 (d := d_Heap_size) rfl
  obtain ⟨f_d_Heap_need_box, F_d_Heap_need_box⟩ := c.1.def_ 32 (d := d_Heap_need_box) rfl
  obtain ⟨f_d_Heap_need_place, F_d_Heap_need_place⟩ := c.1.def_ 33 (d := d_Heap_need_place) rfl
  obtain ⟨f_d_Heap_need_item, F_d_Heap_need_item⟩ := c.1.def_ 34 (d := d_Heap_need_item) rfl
  obtain ⟨f_d_Heap_need_room, F_d_Heap_need_room⟩ := c.1.def_ 35 (d := d_Heap_need_room) rfl
  obtain ⟨f_d_Heap_new, F_d_Heap_new⟩ := c.1.def_ 36 (d := d_Heap_new) rfl
  obtain ⟨f_d_Heap_add_at, F_d_Heap_add_at⟩ := c.1.def_ 37 (d := d_Heap_add_at) rfl
  obtain ⟨f_d_Heap_add_last, F_d_Heap_add_last⟩ := c.1.def_ 38 (d := d_Heap_add_last) rfl
  obtain ⟨f_d_Heap_contents, F_d_Heap_contents⟩ := c.1.def_ 39 (d := d_Heap_contents) rfl
  obtain ⟨f_d_law_bag, F_d_law_bag⟩ := c.1.def_ 40 (d := d_law_bag) rfl
  obtain ⟨f_d_law_take, F_d_law_take⟩ := c.1.def_ 41 (d := d_law_take) rfl
  obtain ⟨f_d_law_leaf, F_d_law_leaf⟩ := c.1.def_ 42 (d := d_law_leaf) rfl
  obtain ⟨f_d_law_contents, F_d_law_contents⟩ := c.1.def_ 43 (d := d_law_contents) rfl
  obtain ⟨f_d_law_twofold, F_d_law_twofold⟩ := c.1.def_ 44 (d := d_law_twofold) rfl
  obtain ⟨f_d_law_heap, F_d_law_heap⟩ := c.1.def_ 45 (d := d_law_heap) rfl
  obtain ⟨f_d_law_shown, F_d_law_shown⟩ := c.1.def_ 46 (d := d_law_shown) rfl
  obtain ⟨f_d_law_told, F_d_law_told⟩ := c.1.def_ 47 (d := d_law_told) rfl
  obtain ⟨f_d_law_by_mark, F_d_law_by_mark⟩ := c.1.def_ 48 (d := d_law_by_mark) rfl
  obtain ⟨f_d_law_ordered_contents, F_d_law_ordered_contents⟩ := c.1.def_ 49 (d := d_law_ordered_contents) rfl
  obtain ⟨f_d_law_due, F_d_law_due⟩ := c.1.def_ 50 (d := d_law_due) rfl
  obtain ⟨f_d_law_at, F_d_law_at⟩ := c.1.def_ 51 (d := d_law_at) rfl
  obtain ⟨f_d_law, F_d_law⟩ := c.1.def_ 52 (d := d_law) rfl
  exact {
    d_is_integer := ⟨_, _, He.glo_ok X G (c.1.fact 0 (f := .glo "is_integer") rfl), He5.fun_of F_d_is_integer⟩
    d_is_within := ⟨_, _, He.glo_ok X G (c.1.fact 1 (f := .glo "is_within") rfl), He5.fun_of F_d_is_within⟩
    d_is_word := ⟨_, _, He.glo_ok X G (c.1.fact 2 (f := .glo "is_word") rfl), He5.fun_of F_d_is_word⟩
    d_is_leaf := ⟨_, _, He.glo_ok X G (c.1.fact 3 (f := .glo "is_leaf") rfl), He5.fun_of F_d_is_leaf⟩
    d_is_reference := ⟨_, _, He.glo_ok X G (c.1.fact 4 (f := .glo "is_reference") rfl), He5.fun_of F_d_is_reference⟩
    d_is_item := ⟨_, _, He.glo_ok X G (c.1.fact 5 (f := .glo "is_item") rfl), He5.fun_of F_d_is_item⟩
    d_is_box := ⟨_, _, He.glo_ok X G (c.1.fact 6 (f := .glo "is_box") rfl), He5.fun_of F_d_is_box⟩
    d_pair_of := ⟨_, _, He.glo_ok X G (c.1.fact 7 (f := .glo "pair_of") rfl), He5.fun_of F_d_pair_of⟩
    d_check_sign := ⟨_, _, He.glo_ok X G (c.1.fact 8 (f := .glo "check_sign") rfl), He5.fun_of F_d_check_sign⟩
    d_Verdicts_init := ⟨_, _, He.mkr_ok (c.1.fact 32 (f := .mkr "Verdicts") rfl), He5.fun_of F_d_Verdicts_init⟩
    d_Verdicts_of_pair := ⟨_, _, He.meth_ok (c.1.fact 50 (f := .meth "Verdicts" "of_pair") rfl), He5.fun_of F_d_Verdicts_of_pair⟩
    d_Verdicts_go_on := ⟨_, _, He.meth_ok (c.1.fact 51 (f := .meth "Verdicts" "go_on") rfl), He5.fun_of F_d_Verdicts_go_on⟩
    d_Verdicts_decide := ⟨_, _, He.meth_ok (c.1.fact 52 (f := .meth "Verdicts" "decide") rfl), He5.fun_of F_d_Verdicts_decide⟩
    d_Verdicts_entered_from := ⟨_, _, He.meth_ok (c.1.fact 53 (f := .meth "Verdicts" "entered_from") rfl), He5.fun_of F_d_Verdicts_entered_from⟩
    d_steps_until_deep := ⟨_, _, He.glo_ok X G (c.1.fact 9 (f := .glo "steps_until_deep") rfl), He5.fun_of F_d_steps_until_deep⟩
    d_Outcome_init := ⟨_, _, He.mkr_ok (c.1.fact 35 (f := .mkr "Outcome") rfl), F_d_Outcome_init⟩
    d_Outcome_ends := ⟨_, _, _, propB_ok m1, He5.fun_of F_d_Outcome_ends⟩
    d_Outcome_measure := ⟨_, _, He.meth_ok (c.1.fact 54 (f := .meth "Outcome" "measure") rfl), He5.fun_of F_d_Outcome_measure⟩
    d_Outcome_at := ⟨_, _, He.meth_ok (c.1.fact 55 (f := .meth "Outcome" "at") rfl), He5.fun_of F_d_Outcome_at⟩
    d_Outcome_go_round := ⟨_, _, He.meth_ok (c.1.fact 56 (f := .meth "Outcome" "go_round") rfl), He5.fun_of F_d_Outcome_go_round⟩
    d_equality := ⟨_, _, He.glo_ok X G (c.1.fact 10 (f := .glo "equality") rfl), He5.fun_of F_d_equality⟩
    d_stands := ⟨_, _, He.glo_ok X G (c.1.fact 11 (f := .glo "stands") rfl), He5.fun_of F_d_stands⟩
    d_answer := ⟨_, _, He.glo_ok X G (c.1.fact 12 (f := .glo "answer") rfl), He5.fun_of F_d_answer⟩
    d_first_unlike := ⟨_, _, He.glo_ok X G (c.1.fact 13 (f := .glo "first_unlike") rfl), He5.fun_of F_d_first_unlike⟩
    d_decided := ⟨_, _, He.glo_ok X G (c.1.fact 14 (f := .glo "decided") rfl), He5.fun_of F_d_decided⟩
    d_word_of := ⟨_, _, He.glo_ok X G (c.1.fact 15 (f := .glo "word_of") rfl), He5.fun_of F_d_word_of⟩
    d_ordering := ⟨_, _, He.glo_ok X G (c.1.fact 16 (f := .glo "ordering") rfl), He5.fun_of F_d_ordering⟩
    d_Heap_init := ⟨_, _, He.mkr_ok (c.1.fact 38 (f := .mkr "Heap") rfl), He5.fun_of F_d_Heap_init⟩
    d_Heap_of := ⟨_, _, _, He5.cmet_of m6 m7, He5.fun_of F_d_Heap_of⟩
    d_Heap_len := ⟨_, _, He.meth_ok (c.1.fact 57 (f := .meth "Heap" "__len__") rfl), He5.fun_of F_d_Heap_len⟩
    d_Heap_has := ⟨_, _, He.meth_ok (c.1.fact 58 (f := .meth "Heap" "__contains__") rfl), He5.fun_of F_d_Heap_has⟩
    d_Heap_size := ⟨_, _, _, propB_ok m2, He5.fun_of F_d_Heap_size⟩
    d_Heap_need_box := ⟨_, _, He.meth_ok (c.1.fact 59 (f := .meth "Heap" "need_box") rfl), He5.fun_of F_d_Heap_need_box⟩
    d_Heap_need_place := ⟨_, _, He.meth_ok (c.1.fact 60 (f := .meth "Heap" "need_place") rfl), He5.fun_of F_d_Heap_need_place⟩
    d_Heap_need_item := ⟨_, _, He.meth_ok (c.1.fact 61 (f := .meth "Heap" "need_item") rfl), He5.fun_of F_d_Heap_need_item⟩
    d_Heap_need_room := ⟨_, _, He.meth_ok (c.1.fact 62 (f := .meth "Heap" "need_room") rfl), He5.fun_of F_d_Heap_need_room⟩
    d_Heap_new := ⟨_, _, He.meth_ok (c.1.fact 63 (f := .meth "Heap" "new") rfl), He5.fun_of F_d_Heap_new⟩
    d_Heap_add_at := ⟨_, _, He.meth_ok (c.1.fact 64 (f := .meth "Heap" "add_at") rfl), He5.fun_of F_d_Heap_add_at⟩
    d_Heap_add_last := ⟨_, _, He.meth_ok (c.1.fact 65 (f := .meth "Heap" "add_last") rfl), He5.fun_of F_d_Heap_add_last⟩
    d_Heap_contents := ⟨_, _, He.meth_ok (c.1.fact 66 (f := .meth "Heap" "contents") rfl), He5.fun_of F_d_Heap_contents⟩
    d_law_bag := ⟨_, _, He.glo_ok X G (c.1.fact 17 (f := .glo "_law_bag") rfl), He5.fun_of F_d_law_bag⟩
    d_law_take := ⟨_, _, He.glo_ok X G (c.1.fact 18 (f := .glo "_law_take") rfl), He5.fun_of F_d_law_take⟩
    d_law_leaf := ⟨_, _, He.glo_ok X G (c.1.fact 19 (f := .glo "_law_leaf") rfl), He5.fun_of F_d_law_leaf⟩
    d_law_contents := ⟨_, _, He.glo_ok X G (c.1.fact 20 (f := .glo "_law_contents") rfl), He5.fun_of F_d_law_contents⟩
    d_law_twofold := ⟨_, _, He.glo_ok X G (c.1.fact 21 (f := .glo "_law_twofold") rfl), He5.fun_of F_d_law_twofold⟩
    d_law_heap := ⟨_, _, He.glo_ok X G (c.1.fact 22 (f := .glo "_law_heap") rfl), He5.fun_of F_d_law_heap⟩
    d_law_shown := ⟨_, _, He.glo_ok X G (c.1.fact 23 (f := .glo "_law_shown") rfl), He5.fun_of F_d_law_shown⟩
    d_law_told := ⟨_, _, He.glo_ok X G (c.1.fact 24 (f := .glo "_law_told") rfl), He5.fun_of F_d_law_told⟩
    d_law_by_mark := ⟨_, _, He.glo_ok X G (c.1.fact 25 (f := .glo "_law_by_mark") rfl), He5.fun_of F_d_law_by_mark⟩
    d_law_ordered_contents := ⟨_, _, He.glo_ok X G (c.1.fact 26 (f := .glo "_law_ordered_contents") rfl), He5.fun_of F_d_law_ordered_contents⟩
    d_law_due := ⟨_, _, He.glo_ok X G (c.1.fact 27 (f := .glo "_law_due") rfl), He5.fun_of F_d_law_due⟩
    d_law_at := ⟨_, _, He.glo_ok X G (c.1.fact 28 (f := .glo "_law_at") rfl), He5.fun_of F_d_law_at⟩
    d_law := ⟨_, _, He.glo_ok X G (c.1.fact 29 (f := .glo "law") rfl), He5.fun_of F_d_law⟩
    gV := He.glo_ok X G (c.1.fact 30 (f := .glo "Verdicts") rfl)
    clV := He.cls_ok (c.1.fact 31 (f := .cls "Verdicts") rfl)
    gO := He.glo_ok X G (c.1.fact 33 (f := .glo "Outcome") rfl)
    clO := He.cls_ok (c.1.fact 34 (f := .cls "Outcome") rfl)
    gH := He.glo_ok X G (c.1.fact 36 (f := .glo "Heap") rfl)
    clH := He.cls_ok (c.1.fact 37 (f := .cls "Heap") rfl)
    nV_lists := He.noat_ok (c.1.fact 39 (f := .noat "Verdicts" "lists") rfl)
    nV_known := He.noat_ok (c.1.fact 40 (f := .noat "Verdicts" "known") rfl)
    nV_deepest := He.noat_ok (c.1.fact 41 (f := .noat "Verdicts" "deepest") rfl)
    nO_word := He.noat_ok (c.1.fact 42 (f := .noat "Outcome" "word") rfl)
    nO_number := He.noat_ok (c.1.fact 43 (f := .noat "Outcome" "number") rfl)
    nO_verdicts := He.noat_ok (c.1.fact 44 (f := .noat "Outcome" "verdicts") rfl)
    nO_course := He.noat_ok (c.1.fact 45 (f := .noat "Outcome" "course") rfl)
    nO_loop := He.noat_ok (c.1.fact 46 (f := .noat "Outcome" "loop") rfl)
    nO_steps := He.noat_ok (c.1.fact 47 (f := .noat "Outcome" "steps") rfl)
    nO_depth := He.noat_ok (c.1.fact 48 (f := .noat "Outcome" "depth") rfl)
    nH_lists := He.noat_ok (c.1.fact 49 (f := .noat "Heap" "lists") rfl)
    f_isinstance := He.free_ok X G (c.1.fact 67 (f := .free "isinstance") rfl)
    f_len := He.free_ok X G (c.1.fact 68 (f := .free "len") rfl)
    f_int := He.free_ok X G (c.1.fact 69 (f := .free "int") rfl)
    f_bool := He.free_ok X G (c.1.fact 70 (f := .free "bool") rfl)
    f_str := He.free_ok X G (c.1.fact 71 (f := .free "str") rfl)
    f_tuple := He.free_ok X G (c.1.fact 72 (f := .free "tuple") rfl)
    f_list := He.free_ok X G (c.1.fact 73 (f := .free "list") rfl)
    f_range := He.free_ok X G (c.1.fact 74 (f := .free "range") rfl)
    f_zip := He.free_ok X G (c.1.fact 75 (f := .free "zip") rfl)
    f_max := He.free_ok X G (c.1.fact 76 (f := .free "max") rfl)
    f_min := He.free_ok X G (c.1.fact 77 (f := .free "min") rfl)
    f_sum := He.free_ok X G (c.1.fact 78 (f := .free "sum") rfl)
    f_abs := He.free_ok X G (c.1.fact 79 (f := .free "abs") rfl)
    f_all := He.free_ok X G (c.1.fact 80 (f := .free "all") rfl)
    f_repr := He.free_ok X G (c.1.fact 81 (f := .free "repr") rfl)
    g_BOX := He.str_ok X G (c.1.fact 82 (f := .str "BOX" "box") rfl)
    g_LETTERS := He.str_ok X G (c.1.fact 83 (f := .str "LETTERS" "abcdefghijklmnopqrstuvwxyz") rfl)
    g_MOST_LETTERS := He.int_ok X G (c.1.fact 84 (f := .int "MOST_LETTERS" 8) rfl)
    g_EQUAL := He.str_ok X G (c.1.fact 85 (f := .str "EQUAL" "equal") rfl)
    g_UNLIKE := He.str_ok X G (c.1.fact 86 (f := .str "UNLIKE" "unlike") rfl)
    g_ENDLESS := He.str_ok X G (c.1.fact 87 (f := .str "ENDLESS" "endless") rfl)
    g_TOO_DEEP := He.str_ok X G (c.1.fact 88 (f := .str "TOO_DEEP" "too deep") rfl)
    g_YES := He.str_ok X G (c.1.fact 89 (f := .str "YES" "yes") rfl)
    g_NO := He.str_ok X G (c.1.fact 90 (f := .str "NO" "no") rfl)
    g_NO_ORDER := He.str_ok X G (c.1.fact 91 (f := .str "NO_ORDER" "no order") rfl)
    g_MOST_LIMIT := He.int_ok X G (c.1.fact 92 (f := .int "MOST_LIMIT" (10 ^ 30)) rfl)
    g_LENGTHS := He.int_ok X G (c.1.fact 93 (f := .int "LENGTHS" (-1)) rfl)
    g_SIGNS := ⟨_, He.glo_ok X G (c.1.fact 94 (f := .glo "SIGNS") rfl), fun H => He.tupB_ok m8 H⟩
    rdH := creadB_ok m3
    mB := cvalB_ok m4
    mI := cvalB_ok m5 }
theorem walk_ofA {l : PySem.W.OpenLaw} {n : Nat} {q : Program} {loose : List Str} {XP : (Str → Option Value) → Heap → Prop} {YP : World → Heap → Prop} {d : DefRec} {x : Str}
    (hn : l.most = some n) (hn2 : n ≤ sizeLine) (hdf : d.params.defaults = [])
    (F : ∀ (w : World) (mg : Str → Option Value) (fa : Addr) (h : Heap), YP w h → h.Ns mainGlobals mg → mg d.name = some (.ref fa) →
      ∃ (K : PySem.W.Frag) (sp : Sp), K.In h ∧ (∀ (H : Hp) (a : Addr) (ns : List Int), ns.length ≤ n → SqL K H a (ns.map V.int) → sp [.ref a] H (fun v _ => v = .bl true) fun _ _ _ => False) ∧
        ∀ base : Heap, K.In base → base.Ns mainGlobals mg → ∃ fd : FuncData, Binds K fd [x] [] ∧ FnA l.prog w K mg base callerA fa fd [x] sp) :
    PySem.W.WalkO q loose XP YP l.row.toRowW d [] (fun f vs => PySem.call f vs) := by
  refine Att.attach_call hn hdf fun w s₀ s₁ mg mb fa o pm cd doc a vs ns G Y ho hd hcd hmg hobj hints hlen hg => ?_
  obtain ⟨K, sp, KX, hsp, hF⟩ := F w mg fa _ Y G.T.g hmg
  exact law_callA KX G.T.g G.T.b G.T.builtins G.T.nolimit hg hobj hints (Nat.le_trans hlen hn2) hF (fun H hS => hsp H a ns hlen hS)
end Rk
open PySem PySem.W PySem.Calls PyProof.Rows
theorem PySem.Challenge.cw_ringlists_k26_whole_order_by_comparing_holds : PySem.Challenge.rw_ringlists_k26_whole_order_by_comparing.Holds := by
  w_on; o_law
  refine HandSHeadRun.head_any (r := RkHd.R) (q := view (RkHd.R).prog [60]) (H := RkHd.hook) (ob := RkHd.ob) (M := 8000) (loose := RkHd.loose) (d := HandSHeadRun.topDef (RkHd.R).prog 60) (kwd := []) RkHd.ob_eq
    (by kernel_rfl) (fun s => by kernel_rfl) RkHd.run (by kernel_rfl) (by kernel_rfl) (by kernel_rfl) (by rfl) (by first | assumption | decide +kernel) (by decide +kernel) ⟨rfl, rfl, rfl, rfl, rfl, by decide +kernel⟩ ?hw ?hc
  case hw => w_witness2
  case hc =>
    refine Rk.walk_ofA (l := PySem.Challenge.rw_ringlists_k26_whole_order_by_comparing) (n := 63) (x := "_law_script") rfl (by decide) (by kernel_rfl) ?F
    intro w mg fa h Y G hmg0
    obtain ⟨K, KX, c⟩ := Y
    have hmg : mg ("law" : PySem.Str) = some (.ref fa) := by
      have e : (HandSHeadRun.topDef (RkHd.R).prog 60).name = ("law" : PySem.Str) := by kernel_rfl
      rw [← e]
      exact hmg0
    refine ⟨K, Rk.spLaw K, KX, fun H a ns hl hS => ⟨a, ns, rfl, hS, fun _ => rfl⟩, fun base hb hm => ?_⟩
    obtain ⟨f, fd, e, kp, bi, A⟩ := Rk.ok_law (P := (PySem.Challenge.rw_ringlists_k26_whole_order_by_comparing).prog) (w := w) (base := base) (Rk.txt_of KX G c)
    rw [hmg] at e
    cases e
    exact ⟨fd, bi, A callerA ⟨rfl, by decide, by decide⟩ rfl⟩
